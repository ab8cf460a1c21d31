import PyProof.Rows.All
import Wide.All
import OpenK.AllK
import Wide.FinOn
import HandS.ForMost
import HandS.Walk
import HandS.Deep
import HandS.TupAny
import HandS.IsInst
import HandS.Flow
import HandS.TupSets
import HandS.SortInts
import KE.GoesMore
import KE.GoesEnum
import HandS.Set
import HandS.SetFor
import HandS.More
import HandS.Exc
import HandS.Ends
import HandS.Small
import HandS.TryOnly
import HandS.Text
import HandS.Codes
import PyProof.ReprReads
import PyProof.ReprRoads
import PyProof.CallFns
import PyProof.AutoSeq1
import PyProof.StrBlock2
import PyProof.ExcBaseAll.ValueError
import KE.KIntText
import PyProof.StrLawsRepr
import PySem.Challenge.RW_entablature_k27_plain_values_in_octets
set_option Elab.async false
set_option linter.all false
set_option maxRecDepth 100000
set_option maxHeartbeats 4000000
/-! Dat: Python defs over plain data, mirrored by total Lean functions. -/
namespace Dat
open PySem L2
abbrev D := PyData
/-! what a value is as data; the empty dict is data too -/
mutual
inductive Dp (K : PySem.W.Frag) (H : Hp) : V → D → Prop
  | non : Dp K H .non .none
  | bl (b : Bool) : Dp K H (.bl b) (.bool b)
  | int (i : Int) : Dp K H (.int i) (.int i)
  | str (x : Str) : Dp K H (.str x) (.str x)
  | lst {p : Addr} {vs : List V} {ds : List D} : SqL K H p vs → DpAll K H vs ds → Dp K H (.ref p) (.list ds)
  | tup {p : Addr} {vs : List V} {ds : List D} : SqT K H p vs → DpAll K H vs ds → Dp K H (.ref p) (.tuple ds)
  | dk0 {p : Addr} : H p = some (.dK []) → Dp K H (.ref p) (.dict [])
inductive DpAll (K : PySem.W.Frag) (H : Hp) : List V → List D → Prop
  | nil : DpAll K H [] []
  | cons {v : V} {vs : List V} {d : D} {ds : List D} : Dp K H v d → DpAll K H vs ds → DpAll K H (v :: vs) (d :: ds)
end
mutual
/-- data without dicts, as the kit's -/
theorem dpK {K : PySem.W.Frag} {F : Hp} : ∀ (d : D) (v : V), PyData.canLay0 d = true → Dp K F v d → L2.Dp K F v d
  | .none, _, _, h => by cases h; exact .non
  | .bool b, _, _, h => by cases h; exact .bl b
  | .int i, _, _, h => by cases h; exact .int i
  | .str x, _, _, h => by cases h; exact .str x
  | .list ds, _, c, h => by
    cases h with
    | lst hs ha => exact .lst hs (dpsK ds _ c ha)
  | .tuple ds, _, c, h => by
    cases h with
    | tup hs ha => exact .tup hs (dpsK ds _ c ha)
  | .dict _, _, c, _ => by cases c
theorem dpsK {K : PySem.W.Frag} {F : Hp} : ∀ (ds : List D) (vs : List V), PyData.canLayAll0 ds = true → DpAll K F vs ds → L2.DpAll K F vs ds
  | [], _, _, h => by cases h; exact .nil
  | d :: ds, _, c, h => by
    have c : (PyData.canLay0 d && PyData.canLayAll0 ds) = true := c
    rw [Bool.and_eq_true] at c
    cases h with
    | cons h1 h2 => exact .cons (dpK d _ c.1 h1) (dpsK ds _ c.2 h2)
end
def Ex (F H : Hp) : Prop := ∀ a o, F a = some o → H a = some o
theorem Ex.refl (F : Hp) : Ex F F := fun _ _ h => h
theorem Ex.trans {F G H : Hp} (a : Ex F G) (b : Ex G H) : Ex F H := fun x o h => b x o (a x o h)
theorem Ex.free {F H : Hp} (e : Ex F H) {a : Addr} (h : H a = none) : F a = none := by
  cases q : F a with
  | none => rfl
  | some o => rw [e a o q] at h; cases h
theorem Ex.new {F : Hp} {p : Addr} {o : HO} (h : F p = none) : Ex F (upd F p o) := fun a u e => by
  rw [upd_ne (ne_of_none e h)]; exact e
theorem Ex.both {F H : Hp} (e : Ex F H) {p : Addr} {o : HO} (h : H p = none) : Ex (upd F p o) (upd H p o) := fun a u q => by
  by_cases ha : a = p
  · subst ha; rw [upd_same] at q ⊢; exact q
  · rw [upd_ne ha] at q ⊢; exact e a u q
theorem Ex.mut {F H : Hp} (e : Ex F H) {p : Addr} {o : HO} (h : F p = none) : Ex F (upd H p o) := fun a u q => by
  rw [upd_ne (ne_of_none q h)]; exact e a u q
theorem rdE {F H : Hp} {a : Addr} {u : HO} (e : Ex F H) (h : Rd F a u) : Rd H a u := by
  rcases h with h | ⟨o, h⟩
  · exact Or.inl (e a _ h)
  · exact Or.inr ⟨o, e a _ h⟩
theorem sqlE {K : PySem.W.Frag} {F H : Hp} {a : Addr} {xs : List V} (e : Ex F H) (h : SqL K F a xs) : SqL K H a xs := by
  rcases h with h | h
  · exact Or.inl (rdE e h)
  · exact Or.inr h
theorem sqtE {K : PySem.W.Frag} {F H : Hp} {a : Addr} {xs : List V} (e : Ex F H) (h : SqT K F a xs) : SqT K H a xs := by
  rcases h with h | h
  · exact Or.inl (rdE e h)
  · exact Or.inr h
mutual
theorem dpE {K : PySem.W.Frag} {F H : Hp} (e : Ex F H) : ∀ (d : D) (v : V), Dp K F v d → Dp K H v d
  | .none, _, h => by cases h; exact .non
  | .bool b, _, h => by cases h; exact .bl b
  | .int i, _, h => by cases h; exact .int i
  | .str x, _, h => by cases h; exact .str x
  | .list ds, _, h => by
    cases h with
    | lst hs ha => exact .lst (sqlE e hs) (dpsE e ds _ ha)
  | .tuple ds, _, h => by
    cases h with
    | tup hs ha => exact .tup (sqtE e hs) (dpsE e ds _ ha)
  | .dict _, _, h => by
    cases h with
    | dk0 q => exact .dk0 (e _ _ q)
theorem dpsE {K : PySem.W.Frag} {F H : Hp} (e : Ex F H) : ∀ (ds : List D) (vs : List V), DpAll K F vs ds → DpAll K H vs ds
  | [], _, h => by cases h; exact .nil
  | d :: ds, _, h => by
    cases h with
    | cons h1 h2 => exact .cons (dpE e d _ h1) (dpsE e ds _ h2)
end
theorem dps_len {K : PySem.W.Frag} {F : Hp} : ∀ {ds : List D} {vs : List V}, DpAll K F vs ds → vs.length = ds.length
  | [], _, h => by cases h; rfl
  | _ :: ds, _, h => by
    cases h with
    | cons _ h2 => rw [List.length_cons, List.length_cons, dps_len h2]
theorem dps_get {K : PySem.W.Frag} {F : Hp} : ∀ {ds : List D} {vs : List V} {i : Nat} {d : D}, DpAll K F vs ds → ds[i]? = some d → ∃ v, vs[i]? = some v ∧ Dp K F v d
  | [], _, _, _, _, e => by simp at e
  | _ :: ds, _, 0, d, h, e => by
    cases h with
    | cons h1 _ => simp at e; subst e; exact ⟨_, rfl, h1⟩
  | _ :: ds, _, i + 1, d, h, e => by
    cases h with
    | cons _ h2 =>
      obtain ⟨v, e1, e2⟩ := dps_get (i := i) h2 (by simpa using e)
      exact ⟨v, by simpa using e1, e2⟩
theorem dps_getV {K : PySem.W.Frag} {F : Hp} : ∀ {ds : List D} {vs : List V} {i : Nat} {v : V}, DpAll K F vs ds → vs[i]? = some v → ∃ d, ds[i]? = some d ∧ Dp K F v d
  | [], _, _, _, h, e => by cases h; simp at e
  | _ :: ds, _, 0, v, h, e => by
    cases h with
    | cons h1 _ => simp at e; subst e; exact ⟨_, rfl, h1⟩
  | _ :: ds, _, i + 1, v, h, e => by
    cases h with
    | cons _ h2 =>
      obtain ⟨d, e1, e2⟩ := dps_getV (i := i) h2 (by simpa using e)
      exact ⟨d, by simpa using e1, e2⟩
theorem dps_app {K : PySem.W.Frag} {F : Hp} : ∀ {ds es : List D} {vs ws : List V}, DpAll K F vs ds → DpAll K F ws es → DpAll K F (vs ++ ws) (ds ++ es)
  | [], _, _, _, h, k => by cases h; exact k
  | _ :: ds, _, _, _, h, k => by
    cases h with
    | cons h1 h2 => exact .cons h1 (dps_app h2 k)
theorem dps_set {K : PySem.W.Frag} {F : Hp} {d : D} {v : V} (q : Dp K F v d) : ∀ {ds : List D} {vs : List V} (i : Nat), DpAll K F vs ds → DpAll K F (vs.set i v) (ds.set i d)
  | [], _, _, h => by cases h; exact .nil
  | _ :: ds, _, 0, h => by
    cases h with
    | cons _ h2 => exact .cons q h2
  | _ :: ds, _, i + 1, h => by
    cases h with
    | cons h1 h2 => exact .cons h1 (dps_set q i h2)
theorem dps_take {K : PySem.W.Frag} {F : Hp} : ∀ {ds : List D} {vs : List V} (n : Nat), DpAll K F vs ds → DpAll K F (vs.take n) (ds.take n)
  | [], _, _, h => by cases h; simp; exact .nil
  | _ :: ds, _, 0, _ => by simp; exact .nil
  | _ :: ds, _, n + 1, h => by
    cases h with
    | cons h1 h2 => exact .cons h1 (dps_take n h2)
theorem dps_drop {K : PySem.W.Frag} {F : Hp} : ∀ {ds : List D} {vs : List V} (n : Nat), DpAll K F vs ds → DpAll K F (vs.drop n) (ds.drop n)
  | [], _, _, h => by cases h; simp; exact .nil
  | _ :: ds, _, 0, h => h
  | _ :: ds, _, n + 1, h => by
    cases h with
    | cons h1 h2 => exact dps_drop n h2
theorem dps_ints {K : PySem.W.Frag} {F : Hp} : ∀ (ns : List Int), DpAll K F (ns.map V.int) (ns.map PyData.int)
  | [] => .nil
  | n :: ns => .cons (.int n) (dps_ints ns)
/-! ### objects of one's own, slots, the state -/
inductive O where
  | lst (ds : List D)
  | dk (kvs : List (Key × D))
inductive Sl where
  | un
  | dat (d : D)
  | own (o : O)
  | par (o : O)
inductive Vw where
  | dat (d : D)
  | loc (i : Nat)
/-- values under keys -/
inductive KvAll (K : PySem.W.Frag) (F : Hp) : List (Key × V) → List (Key × D) → Prop
  | nil : KvAll K F [] []
  | cons {k : Key} {v : V} {d : D} {vs ds} : Dp K F v d → KvAll K F vs ds → KvAll K F ((k, v) :: vs) ((k, d) :: ds)
theorem kvE {K : PySem.W.Frag} {F H : Hp} (e : Ex F H) : ∀ {ds : List (Key × D)} {vs : List (Key × V)}, KvAll K F vs ds → KvAll K H vs ds
  | _, _, .nil => .nil
  | _, _, .cons h1 h2 => .cons (dpE e _ _ h1) (kvE e h2)
def OOk (K : PySem.W.Frag) (F H : Hp) (l : Addr) : O → Prop
  | .lst ds => ∃ vs, H l = some (.lst vs) ∧ DpAll K F vs ds
  | .dk kvs => ∃ ws, H l = some (.dK ws) ∧ KvAll K F ws kvs
theorem ooE {K : PySem.W.Frag} {F F' H H' : Hp} {l : Addr} {o : O} (e : Ex F F') (h : OOk K F H l o) (k : ∀ u, H l = some u → H' l = some u) : OOk K F' H' l o := by
  cases o with
  | lst ds => obtain ⟨vs, h1, h2⟩ := h; exact ⟨vs, k _ h1, dpsE e _ _ h2⟩
  | dk kvs => obtain ⟨vs, h1, h2⟩ := h; exact ⟨vs, k _ h1, kvE e h2⟩
theorem oo_some {K : PySem.W.Frag} {F H : Hp} {l : Addr} {o : O} (h : OOk K F H l o) : ∃ u, H l = some u := by
  cases o with
  | lst ds => obtain ⟨vs, h1, _⟩ := h; exact ⟨_, h1⟩
  | dk ds => obtain ⟨vs, h1, _⟩ := h; exact ⟨_, h1⟩
/-- what a def's run began with: the data's heap, the heap, where its own parameters' objects stand -/
structure Gh where
  K : PySem.W.Frag
  F0 : Hp
  H0 : Hp
  at_ : Nat → Option Addr
  ath : ∀ i l, at_ i = some l → ∃ u, H0 l = some u
def SlOk (g : Gh) (F H : Hp) (i : Nat) (ov : Option V) : Sl → Prop
  | .un => True
  | .dat d => ∃ v, ov = some v ∧ Dp g.K F v d
  | .own o => ∃ l, ov = some (.ref l) ∧ F l = none ∧ OOk g.K F H l o ∧ g.H0 l = none
  | .par o => ∃ l, ov = some (.ref l) ∧ F l = none ∧ OOk g.K F H l o ∧ g.at_ i = some l ∧ ∃ u, g.H0 l = some u
def isOwn : Sl → Bool
  | .own _ => true
  | .par _ => true
  | _ => false
structure Ok (g : Gh) (F H : Hp) (σ : St) (ρ : List Sl) : Prop where
  ff : Ex F H
  gf : Ex g.F0 F
  gh : ∀ a o, (∀ i, g.at_ i ≠ some a) → g.H0 a = some o → H a = some o
  nw : ∀ a o, F a = some o → g.F0 a = none → g.H0 a = none
  th : ∀ a o, g.H0 a = some o → ∃ o', H a = some o'
  len : ρ.length = σ.length
  sl : ∀ (i : Nat) (s : Sl) (ov : Option V), ρ[i]? = some s → σ[i]? = some ov → SlOk g F H i ov s
  dis : ∀ (i j : Nat) (s t : Sl) (l : Addr), ρ[i]? = some s → ρ[j]? = some t → isOwn s = true → isOwn t = true → σ[i]? = some (some (V.ref l)) → σ[j]? = some (some (V.ref l)) → i = j
section
variable {g : Gh} {F F' H H' : Hp} {σ : St} {ρ : List Sl}
theorem SlOk.mono {i : Nat} {ov : Option V} {s : Sl} (h : SlOk g F H i ov s) (e : Ex F F') (k : ∀ l u, F l = none → H l = some u → H' l = some u) (n : ∀ l u, H l = some u → F l = none → F' l = none) : SlOk g F' H' i ov s := by
  cases s with
  | un => trivial
  | dat d => obtain ⟨v, h1, h2⟩ := h; exact ⟨v, h1, dpE e _ _ h2⟩
  | own o =>
    obtain ⟨l, h1, h2, h3, h4⟩ := h
    obtain ⟨u, hu⟩ := oo_some h3
    exact ⟨l, h1, n l u hu h2, ooE e h3 fun u hu => k l u h2 hu, h4⟩
  | par o =>
    obtain ⟨l, h1, h2, h3, h4⟩ := h
    obtain ⟨u, hu⟩ := oo_some h3
    exact ⟨l, h1, n l u hu h2, ooE e h3 fun u hu => k l u h2 hu, h4⟩
/-- both heaps grow by new objects -/
theorem Ok.grow (k : Ok g F H σ ρ) (e : Ex F F') (f : Ex F' H') (h : Ex H H') (n : ∀ a o, F' a = some o → F a = none → H a = none) : Ok g F' H' σ ρ where
  ff := f
  gf := k.gf.trans e
  gh := fun a o q r => h a o (k.gh a o q r)
  nw := fun a o q r => by
    cases w : F a with
    | some u => exact k.nw a u w r
    | none =>
      cases z : g.H0 a with
      | none => rfl
      | some u =>
        obtain ⟨o', e'⟩ := k.th a u z
        rw [n a o q w] at e'; cases e'
  th := fun a o q => by
    obtain ⟨o', e'⟩ := k.th a o q
    exact ⟨o', h a o' e'⟩
  len := k.len
  sl := fun i s ov q r => (k.sl i s ov q r).mono e (fun l u _ z => h l u z) fun l u z w => by
    cases q : F' l with
    | none => rfl
    | some o => rw [n l o q w] at z; cases z
  dis := k.dis
/-- a new object, data -/
theorem Ok.newD (k : Ok g F H σ ρ) {p : Addr} {o : HO} (hp : H p = none) : Ex F (upd F p o) ∧ Ok g (upd F p o) (upd H p o) σ ρ :=
  ⟨Ex.new (k.ff.free hp), k.grow (Ex.new (k.ff.free hp)) (k.ff.both hp) (Ex.new hp) fun a u q n => by
    by_cases ha : a = p
    · subst ha; exact hp
    · rw [upd_ne ha, n] at q; cases q⟩
/-- a new object that is not data (yet) -/
theorem Ok.newH (k : Ok g F H σ ρ) {p : Addr} {o : HO} (hp : H p = none) : Ok g F (upd H p o) σ ρ :=
  k.grow (Ex.refl F) (k.ff.trans (Ex.new hp)) (Ex.new hp) fun a u q n => by rw [n] at q; cases q
theorem Ok.fresh (k : Ok g F H σ ρ) {p : Addr} (hp : H p = none) : g.H0 p = none := by
  cases q : g.H0 p with
  | none => rfl
  | some o =>
    obtain ⟨o', e⟩ := k.th p o q
    rw [e] at hp; cases hp
theorem get_set {α : Type} {l : List α} {i j : Nat} {x y : α} (h : (l.set i x)[j]? = some y) : (j = i ∧ y = x ∧ i < l.length) ∨ (j ≠ i ∧ l[j]? = some y) := by
  rw [List.getElem?_set] at h
  by_cases e : i = j
  · subst e
    rw [if_pos rfl] at h
    split at h
    · exact .inl ⟨rfl, (Option.some.inj h).symm, by assumption⟩
    · cases h
  · rw [if_neg e] at h
    exact .inr ⟨fun z => e z.symm, h⟩
/-- a slot gets data -/
theorem Ok.setD (k : Ok g F H σ ρ) {i : Nat} {v : V} {d : D} (h : Dp g.K F v d) : Ok g F H (σ.set i (some v)) (ρ.set i (.dat d)) where
  ff := k.ff
  gf := k.gf
  gh := k.gh
  nw := k.nw
  th := k.th
  len := by simp [k.len]
  sl := fun j s ov q r => by
    rcases get_set q with ⟨rfl, rfl, _⟩ | ⟨h1, h2⟩
    · rcases get_set r with ⟨_, rfl, _⟩ | ⟨h3, _⟩
      · exact ⟨v, rfl, h⟩
      · exact absurd rfl h3
    · rcases get_set r with ⟨h3, _⟩ | ⟨_, h4⟩
      · exact absurd h3 h1
      · exact k.sl j s ov h2 h4
  dis := fun a b s t l q r hs ht w z => by
    rcases get_set q with ⟨rfl, rfl, _⟩ | ⟨h1, h2⟩
    · cases hs
    · rcases get_set r with ⟨rfl, rfl, _⟩ | ⟨h3, h4⟩
      · cases ht
      · rcases get_set w with ⟨h5, _⟩ | ⟨_, h5⟩
        · exact absurd h5 h1
        · rcases get_set z with ⟨h6, _⟩ | ⟨_, h6⟩
          · exact absurd h6 h3
          · exact k.dis a b s t l h2 h4 hs ht h5 h6
/-- a slot gets a new object of one's own -/
theorem Ok.setO (k : Ok g F H σ ρ) {i : Nat} {p : Addr} {u : HO} {o : O} (hp : H p = none) (ho : OOk g.K F (upd H p u) p o) : Ok g F (upd H p u) (σ.set i (some (.ref p))) (ρ.set i (.own o)) := by
  have k1 := k.newH (o := u) hp
  have ne : ∀ (j : Nat) (s : Sl) (l : Addr), ρ[j]? = some s → isOwn s = true → σ[j]? = some (some (.ref l)) → l ≠ p := fun j s l q hs w z => by
    have hsl := k.sl j s _ q w
    subst z
    cases s with
    | un => cases hs
    | dat d => cases hs
    | own o =>
      obtain ⟨l', h1, _, h3, _⟩ := hsl
      cases h1
      obtain ⟨u, hu⟩ := oo_some h3
      rw [hp] at hu; cases hu
    | par o =>
      obtain ⟨l', h1, _, h3, _⟩ := hsl
      cases h1
      obtain ⟨u, hu⟩ := oo_some h3
      rw [hp] at hu; cases hu
  refine ⟨k1.ff, k1.gf, k1.gh, k1.nw, k1.th, by simp [k.len], fun j s ov q r => ?_, fun a b s t l q r hs ht w z => ?_⟩
  · rcases get_set q with ⟨rfl, rfl, _⟩ | ⟨h1, h2⟩
    · rcases get_set r with ⟨_, rfl, _⟩ | ⟨h3, _⟩
      · exact ⟨p, rfl, k.ff.free hp, ho, k.fresh hp⟩
      · exact absurd rfl h3
    · rcases get_set r with ⟨h3, _⟩ | ⟨_, h4⟩
      · exact absurd h3 h1
      · exact k1.sl j s ov h2 h4
  · rcases get_set q with ⟨rfl, rfl, _⟩ | ⟨h1, h2⟩
    · rcases get_set w with ⟨_, e, _⟩ | ⟨h3, _⟩
      · cases e
        rcases get_set r with ⟨rfl, _⟩ | ⟨h3, h4⟩
        · rfl
        · rcases get_set z with ⟨h5, _⟩ | ⟨_, h5⟩
          · exact absurd h5 h3
          · exact absurd rfl (ne b t p h4 ht h5)
      · exact absurd rfl h3
    · rcases get_set w with ⟨h5, _⟩ | ⟨_, h5⟩
      · exact absurd h5 h1
      · rcases get_set r with ⟨rfl, _⟩ | ⟨h3, h4⟩
        · rcases get_set z with ⟨_, e, _⟩ | ⟨h6, _⟩
          · cases e
            exact absurd rfl (ne a s p h2 hs h5)
          · exact absurd rfl h6
        · rcases get_set z with ⟨h6, _⟩ | ⟨_, h6⟩
          · exact absurd h6 h3
          · exact k.dis a b s t l h2 h4 hs ht h5 h6
/-- where a slot's own object stands -/
theorem Ok.at (k : Ok g F H σ ρ) {i : Nat} {s : Sl} (h : ρ[i]? = some s) : ∃ ov, σ[i]? = some ov ∧ SlOk g F H i ov s := by
  have hi : i < σ.length := by rw [← k.len]; exact (List.getElem?_eq_some_iff.mp h).1
  exact ⟨σ[i], by simp [hi], k.sl i s _ h (by simp [hi])⟩
/-- the content of a slot's own object is changed -/
theorem Ok.mutO (k : Ok g F H σ ρ) {i : Nat} {l : Addr} {s s' : Sl} {u : HO} {o' : O} (hs : ρ[i]? = some s) (hv : σ[i]? = some (some (.ref l)))
    (he : (∃ o, s = .own o ∧ s' = .own o') ∨ (∃ o, s = .par o ∧ s' = .par o')) (ho : OOk g.K F (upd H l u) l o') : Ok g F (upd H l u) σ (ρ.set i s') := by
  have own : isOwn s = true := by rcases he with ⟨o, rfl, _⟩ | ⟨o, rfl, _⟩ <;> rfl
  have own' : isOwn s' = true := by rcases he with ⟨o, _, rfl⟩ | ⟨o, _, rfl⟩ <;> rfl
  have hsl := k.sl i s _ hs hv
  have hFl : F l = none := by
    rcases he with ⟨o, rfl, _⟩ | ⟨o, rfl, _⟩
    · obtain ⟨l', h1, h2, _⟩ := hsl; cases h1; exact h2
    · obtain ⟨l', h1, h2, _⟩ := hsl; cases h1; exact h2
  have hHl : ∃ u, H l = some u := by
    rcases he with ⟨o, rfl, _⟩ | ⟨o, rfl, _⟩
    · obtain ⟨l', h1, _, h3, _⟩ := hsl; cases h1; exact oo_some h3
    · obtain ⟨l', h1, _, h3, _⟩ := hsl; cases h1; exact oo_some h3
  refine ⟨k.ff.mut hFl, k.gf, fun a o q r => ?_, k.nw, fun a o q => ?_, by simp [k.len], fun j t ov q r => ?_, fun a b t w m q r ht hw y z => ?_⟩
  · have ne : a ≠ l := by
      rintro rfl
      rcases he with ⟨o, rfl, _⟩ | ⟨o, rfl, _⟩
      · obtain ⟨l', h1, _, _, h4⟩ := hsl; cases h1; rw [h4] at r; cases r
      · obtain ⟨l', h1, _, _, h4, _⟩ := hsl; cases h1; exact q i h4
    rw [upd_ne ne]; exact k.gh a o q r
  · by_cases ha : a = l
    · subst ha; exact ⟨u, upd_same⟩
    · obtain ⟨o', e⟩ := k.th a o q
      exact ⟨o', by rw [upd_ne ha]; exact e⟩
  · rcases get_set q with ⟨rfl, rfl, _⟩ | ⟨h1, h2⟩
    · rw [hv] at r; cases r
      rcases he with ⟨o, rfl, rfl⟩ | ⟨o, rfl, rfl⟩
      · obtain ⟨l', h1, h2, h3, h4⟩ := hsl; cases h1; exact ⟨l, rfl, hFl, ho, h4⟩
      · obtain ⟨l', h1, h2, h3, h4⟩ := hsl; cases h1; exact ⟨l, rfl, hFl, ho, h4⟩
    · have old := k.sl j t ov h2 r
      cases t with
      | un => trivial
      | dat d => exact old
      | own o =>
        obtain ⟨m, e1, e2, e3, e4⟩ := old
        have ne : m ≠ l := by
          rintro rfl
          subst e1
          exact h1 (k.dis j i _ s m h2 hs rfl own r hv)
        exact ⟨m, e1, e2, ooE (Ex.refl F) e3 fun w hw => by rw [upd_ne ne]; exact hw, e4⟩
      | par o =>
        obtain ⟨m, e1, e2, e3, e4⟩ := old
        have ne : m ≠ l := by
          rintro rfl
          subst e1
          exact h1 (k.dis j i _ s m h2 hs rfl own r hv)
        exact ⟨m, e1, e2, ooE (Ex.refl F) e3 fun w hw => by rw [upd_ne ne]; exact hw, e4⟩
  · have t1 : ∃ t', ρ[a]? = some t' ∧ isOwn t' = true := by
      rcases get_set q with ⟨rfl, rfl, _⟩ | ⟨_, h2⟩
      · exact ⟨s, hs, own⟩
      · exact ⟨t, h2, ht⟩
    have t2 : ∃ t', ρ[b]? = some t' ∧ isOwn t' = true := by
      rcases get_set r with ⟨rfl, rfl, _⟩ | ⟨_, h2⟩
      · exact ⟨s, hs, own⟩
      · exact ⟨w, h2, hw⟩
    obtain ⟨t', e1, e2⟩ := t1
    obtain ⟨w', e3, e4⟩ := t2
    exact k.dis a b t' w' m e1 e3 e2 e4 y z
/-- a slot's own list becomes data -/
theorem Ok.freeze (k : Ok g F H σ ρ) {i : Nat} {ds : List D} (hs : ρ[i]? = some (.own (.lst ds))) :
    ∃ l F', σ[i]? = some (some (.ref l)) ∧ Ex F F' ∧ Dp g.K F' (.ref l) (.list ds) ∧ Ok g F' H σ (ρ.set i (.dat (.list ds))) := by
  obtain ⟨ov, hv, l, rfl, hF, ⟨vs, h1, h2⟩, h4⟩ := k.at hs
  have e : Ex F (upd F l (.lst vs)) := Ex.new hF
  have hd : Dp g.K (upd F l (.lst vs)) (.ref l) (.list ds) := .lst (.inl (.inl upd_same)) (dpsE e _ _ h2)
  refine ⟨l, _, hv, e, hd, ⟨fun a o q => ?_, k.gf.trans e, k.gh, fun a o q r => ?_, k.th, by simp [k.len], fun j t ov q r => ?_, fun a b t w m q r ht hw y z => ?_⟩⟩
  · by_cases ha : a = l
    · subst ha; rw [upd_same] at q; cases q; exact h1
    · rw [upd_ne ha] at q; exact k.ff a o q
  · by_cases ha : a = l
    · subst ha; exact h4
    · rw [upd_ne ha] at q; exact k.nw a o q r
  · rcases get_set q with ⟨rfl, rfl, _⟩ | ⟨ne, h2⟩
    · rw [hv] at r; cases r; exact ⟨_, rfl, hd⟩
    · have old := k.sl j t ov h2 r
      cases t with
      | un => trivial
      | dat d => obtain ⟨v, e1, e2⟩ := old; exact ⟨v, e1, dpE e _ _ e2⟩
      | own o =>
        obtain ⟨m, e1, e2, e3, e4⟩ := old
        have nm : m ≠ l := by
          rintro rfl
          subst e1
          exact ne (k.dis j i _ _ m h2 hs rfl rfl r hv)
        exact ⟨m, e1, by rw [upd_ne nm]; exact e2, ooE e e3 fun _ z => z, e4⟩
      | par o =>
        obtain ⟨m, e1, e2, e3, e4⟩ := old
        have nm : m ≠ l := by
          rintro rfl
          subst e1
          exact ne (k.dis j i _ _ m h2 hs rfl rfl r hv)
        exact ⟨m, e1, by rw [upd_ne nm]; exact e2, ooE e e3 fun _ z => z, e4⟩
  · rcases get_set q with ⟨rfl, rfl, _⟩ | ⟨_, h3⟩
    · cases ht
    · rcases get_set r with ⟨rfl, rfl, _⟩ | ⟨_, h5⟩
      · cases hw
      · exact k.dis a b t w m h3 h5 ht hw y z
/-- forgetting a slot -/
theorem Ok.drop (k : Ok g F H σ ρ) (i : Nat) : Ok g F H σ (ρ.set i .un) where
  ff := k.ff
  gf := k.gf
  gh := k.gh
  nw := k.nw
  th := k.th
  len := by simp [k.len]
  sl := fun j s ov q r => by
    rcases get_set q with ⟨rfl, rfl, _⟩ | ⟨h1, h2⟩
    · trivial
    · exact k.sl j s ov h2 r
  dis := fun a b s t l q r hs ht w z => by
    rcases get_set q with ⟨rfl, rfl, _⟩ | ⟨h1, h2⟩
    · cases hs
    · rcases get_set r with ⟨rfl, rfl, _⟩ | ⟨h3, h4⟩
      · cases ht
      · exact k.dis a b s t l h2 h4 hs ht w z
/-- both forget a slot -/
theorem Ok.wipe1 (k : Ok g F H σ ρ) (i : Nat) : Ok g F H (σ.set i none) (ρ.set i .un) where
  ff := k.ff
  gf := k.gf
  gh := k.gh
  nw := k.nw
  th := k.th
  len := by simp [k.len]
  sl := fun j s ov q r => by
    rcases get_set q with ⟨rfl, rfl, _⟩ | ⟨h1, h2⟩
    · trivial
    · rcases get_set r with ⟨h3, _⟩ | ⟨_, h4⟩
      · exact absurd h3 h1
      · exact k.sl j s ov h2 h4
  dis := fun a b s t l q r hs ht w z => by
    rcases get_set q with ⟨rfl, rfl, _⟩ | ⟨h1, h2⟩
    · cases hs
    · rcases get_set r with ⟨rfl, rfl, _⟩ | ⟨h3, h4⟩
      · cases ht
      · rcases get_set w with ⟨h5, _⟩ | ⟨_, h5⟩
        · exact absurd h5 h1
        · rcases get_set z with ⟨h6, _⟩ | ⟨_, h6⟩
          · exact absurd h6 h3
          · exact k.dis a b s t l h2 h4 hs ht h5 h6
/-! ### a part of a run, seen from its own start -/
open Classical in
noncomputable def subH (H : Hp) (σ : St) (ρ : List Sl) : Hp := fun a => if (∃ (i : Nat) (o : O), ρ[i]? = some (.own o) ∧ σ[i]? = some (some (V.ref a))) then none else H a
theorem subH_some {a : Addr} {o : HO} (h : subH H σ ρ a = some o) : H a = some o ∧ ∀ (i : Nat) (o : O), ρ[i]? = some (.own o) → σ[i]? ≠ some (some (V.ref a)) := by
  unfold subH at h
  split at h
  · cases h
  · rename_i n
    exact ⟨h, fun i o q r => n ⟨i, o, q, r⟩⟩
theorem subH_none {a : Addr} (h : subH H σ ρ a = none) : H a = none ∨ ∃ (i : Nat) (o : O), ρ[i]? = some (.own o) ∧ σ[i]? = some (some (V.ref a)) := by
  unfold subH at h
  split at h
  · exact .inr (by assumption)
  · exact .inl h
theorem subH_of {a : Addr} {o : HO} (h : H a = some o) (n : ∀ (i : Nat) (o : O), ρ[i]? = some (.own o) → σ[i]? ≠ some (some (V.ref a))) : subH H σ ρ a = some o := by
  unfold subH
  rw [if_neg (fun ⟨i, o, q, r⟩ => n i o q r)]
  exact h
theorem Ok.atN (k : Ok g F H σ ρ) {i : Nat} {l : Addr} (h : g.at_ i = some l) : ∀ (j : Nat) (o : O), ρ[j]? = some (.own o) → σ[j]? ≠ some (some (V.ref l)) := fun j o q r => by
  obtain ⟨l', e1, _, _, e4⟩ := k.sl j _ _ q r
  cases e1
  obtain ⟨u, hu⟩ := g.ath i l h
  rw [e4] at hu; cases hu
noncomputable def Ok.sub (k : Ok g F H σ ρ) : Gh := ⟨g.K, F, subH H σ ρ, g.at_, fun i l h => by
  obtain ⟨u, hu⟩ := g.ath i l h
  obtain ⟨o', e⟩ := k.th l u hu
  exact ⟨o', subH_of e (k.atN h)⟩⟩
theorem Ok.subOk (k : Ok g F H σ ρ) : Ok k.sub F H σ ρ where
  ff := k.ff
  gf := Ex.refl F
  gh := fun a o _ r => (subH_some r).1
  nw := fun a o q r => by
    have r : F a = none := r
    rw [r] at q; cases q
  th := fun a o r => ⟨o, (subH_some r).1⟩
  len := k.len
  sl := fun i s ov q r => by
    have old := k.sl i s ov q r
    cases s with
    | un => trivial
    | dat d => exact old
    | own o =>
      obtain ⟨l, e1, e2, e3, e4⟩ := old
      subst e1
      refine ⟨l, rfl, e2, e3, ?_⟩
      show subH H σ ρ l = none
      unfold subH
      rw [if_pos ⟨i, o, q, r⟩]
    | par o =>
      obtain ⟨l, e1, e2, e3, e4, e5⟩ := old
      obtain ⟨u, hu⟩ := oo_some e3
      exact ⟨l, e1, e2, e3, e4, u, subH_of hu (k.atN e4)⟩
  dis := k.dis
theorem Ok.back {σ' : St} {ρ' : List Sl} (k : Ok g F H σ ρ) (q : Ok k.sub F' H' σ' ρ') : Ok g F' H' σ' ρ' where
  ff := q.ff
  gf := k.gf.trans q.gf
  gh := fun a o n r => q.gh a o n (subH_of (k.gh a o n r) fun i o' w z => by
    obtain ⟨l, e1, _, _, e4⟩ := k.sl i _ _ w z
    cases e1
    rw [r] at e4; cases e4)
  nw := fun a o r n => by
    cases w : F a with
    | some u => exact k.nw a u w n
    | none =>
      have z : subH H σ ρ a = none := q.nw a o r w
      rcases subH_none z with z | ⟨i, o', z1, z2⟩
      · exact k.fresh z
      · obtain ⟨l, e1, _, _, e4⟩ := k.sl i _ _ z1 z2
        cases e1
        exact e4
  th := fun a o r => by
    obtain ⟨o', e⟩ := k.th a o r
    exact q.th a o' (subH_of e fun i o' w z => by
      obtain ⟨l, e1, _, _, e4⟩ := k.sl i _ _ w z
      cases e1
      rw [r] at e4; cases e4)
  len := q.len
  sl := fun i s ov w z => by
    have old := q.sl i s ov w z
    cases s with
    | un => trivial
    | dat d => exact old
    | own o =>
      obtain ⟨l, e1, e2, e3, e4⟩ := old
      refine ⟨l, e1, e2, e3, ?_⟩
      rcases subH_none e4 with z | ⟨i, o', z1, z2⟩
      · exact k.fresh z
      · obtain ⟨l, e1, _, _, e4⟩ := k.sl i _ _ z1 z2
        cases e1
        exact e4
    | par o =>
      obtain ⟨l, e1, e2, e3, e4, e5⟩ := old
      exact ⟨l, e1, e2, e3, e4, g.ath i l e4⟩
  dis := q.dis
/-- an object of no slot: it stays -/
theorem Ok.stay {σ' : St} {ρ' : List Sl} (k : Ok g F H σ ρ) (q : Ok k.sub F' H' σ' ρ') {a : Addr} {o : HO} (ha : H a = some o) (hF : F a = none) (n : ∀ (i : Nat) (o : O), ρ[i]? = some (.own o) → σ[i]? ≠ some (some (V.ref a))) (m : ∀ i, g.at_ i ≠ some a) :
    H' a = some o ∧ F' a = none ∧ ∀ (i : Nat) (o : O), ρ'[i]? = some (.own o) → σ'[i]? ≠ some (some (V.ref a)) := by
  have hs := subH_of ha n
  refine ⟨q.gh a o m hs, ?_, fun i o' w z => ?_⟩
  · cases r : F' a with
    | none => rfl
    | some u =>
      have z : subH H σ ρ a = none := q.nw a u r hF
      rw [hs] at z; cases z
  · obtain ⟨l, e1, _, _, e4⟩ := q.sl i _ _ w z
    cases e1
    have z : subH H σ ρ a = none := e4
    rw [hs] at z; cases z
/-- an object of no slot becomes data -/
theorem Ok.take (k : Ok g F H σ ρ) {a : Addr} {vs : List V} {ds : List D} (ha : H a = some (.lst vs)) (hF : F a = none) (hds : DpAll g.K F vs ds) (h0 : g.H0 a = none) (n : ∀ (i : Nat) (o : O), ρ[i]? = some (.own o) → σ[i]? ≠ some (some (V.ref a))) (m : ∀ i, g.at_ i ≠ some a) :
    Ex F (upd F a (.lst vs)) ∧ Ok g (upd F a (.lst vs)) H σ ρ ∧ Dp g.K (upd F a (.lst vs)) (.ref a) (.list ds) := by
  have e : Ex F (upd F a (.lst vs)) := Ex.new hF
  refine ⟨e, ⟨fun b o q => ?_, k.gf.trans e, k.gh, fun b o q r => ?_, k.th, k.len, fun j t ov q r => ?_, k.dis⟩, .lst (.inl (.inl upd_same)) (dpsE e _ _ hds)⟩
  · by_cases hb : b = a
    · subst hb; rw [upd_same] at q; cases q; exact ha
    · rw [upd_ne hb] at q; exact k.ff b o q
  · by_cases hb : b = a
    · subst hb; exact h0
    · rw [upd_ne hb] at q; exact k.nw b o q r
  · have old := k.sl j t ov q r
    cases t with
    | un => trivial
    | dat d => obtain ⟨v, e1, e2⟩ := old; exact ⟨v, e1, dpE e _ _ e2⟩
    | own o =>
      obtain ⟨l, e1, e2, e3, e4⟩ := old
      have nl : l ≠ a := by
        rintro rfl
        subst e1
        exact n j o q r
      exact ⟨l, e1, by rw [upd_ne nl]; exact e2, ooE e e3 fun _ z => z, e4⟩
    | par o =>
      obtain ⟨l, e1, e2, e3, e4, e5⟩ := old
      have nl : l ≠ a := by
        rintro rfl
        exact m j e4
      exact ⟨l, e1, by rw [upd_ne nl]; exact e2, ooE e e3 fun _ z => z, e4, e5⟩
/-- other values in the slots that hold nothing -/
theorem Ok.slots {σ' : St} {ρ' : List Sl} (k : Ok g F H σ ρ) (hl : ρ'.length = σ'.length) (h : ∀ (i : Nat) (s : Sl), ρ'[i]? = some s → s = .un ∨ (ρ[i]? = some s ∧ σ'[i]? = σ[i]?)) : Ok g F H σ' ρ' where
  ff := k.ff
  gf := k.gf
  gh := k.gh
  nw := k.nw
  th := k.th
  len := hl
  sl := fun i s ov q r => by
    rcases h i s q with rfl | ⟨h1, h2⟩
    · trivial
    · exact k.sl i s ov h1 (by rw [← h2]; exact r)
  dis := fun a b s t l q r hs ht w z => by
    rcases h a s q with rfl | ⟨h1, h2⟩
    · cases hs
    · rcases h b t r with rfl | ⟨h3, h4⟩
      · cases ht
      · exact k.dis a b s t l h1 h3 hs ht (by rw [← h2]; exact w) (by rw [← h4]; exact z)
def wipeS (ρ : List Sl) : List Nat → List Sl
  | [] => ρ
  | v :: vs => (wipeS ρ vs).set v .un
theorem wipeS_length (ρ : List Sl) : ∀ vs : List Nat, (wipeS ρ vs).length = ρ.length
  | [] => rfl
  | v :: vs => by unfold wipeS; rw [List.length_set, wipeS_length ρ vs]
theorem wipeS_get {ρ : List Sl} {i : Nat} {s : Sl} : ∀ {vs : List Nat}, (wipeS ρ vs)[i]? = some s → s = .un ∨ (ρ[i]? = some s ∧ i ∉ vs)
  | [], h => .inr ⟨h, by simp⟩
  | v :: vs, h => by
    unfold wipeS at h
    rcases get_set h with ⟨_, rfl, _⟩ | ⟨h1, h2⟩
    · exact .inl rfl
    · rcases wipeS_get h2 with e | ⟨h3, h4⟩
      · exact .inl e
      · exact .inr ⟨h3, by simp only [List.mem_cons, not_or]; exact ⟨h1, h4⟩⟩
theorem Ok.wiped (k : Ok g F H σ ρ) (vs : List Nat) : Ok g F H (wipe σ vs) (wipeS ρ vs) :=
  k.slots (by rw [wipeS_length, wipe_length]; exact k.len) fun i s h => (wipeS_get h).imp id fun h => ⟨h.1, wipe_out h.2⟩
theorem Ok.unwiped {vs : List Nat} (k : Ok g F H (wipe σ vs) ρ) : Ok g F H σ (wipeS ρ vs) :=
  k.slots (by rw [wipeS_length, k.len, wipe_length]) fun i s h => (wipeS_get h).imp id fun h => ⟨h.1, (wipe_out h.2).symm⟩
theorem wipe_set {σ : St} {x : Option V} {i : Nat} : ∀ {vs : List Nat}, i ∈ vs → wipe (σ.set i x) vs = wipe σ vs
  | [], h => by cases h
  | v :: vs, h => by
    unfold wipe
    by_cases hi : i ∈ vs
    · rw [wipe_set hi]
    · have e : i = v := by
        rcases List.mem_cons.mp h with e | e
        · exact e
        · exact absurd e hi
      subst e
      apply List.ext_getElem?
      intro j
      by_cases hj : i = j
      · subst hj
        rw [List.getElem?_set, List.getElem?_set, if_pos rfl, if_pos rfl, wipe_length, wipe_length, List.length_set]
      · rw [List.getElem?_set_ne hj, List.getElem?_set_ne hj]
        by_cases hjv : j ∈ vs
        · have h1 : ∀ (τ : St), (wipe τ vs)[j]? = if j < τ.length then some none else none := by
            intro τ
            cases q : (wipe τ vs)[j]? with
            | none =>
              have := List.getElem?_eq_none_iff.mp q
              rw [wipe_length] at this
              rw [if_neg (by omega)]
            | some z =>
              have hlt := (List.getElem?_eq_some_iff.mp q).1
              rw [wipe_length] at hlt
              rw [if_pos hlt]
              cases z with
              | none => rfl
              | some x => exact absurd hjv (wipe_some q).2
          rw [h1, h1, List.length_set]
        · rw [wipe_out hjv, wipe_out hjv, List.getElem?_set_ne hj]
theorem wipe_idem (σ : St) : ∀ (vs ws : List Nat), (∀ i ∈ ws, i ∈ vs) → wipe (wipe σ ws) vs = wipe σ vs
  | vs, [], _ => rfl
  | vs, w :: ws, h => by
    show wipe ((wipe σ ws).set w none) vs = wipe σ vs
    rw [wipe_set (h w List.mem_cons_self), wipe_idem σ vs ws fun i hi => h i (List.mem_cons_of_mem _ hi)]
end
end Dat
namespace Dat
open PySem L2
/-! ### results -/
inductive Rs (α : Type) where
  | ok (a : α)
  | er (c : Nat)
abbrev M (α : Type) := List Sl → Option (Rs α × List Sl)
def mRet {α : Type} (a : α) : M α := fun ρ => some (.ok a, ρ)
def mBind {α β : Type} (m : M α) (f : α → M β) : M β := fun ρ => match m ρ with
  | none => none
  | some (.er c, ρ') => some (.er c, ρ')
  | some (.ok a, ρ') => f a ρ'
def mLift {α : Type} (o : Option α) : M α := fun ρ => match o with
  | none => none
  | some a => some (.ok a, ρ)
inductive Fl where
  | nx | bk | ct
  | rt (d : D)
  | er (c : Nat)
abbrev MS := List Sl → Option (Fl × List Sl)
def VwOk (g : Gh) (σ : St) (F : Hp) (v : V) : Vw → Prop
  | .dat d => Dp g.K F v d
  | .loc i => σ[i]? = some (some v)
theorem VwOk.mono {g : Gh} {σ : St} {F F' : Hp} {v : V} {w : Vw} (h : VwOk g σ F v w) (e : Ex F F') : VwOk g σ F' v w := by
  cases w with
  | dat d => exact dpE e _ _ h
  | loc i => exact h
def VwsOk (g : Gh) (σ : St) (F : Hp) : List V → List Vw → Prop
  | [], [] => True
  | v :: vs, w :: ws => VwOk g σ F v w ∧ VwsOk g σ F vs ws
  | _, _ => False
theorem VwsOk.mono {g : Gh} {σ : St} {F F' : Hp} (e : Ex F F') : ∀ {vs : List V} {ws : List Vw}, VwsOk g σ F vs ws → VwsOk g σ F' vs ws
  | [], [], _ => trivial
  | _ :: _, _ :: _, h => ⟨h.1.mono e, VwsOk.mono e h.2⟩
  | [], _ :: _, h => h.elim
  | _ :: _, [], h => h.elim
abbrev EWT := Nat → Hp → Prop
def EW0 : EWT := fun _ _ => False
/-- from here the code t does what m tells -/
def At (EW : EWT) (g : Gh) (F : Hp) (H : Hp) (σ : St) {α β : Type} (R : Hp → α → β → Prop) (t : Hp → (α → Hp → Prop) → Prop) (m : Option (Rs β × List Sl)) : Prop :=
  ∀ r ρ', m = some (r, ρ') → ∀ Q : α → Hp → Prop, (∀ F' H', Ex F F' → Ok g F' H' σ ρ' → match r with
    | .ok b => ∀ a, R F' a b → Q a H'
    | .er c => EW c H') → t H Q
section
variable {EW : EWT} {g : Gh} {F H : Hp} {σ : St} {ρ : List Sl} {α β γ δ : Type}
theorem At.bind {R1 : Hp → α → β → Prop} {R2 : Hp → γ → δ → Prop} {t : Hp → (α → Hp → Prop) → Prop} {k : α → Hp → (γ → Hp → Prop) → Prop} {m : M β} {mk : β → M δ} (h : At EW g F H σ R1 t (m ρ))
    (hk : ∀ F' H' ρ' a b, Ex F F' → Ok g F' H' σ ρ' → R1 F' a b → At EW g F' H' σ R2 (k a) (mk b ρ')) : At EW g F H σ R2 (fun H Q => t H fun a H1 => k a H1 Q) (mBind m mk ρ) := by
  intro r ρ' e Q q
  unfold mBind at e
  cases hm : m ρ with
  | none => rw [hm] at e; cases e
  | some p =>
    obtain ⟨r1, ρ1⟩ := p
    rw [hm] at e
    cases r1 with
    | er c =>
      cases e
      exact h _ _ hm _ fun F' H' ex ok => q F' H' ex ok
    | ok b =>
      refine h _ _ hm _ fun F' H' ex ok a ra => ?_
      exact hk F' H' ρ1 a b ex ok ra r ρ' e Q fun F2 H2 ex2 ok2 => q F2 H2 (ex.trans ex2) ok2
theorem At.ret {R : Hp → α → β → Prop} {a : α} {b : β} {t : Hp → (α → Hp → Prop) → Prop} (ok : Ok g F H σ ρ) (h : R F a b) (ht : ∀ Q : α → Hp → Prop, Q a H → t H Q) : At EW g F H σ R t (mRet b ρ) := by
  intro r ρ' e Q q
  cases e
  exact ht Q (q F H (Ex.refl F) ok a h)
theorem At.lift {R : Hp → α → β → Prop} {o : Option γ} {f : γ → M β} {t : Hp → (α → Hp → Prop) → Prop} (h : ∀ c, o = some c → At EW g F H σ R t (f c ρ)) : At EW g F H σ R t (mBind (mLift o) f ρ) := by
  intro r ρ' e Q q
  unfold mBind mLift at e
  cases o with
  | none => cases e
  | some c => exact h c rfl r ρ' e Q q
end
/-! ### judgements: a piece of text, its reading, its mirror -/
structure QE (X : Cx) (EW : EWT) (e : Expr) (t : TE) (m : M Vw) : Prop where
  pe : PE X e t
  sm : ∀ g F H σ ρ, g.K = X.K → Ok g F H σ ρ → At EW g F H σ (VwOk g σ) (t σ) (m ρ)
structure QT (X : Cx) (EW : EWT) (e : Expr) (t : TT) (m : M Bool) : Prop where
  pt : PT X e t
  sm : ∀ g F H σ ρ, g.K = X.K → Ok g F H σ ρ → At EW g F H σ (fun _ (a b : Bool) => a = b) (t σ) (m ρ)
structure QW (X : Cx) (EW : EWT) (e : Expr) (t : TT) (m : M Bool) : Prop where
  pw : PW X e t
  sm : ∀ g F H σ ρ, g.K = X.K → Ok g F H σ ρ → At EW g F H σ (fun _ (a b : Bool) => a = b) (t σ) (m ρ)
structure QA (X : Cx) (EW : EWT) (es : List Expr) (t : TA) (m : M (List Vw)) : Prop where
  pa : PA X es t
  sm : ∀ g F H σ ρ, g.K = X.K → Ok g F H σ ρ → At EW g F H σ (VwsOk g σ) (t σ) (m ρ)
def SmS (K : PySem.W.Frag) (EW : EWT) (t : TS) (m : MS) : Prop :=
  ∀ g F H σ ρ, g.K = K → Ok g F H σ ρ → ∀ r ρ', m ρ = some (r, ρ') → ∀ D : Ends, (∀ F' H' σ', Ex F F' → Ok g F' H' σ' ρ' → match r with
    | .nx => D.nx σ' H'
    | .bk => D.bk σ' H'
    | .ct => D.ct σ' H'
    | .rt d => ∀ v, Dp g.K F' v d → D.rt v H'
    | .er c => EW c H') → t D σ H
structure QS (X : Cx) (EW : EWT) (s : Stmt) (t : TS) (m : MS) : Prop where
  ps : PS X s t
  sm : SmS X.K EW t m
structure QSs (X : Cx) (EW : EWT) (s : List Stmt) (t : TS) (m : MS) : Prop where
  ps : PSs X s t
  sm : SmS X.K EW t m
/-- n turns that give just these data -/
def Wk (K : PySem.W.Frag) (F : Hp) (J : It) (ds : List D) : Prop :=
  (∀ i H, i < ds.length → Ex F H → J.go i H) ∧ (∀ H, Ex F H → J.stop ds.length H) ∧
    ∀ i H x H', i < ds.length → Ex F H → J.yld i H x H' → ∃ d, ds[i]? = some d ∧
      ((H' = H ∧ Dp K F x d) ∨ ∃ T vs es, x = .ref T ∧ H T = none ∧ H' = upd H T (.tup vs) ∧ d = .tuple es ∧ DpAll K F vs es)
structure QI (X : Cx) (EW : EWT) (tg iter : Expr) (wi : TI) (m : M (List D)) : Prop where
  pi : PI X tg iter wi
  sm : ∀ g F H σ ρ, g.K = X.K → Ok g F H σ ρ → At EW g F H σ (fun F J ds => Wk g.K F J ds) (wi σ) (m ρ)
abbrev GM := D → List Sl → Option (List Sl)
structure QG (X : Cx) (tg : Expr) (gt : TG) (vars : List Nat) (m : GM) : Prop where
  pg : PG X tg gt
  sm : ∀ g F H σ ρ v d ρ', g.K = X.K → Ok g F H σ ρ → Dp g.K F v d → m d ρ = some ρ' → ∀ Q : St → Hp → Prop,
    (∀ σ', Ok g F H σ' ρ' → (∀ vs, (∀ i ∈ vars, i ∈ vs) → wipe σ' vs = wipe σ vs) → Q σ' H) → gt v σ H Q
/-! ### reading a view -/
/-- a view's data, its own objects too -/
def rdD (w : Vw) (ρ : List Sl) : Option D := match w with
  | .dat d => some d
  | .loc i => match ρ[i]? with
    | some (.dat d) => some d
    | some (.own (.lst ds)) => some (.list ds)
    | some (.par (.lst ds)) => some (.list ds)
    | _ => none
/-- a view becomes data -/
def frc (w : Vw) : M D := fun ρ => match w with
  | .dat d => some (.ok d, ρ)
  | .loc i => match ρ[i]? with
    | some (.dat d) => some (.ok d, ρ)
    | some (.own (.lst ds)) => some (.ok (.list ds), ρ.set i (.dat (.list ds)))
    | _ => none
def frcs : List Vw → M (List D)
  | [] => mRet []
  | w :: ws => mBind (frc w) fun d => mBind (frcs ws) fun ds => mRet (d :: ds)
section
variable {g : Gh} {F H : Hp} {σ : St} {ρ ρ' : List Sl} {v : V} {w : Vw} {d : D}
theorem loc_at (ok : Ok g F H σ ρ) {i : Nat} {s : Sl} (hv : VwOk g σ F v (.loc i)) (h : ρ[i]? = some s) : SlOk g F H i (some v) s := ok.sl i s _ h hv
theorem rdD_ok (ok : Ok g F H σ ρ) (hv : VwOk g σ F v w) (h : rdD w ρ = some d) : Dp g.K H v d := by
  cases w with
  | dat d' => cases h; exact dpE ok.ff _ _ hv
  | loc i =>
    unfold rdD at h
    cases hs : ρ[i]? with
    | none => simp only [hs] at h; cases h
    | some s =>
      have q := loc_at ok hv hs
      simp only [hs] at h
      cases s with
      | un => cases h
      | dat d' => cases h; obtain ⟨v', e, q⟩ := q; cases e; exact dpE ok.ff _ _ q
      | own o =>
        cases o with
        | lst ds => cases h; obtain ⟨l, e, _, ⟨vs, h1, h2⟩, _⟩ := q; cases e; exact .lst (.inl (.inl h1)) (dpsE ok.ff _ _ h2)
        | dk kvs => cases h
      | par o =>
        cases o with
        | lst ds => cases h; obtain ⟨l, e, _, ⟨vs, h1, h2⟩, _⟩ := q; cases e; exact .lst (.inl (.inl h1)) (dpsE ok.ff _ _ h2)
        | dk kvs => cases h
/-- .. of a sequence: its items are data -/
theorem rdD_list {ds : List D} (ok : Ok g F H σ ρ) (hv : VwOk g σ F v w) (h : rdD w ρ = some (.list ds)) : ∃ a vs, v = .ref a ∧ SqL g.K H a vs ∧ DpAll g.K F vs ds := by
  cases w with
  | dat d' =>
    cases h
    have hv : Dp g.K F v (.list ds) := hv
    cases hv with
    | lst hs ha => exact ⟨_, _, rfl, sqlE ok.ff hs, ha⟩
  | loc i =>
    unfold rdD at h
    cases hs : ρ[i]? with
    | none => simp only [hs] at h; cases h
    | some s =>
      have q := loc_at ok hv hs
      simp only [hs] at h
      cases s with
      | un => cases h
      | dat d' =>
        cases h; obtain ⟨v', e, q⟩ := q; cases e
        cases q with
        | lst hs ha => exact ⟨_, _, rfl, sqlE ok.ff hs, ha⟩
      | own o =>
        cases o with
        | lst ds => cases h; obtain ⟨l, e, _, ⟨vs, h1, h2⟩, _⟩ := q; cases e; exact ⟨_, _, rfl, .inl (.inl h1), h2⟩
        | dk kvs => cases h
      | par o =>
        cases o with
        | lst ds => cases h; obtain ⟨l, e, _, ⟨vs, h1, h2⟩, _⟩ := q; cases e; exact ⟨_, _, rfl, .inl (.inl h1), h2⟩
        | dk kvs => cases h
/-- .. of any other thing: it is data -/
theorem rdD_dat (ok : Ok g F H σ ρ) (hv : VwOk g σ F v w) (h : rdD w ρ = some d) (hn : ∀ ds, d ≠ .list ds) : Dp g.K F v d := by
  cases w with
  | dat d' => cases h; exact hv
  | loc i =>
    unfold rdD at h
    cases hs : ρ[i]? with
    | none => simp only [hs] at h; cases h
    | some s =>
      have q := loc_at ok hv hs
      simp only [hs] at h
      cases s with
      | un => cases h
      | dat d' => cases h; obtain ⟨v', e, q⟩ := q; cases e; exact q
      | own o =>
        cases o with
        | lst ds => cases h; exact absurd rfl (hn ds)
        | dk kvs => cases h
      | par o =>
        cases o with
        | lst ds => cases h; exact absurd rfl (hn ds)
        | dk kvs => cases h
theorem rdD_tuple {ds : List D} (ok : Ok g F H σ ρ) (hv : VwOk g σ F v w) (h : rdD w ρ = some (.tuple ds)) : ∃ a vs, v = .ref a ∧ SqT g.K F a vs ∧ DpAll g.K F vs ds := by
  have q := rdD_dat ok hv h fun _ e => nomatch e
  cases q with
  | tup hs ha => exact ⟨_, _, rfl, hs, ha⟩
theorem frc_ok (ok : Ok g F H σ ρ) (hv : VwOk g σ F v w) {r : Rs D} (h : frc w ρ = some (r, ρ')) : ∃ d F', r = .ok d ∧ Ex F F' ∧ Ok g F' H σ ρ' ∧ Dp g.K F' v d := by
  cases w with
  | dat d' => cases h; exact ⟨d', F, rfl, Ex.refl F, ok, hv⟩
  | loc i =>
    unfold frc at h
    cases hs : ρ[i]? with
    | none => simp only [hs] at h; cases h
    | some s =>
      have q := loc_at ok hv hs
      simp only [hs] at h
      cases s with
      | un => cases h
      | dat d' => cases h; obtain ⟨v', e, q⟩ := q; cases e; exact ⟨_, F, rfl, Ex.refl F, ok, q⟩
      | own o =>
        cases o with
        | lst ds =>
          cases h
          obtain ⟨l, F', h1, h2, h3, h4⟩ := ok.freeze hs
          have e : σ[i]? = some (some v) := hv
          rw [e] at h1; cases h1
          exact ⟨_, F', rfl, h2, h4, h3⟩
        | dk kvs => cases h
      | par o => cases h
theorem frcs_ok : ∀ {ws : List Vw} {F : Hp} {ρ ρ' : List Sl} {vs : List V} {r : Rs (List D)}, Ok g F H σ ρ → VwsOk g σ F vs ws → frcs ws ρ = some (r, ρ') → ∃ ds F', r = .ok ds ∧ Ex F F' ∧ Ok g F' H σ ρ' ∧ DpAll g.K F' vs ds
  | [], F, ρ, _, [], r, ok, _, h => by cases h; exact ⟨[], F, rfl, Ex.refl F, ok, .nil⟩
  | w :: ws, F, ρ, ρ', v :: vs, r, ok, hv, h => by
    unfold frcs mBind at h
    cases h1 : frc w ρ with
    | none => rw [h1] at h; cases h
    | some p =>
      obtain ⟨r1, ρ1⟩ := p
      obtain ⟨d, F1, rfl, e1, ok1, q1⟩ := frc_ok ok hv.1 h1
      rw [h1] at h
      simp only at h
      cases h2 : frcs ws ρ1 with
      | none => rw [h2] at h; cases h
      | some p =>
        obtain ⟨r2, ρ2⟩ := p
        obtain ⟨ds, F2, rfl, e2, ok2, q2⟩ := frcs_ok ok1 (hv.2.mono e1) h2
        rw [h2] at h
        cases h
        exact ⟨d :: ds, F2, rfl, e1.trans e2, ok2, .cons (dpE e2 _ _ q1) q2⟩
  | [], _, _, _, _ :: _, _, _, h, _ => h.elim
  | _ :: _, _, _, _, [], _, _, h, _ => h.elim
end
/-! ### expressions -/
section
variable {X : Cx} {EW : EWT} {pos : Pos}
def mVar (i : Nat) : M Vw := fun ρ => match ρ[i]? with
  | some .un => none
  | some _ => some (.ok (.loc i), ρ)
  | none => none
theorem qe_var (i : Nat) {x : Str} {pos : Pos} (hN : X.N[i]? = some x := by rfl) (hv : Vis X.env.scope x := by first | exact Or.inl rfl | exact Or.inr (Or.inl rfl) | exact Or.inr (Or.inr rfl)) (hd : (x == ("__debug__" : Str)) = false := by decide)
    (hcd : (x == ("__classdict__" : Str)) = false := by decide) : QE X EW (.Name x pos) (tVar i) (mVar i) := by
  refine ⟨pe_var hN hv hd hcd, fun g F H σ ρ hK ok r ρ' e Q q => ?_⟩
  unfold mVar at e
  cases hs : ρ[i]? with
  | none => simp only [hs] at e; cases e
  | some s =>
    simp only [hs] at e
    obtain ⟨ov, hv, hsl⟩ := ok.at hs
    have : ∃ v, ov = some v := by
      cases s with
      | un => cases e
      | dat d => obtain ⟨v, h, _⟩ := hsl; exact ⟨v, h⟩
      | own o => obtain ⟨l, h, _⟩ := hsl; exact ⟨_, h⟩
      | par o => obtain ⟨l, h, _⟩ := hsl; exact ⟨_, h⟩
    obtain ⟨v, rfl⟩ := this
    have e' : some (Rs.ok (Vw.loc i), ρ) = some (r, ρ') := by
      cases s with
      | un => cases e
      | dat d => exact e
      | own o => exact e
      | par o => exact e
    cases e'
    exact ⟨v, hv, q F H (Ex.refl F) ok v hv⟩
def mC (d : D) : M Vw := mRet (.dat d)
theorem sm_C {v : V} {d : D} (h : ∀ K F, Dp K F v d) : ∀ g F H σ ρ, g.K = X.K → Ok g F H σ ρ → At EW g F H σ (VwOk g σ) (tC v σ) (mC d ρ) := fun g F H σ ρ _ ok => At.ret ok (h _ _) fun _ q => q
theorem qe_int {i j} : QE X EW (.Constant (.int i) j pos) (tC (.int i)) (mC (.int i)) := ⟨pe_int, sm_C fun _ _ => .int i⟩
theorem qe_bl {i j} : QE X EW (.Constant (.bool i) j pos) (tC (.bl i)) (mC (.bool i)) := ⟨pe_bl, sm_C fun _ _ => .bl i⟩
theorem qe_non {j} : QE X EW (.Constant .none j pos) (tC .non) (mC .none) := ⟨pe_non, sm_C fun _ _ => .non⟩
theorem qe_str {x j} : QE X EW (.Constant (.str x) j pos) (tC (.str x)) (mC (.str x)) := ⟨pe_str, sm_C fun _ _ => .str x⟩
/-- an operation on two values, by what it does on data -/
def Op2S (K : PySem.W.Frag) (r : R2) (f : D → D → Option D) : Prop :=
  ∀ g F H σ ρ x y a b d e z, g.K = K → Ok g F H σ ρ → VwOk g σ F x a → VwOk g σ F y b → rdD a ρ = some d → rdD b ρ = some e → f d e = some z →
    ∀ Q : VK, (∀ v F' H', Ex F F' → Ok g F' H' σ ρ → Dp g.K F' v z → Q v H') → r x y H Q
/-- .. that gives a plain value -/
theorem Op2S.flat {K : PySem.W.Frag} {r : R2} {f : D → D → Option D} (h : ∀ H x y d e z, Dp K H x d → Dp K H y e → f d e = some z → ∃ v, (∀ F, Dp K F v z) ∧ ∀ Q : VK, Q v H → r x y H Q) : Op2S K r f := by
  rintro g F H σ ρ x y a b d e z rfl ok ha hb h1 h2 h3 Q q
  obtain ⟨v, hv, k⟩ := h H x y d e z (rdD_ok ok ha h1) (rdD_ok ok hb h2) h3
  exact k Q (q v F H (Ex.refl F) ok (hv F))
def app2 (f : D → D → Option D) (a b : Vw) : M Vw := fun ρ => match rdD a ρ with
  | none => none
  | some d => match rdD b ρ with
    | none => none
    | some e => match f d e with
      | none => none
      | some z => some (.ok (.dat z), ρ)
def mOp2 (f : D → D → Option D) (ma mb : M Vw) : M Vw := mBind ma fun a => mBind mb fun b => app2 f a b
theorem sm_op2 {r : R2} {f : D → D → Option D} {ta tb : TE} {ma mb : M Vw} (hr : Op2S X.K r f)
    (ha : ∀ g F H σ ρ, g.K = X.K → Ok g F H σ ρ → At EW g F H σ (VwOk g σ) (ta σ) (ma ρ)) (hb : ∀ g F H σ ρ, g.K = X.K → Ok g F H σ ρ → At EW g F H σ (VwOk g σ) (tb σ) (mb ρ)) :
    ∀ g F H σ ρ, g.K = X.K → Ok g F H σ ρ → At EW g F H σ (VwOk g σ) (tOp r ta tb σ) (mOp2 f ma mb ρ) := by
  intro g F H σ ρ hK ok
  refine At.bind (k := fun x H1 Q => tb σ H1 fun y H2 => r x y H2 Q) (ha g F H σ ρ hK ok) fun F1 H1 ρ1 x a e1 ok1 hx => ?_
  refine At.bind (k := fun y H2 Q => r x y H2 Q) (hb g F1 H1 σ ρ1 hK ok1) fun F2 H2 ρ2 y b e2 ok2 hy => ?_
  intro rr ρ' e Q q
  unfold app2 at e
  cases h1 : rdD a ρ2 with
  | none => simp only [h1] at e; cases e
  | some d =>
    cases h2 : rdD b ρ2 with
    | none => simp only [h1, h2] at e; cases e
    | some d2 =>
      cases h3 : f d d2 with
      | none => simp only [h1, h2, h3] at e; cases e
      | some z =>
        simp only [h1, h2, h3] at e
        cases e
        exact hr g F2 H2 σ ρ2 x y a b d d2 z hK ok2 (hx.mono e2) hy h1 h2 h3 Q fun v F' H' ex ok' hv => q F' H' ex ok' v hv
theorem qe_op {a b : Expr} {ta tb : TE} {ma mb : M Vw} {op : Operator} {r : R2} {f : D → D → Option D} (ho : OpR X (binaryOp op) r) (hr : Op2S X.K r f) (ha : QE X EW a ta ma) (hb : QE X EW b tb mb) : QE X EW (.BinOp a op b pos) (tOp r ta tb) (mOp2 f ma mb) :=
  ⟨pe_op ho ha.pe hb.pe, sm_op2 hr ha.sm hb.sm⟩
theorem qe_cmp {a b : Expr} {ta tb : TE} {ma mb : M Vw} {op : CmpOp} {r : R2} {f : D → D → Option D} (ho : OpR X (compareOp op) r) (hr : Op2S X.K r f) (ha : QE X EW a ta ma) (hb : QE X EW b tb mb) (hm : behindInMarks op b = false := by first | exact nomark _ | rfl) :
    QE X EW (.Compare a [op] [b] pos) (tOp r ta tb) (mOp2 f ma mb) := ⟨pe_cmpR ho ha.pe hb.pe hm, sm_op2 hr ha.sm hb.sm⟩
theorem qe_ix {a b : Expr} {ta tb : TE} {ma mb : M Vw} {r : R2} {f : D → D → Option D} (ho : IxR X r) (hr : Op2S X.K r f) (ha : QE X EW a ta ma) (hb : QE X EW b tb mb) (hs : PlainIx b := by exact fun _ _ => rfl) : QE X EW (.Subscript a b pos) (tOp r ta tb) (mOp2 f ma mb) :=
  ⟨pe_ix ho ha.pe hb.pe hs, sm_op2 hr ha.sm hb.sm⟩
/-- one value -/
def Op1S (K : PySem.W.Frag) (r : V → Hp → VK → Prop) (f : D → Option D) : Prop :=
  ∀ g F H σ ρ x a d z, g.K = K → Ok g F H σ ρ → VwOk g σ F x a → rdD a ρ = some d → f d = some z →
    ∀ Q : VK, (∀ v F' H', Ex F F' → Ok g F' H' σ ρ → Dp g.K F' v z → Q v H') → r x H Q
def app1 (f : D → Option D) (a : Vw) : M Vw := fun ρ => match rdD a ρ with
  | none => none
  | some d => match f d with
      | none => none
      | some z => some (.ok (.dat z), ρ)
def mOp1 (f : D → Option D) (ma : M Vw) : M Vw := mBind ma fun a => app1 f a
theorem app1_at {g : Gh} {F H : Hp} {σ : St} {ρ : List Sl} {x : V} {a : Vw} {f : D → Option D} {t : Hp → (V → Hp → Prop) → Prop} (ok : Ok g F H σ ρ) (hx : VwOk g σ F x a)
    (h : ∀ d z, rdD a ρ = some d → f d = some z → ∀ Q : VK, (∀ v F' H', Ex F F' → Ok g F' H' σ ρ → Dp g.K F' v z → Q v H') → t H Q) : At EW g F H σ (VwOk g σ) t (app1 f a ρ) := by
  intro rr ρ' e Q q
  unfold app1 at e
  cases h1 : rdD a ρ with
  | none => simp only [h1] at e; cases e
  | some d =>
    cases h3 : f d with
    | none => simp only [h1, h3] at e; cases e
    | some z =>
      simp only [h1, h3] at e
      cases e
      exact h d z h1 h3 Q fun v F' H' ex ok' hv => q F' H' ex ok' v hv
theorem qe_un {a : Expr} {ta : TE} {ma : M Vw} {op : UnaryOp} {r : V → Hp → VK → Prop} {f : D → Option D} (ho : UnR X (unaryOp op) r) (hr : Op1S X.K r f) (ha : QE X EW a ta ma) : QE X EW (.UnaryOp op a pos) (tUn r ta) (mOp1 f ma) := by
  refine ⟨pe_un ho ha.pe, fun g F H σ ρ hK ok => ?_⟩
  refine At.bind (k := fun x H1 Q => r x H1 Q) (ha.sm g F H σ ρ hK ok) fun F1 H1 ρ1 x a e1 ok1 hx => app1_at ok1 hx fun d z h1 h2 Q q => hr g F1 H1 σ ρ1 x a d z hK ok1 hx h1 h2 Q q
/-- a call of a built-in with one argument -/
def Call1S (K : PySem.W.Frag) (r : List V → Hp → VK → Prop) (f : D → Option D) : Prop := Op1S K (fun x H Q => r [x] H Q) f
theorem qe_callB1 {a : Expr} {ta : TE} {ma : M Vw} {id : String} {x : Str} {p : Pos} {r : List V → Hp → VK → Prop} {f : D → Option D} (hc : CallR X (.builtin id) r) (hr : Call1S X.K r f) (hg : Gl X x) (hm : X.mg x = none) (hv : bootBuiltins x = some (.builtin id)) (ha : QE X EW a ta ma)
    (hn : x ≠ "__name__" := by decide) (hdb : (x == ("__debug__" : Str)) = false := by decide) (he : starEach [a] X.env = (false, eval a X.env) :: starEach [] X.env := by rfl) : QE X EW (.Call (.Name x p) [a] [] pos) (tCB r (tCons ta tNil)) (mOp1 f ma) := by
  refine ⟨pe_callB hc hg hm hv (pa_cons ha.pe pa_nil he) hn hdb he rfl, fun g F H σ ρ hK ok => ?_⟩
  refine At.bind (k := fun x H1 Q => r [x] H1 Q) (ha.sm g F H σ ρ hK ok) fun F1 H1 ρ1 x a e1 ok1 hx => app1_at ok1 hx fun d z h1 h2 Q q => hr g F1 H1 σ ρ1 x a d z hK ok1 hx h1 h2 Q q
theorem qe_callT1 {a : Expr} {ta : TE} {ma : M Vw} {T : String} {x : Str} {p : Pos} {r : List V → Hp → VK → Prop} {f : D → Option D} (hc : CallR X (.type T) r) (hr : Call1S X.K r f) (hg : Gl X x) (hm : X.mg x = none) (hv : bootBuiltins x = some (.type T)) (ha : QE X EW a ta ma)
    (hn : x ≠ "__name__" := by decide) (hdb : (x == ("__debug__" : Str)) = false := by decide) (he : starEach [a] X.env = (false, eval a X.env) :: starEach [] X.env := by rfl) : QE X EW (.Call (.Name x p) [a] [] pos) (tCB r (tCons ta tNil)) (mOp1 f ma) := by
  refine ⟨pe_callTy hc hg hm hv (pa_cons ha.pe pa_nil he) hn hdb he rfl, fun g F H σ ρ hK ok => ?_⟩
  refine At.bind (k := fun x H1 Q => r [x] H1 Q) (ha.sm g F H σ ρ hK ok) fun F1 H1 ρ1 x a e1 ok1 hx => app1_at ok1 hx fun d z h1 h2 Q q => hr g F1 H1 σ ρ1 x a d z hK ok1 hx h1 h2 Q q
/-! ### argument lists, displays -/
def mNil : M (List Vw) := mRet []
def mCons (ma : M Vw) (mr : M (List Vw)) : M (List Vw) := mBind ma fun a => mBind mr fun r => mRet (a :: r)
theorem qa_nil : QA X EW [] tNil mNil := ⟨pa_nil, fun g F H σ ρ _ ok => At.ret (a := []) ok trivial fun _ q => q⟩
theorem qa_cons {e : Expr} {es : List Expr} {te : TE} {tr : TA} {ma : M Vw} {mr : M (List Vw)} (ha : QE X EW e te ma) (hr : QA X EW es tr mr) (hs : starEach (e :: es) X.env = (false, eval e X.env) :: starEach es X.env := by rfl) : QA X EW (e :: es) (tCons te tr) (mCons ma mr) := by
  refine ⟨pa_cons ha.pe hr.pa hs, fun g F H σ ρ hK ok => ?_⟩
  refine At.bind (k := fun x H1 Q => tr σ H1 fun xs H2 => Q (x :: xs) H2) (ha.sm g F H σ ρ hK ok) fun F1 H1 ρ1 x a e1 ok1 hx => ?_
  refine At.bind (k := fun xs H2 Q => Q (x :: xs) H2) (hr.sm g F1 H1 σ ρ1 hK ok1) fun F2 H2 ρ2 xs ws e2 ok2 hxs => ?_
  exact At.ret (a := x :: xs) ok2 ⟨hx.mono e2, hxs⟩ fun _ q => q
abbrev BIG : Nat := 1000000
theorem big_le {n : Nat} (h : n ≤ BIG) : n ≤ sizeLine := by
  have h' : n ≤ 1000000 := h
  rw [sizeLine_eq]; omega
theorem big_lt {n : Nat} (h : n ≤ BIG) : n < sizeLine := by
  have h' : n ≤ 1000000 := h
  rw [sizeLine_eq]; omega
def mkSeq (c : List D → D) (ds : List D) : Option Vw := if ds.length ≤ BIG then some (.dat (c ds)) else none
def mTup (ma : M (List Vw)) : M Vw := mBind ma fun ws => mBind (frcs ws) fun ds => mLift (mkSeq .tuple ds)
def mLst (ma : M (List Vw)) : M Vw := mBind ma fun ws => mBind (frcs ws) fun ds => mLift (mkSeq .list ds)
theorem frcs_at {g : Gh} {F H : Hp} {σ : St} {ρ : List Sl} {xs : List V} {ws : List Vw} {β : Type} {f : List D → M β} {R : Hp → V → β → Prop} {t : Hp → (V → Hp → Prop) → Prop} (ok : Ok g F H σ ρ) (h : VwsOk g σ F xs ws)
    (k : ∀ F' ρ' ds, Ex F F' → Ok g F' H σ ρ' → DpAll g.K F' xs ds → At EW g F' H σ R t (f ds ρ')) : At EW g F H σ R t (mBind (frcs ws) f ρ) := by
  intro r ρ' e Q q
  unfold mBind at e
  cases h1 : frcs ws ρ with
  | none => rw [h1] at e; cases e
  | some p =>
    obtain ⟨r1, ρ1⟩ := p
    obtain ⟨ds, F1, rfl, e1, ok1, q1⟩ := frcs_ok ok h h1
    rw [h1] at e
    exact k F1 ρ1 ds e1 ok1 q1 r ρ' e Q fun F' H' ex ok' => q F' H' (e1.trans ex) ok'
theorem frc_at {g : Gh} {F H : Hp} {σ : St} {ρ : List Sl} {x : V} {w : Vw} {α β : Type} {f : D → M β} {R : Hp → α → β → Prop} {t : Hp → (α → Hp → Prop) → Prop} (ok : Ok g F H σ ρ) (h : VwOk g σ F x w)
    (k : ∀ F' ρ' d, Ex F F' → Ok g F' H σ ρ' → Dp g.K F' x d → At EW g F' H σ R t (f d ρ')) : At EW g F H σ R t (mBind (frc w) f ρ) := by
  intro r ρ' e Q q
  unfold mBind at e
  cases h1 : frc w ρ with
  | none => rw [h1] at e; cases e
  | some p =>
    obtain ⟨r1, ρ1⟩ := p
    obtain ⟨d, F1, rfl, e1, ok1, q1⟩ := frc_ok ok h h1
    rw [h1] at e
    exact k F1 ρ1 d e1 ok1 q1 r ρ' e Q fun F' H' ex ok' => q F' H' (e1.trans ex) ok'
theorem qe_tup {es : List Expr} {x1} {ta : TA} {ma : M (List Vw)} (h : QA X EW es ta ma) : QE X EW (.Tuple es x1 pos) (tTup ta) (mTup ma) := by
  refine ⟨pe_tup h.pa, fun g F H σ ρ hK ok => ?_⟩
  refine At.bind (k := fun xs H1 (Q : VK) => xs.length ≤ sizeLine ∧ ∀ p, H1 p = none → Q (.ref p) (upd H1 p (.tup xs))) (h.sm g F H σ ρ hK ok) fun F1 H1 ρ1 xs ws e1 ok1 hx => ?_
  refine frcs_at ok1 hx fun F2 ρ2 ds e2 ok2 hds => ?_
  intro r ρ' e Q q
  unfold mLift mkSeq at e
  by_cases hz : ds.length ≤ BIG
  · rw [if_pos hz] at e
    cases e
    refine ⟨big_le (by rw [dps_len hds]; exact hz), fun p hp => ?_⟩
    obtain ⟨ex, ok3⟩ := ok2.newD (o := .tup xs) hp
    exact q _ _ ex ok3 _ (show Dp _ _ _ _ from .tup (.inl (.inl upd_same)) (dpsE ex _ _ hds))
  · rw [if_neg hz] at e; cases e
theorem qe_lst {es : List Expr} {ta : TA} {ma : M (List Vw)} (h : QA X EW es ta ma) : QE X EW (.List es pos) (tLst ta) (mLst ma) := by
  refine ⟨pe_lst h.pa, fun g F H σ ρ hK ok => ?_⟩
  refine At.bind (k := fun xs H1 (Q : VK) => xs.length ≤ sizeLine ∧ ∀ p, H1 p = none → Q (.ref p) (upd H1 p (.lst xs))) (h.sm g F H σ ρ hK ok) fun F1 H1 ρ1 xs ws e1 ok1 hx => ?_
  refine frcs_at ok1 hx fun F2 ρ2 ds e2 ok2 hds => ?_
  intro r ρ' e Q q
  unfold mLift mkSeq at e
  by_cases hz : ds.length ≤ BIG
  · rw [if_pos hz] at e
    cases e
    refine ⟨big_le (by rw [dps_len hds]; exact hz), fun p hp => ?_⟩
    obtain ⟨ex, ok3⟩ := ok2.newD (o := .lst xs) hp
    exact q _ _ ex ok3 _ (show Dp _ _ _ _ from .lst (.inl (.inl upd_same)) (dpsE ex _ _ hds))
  · rw [if_neg hz] at e; cases e
/-! ### tests -/
/-- a value's truth -/
def truD : D → Option Bool
  | .none => some false
  | .bool b => some b
  | .int i => some (i != 0)
  | .str x => if x.length ≤ BIG then some (x.length != 0) else none
  | .list ds => some (!ds.isEmpty)
  | .tuple ds => some (!ds.isEmpty)
  | .dict _ => none
def tru (w : Vw) : M Bool := fun ρ => match rdD w ρ with
  | none => (match w with
    | .loc i => (match ρ[i]? with
      | some (.own (.dk kvs)) => some (.ok (!kvs.isEmpty), ρ)
      | some (.par (.dk kvs)) => some (.ok (!kvs.isEmpty), ρ)
      | _ => none)
    | .dat _ => none)
  | some d => match truD d with
    | none => none
    | some b => some (.ok b, ρ)
theorem kv_isEmpty {K : PySem.W.Frag} {F : Hp} {ws : List (Key × V)} {kvs : List (Key × D)} (h : KvAll K F ws kvs) : ws.isEmpty = kvs.isEmpty := by cases h <;> rfl
theorem dps_isEmpty {K : PySem.W.Frag} {F : Hp} {ws : List V} {ds : List D} (h : DpAll K F ws ds) : ws.isEmpty = ds.isEmpty := by cases h <;> rfl
theorem truD_ok {K : PySem.W.Frag} {H : Hp} {v : V} {d : D} {b : Bool} (h : Dp K H v d) (e : truD d = some b) : TruV K v H b := by
  cases d with
  | none => cases h; cases e; exact rfl
  | bool x => cases h; cases e; exact rfl
  | int x => cases h; cases e; exact rfl
  | str x =>
    cases h
    have e : (if x.length ≤ BIG then some (x.length != 0) else none) = some b := e
    by_cases hz : x.length ≤ BIG
    · rw [if_pos hz] at e
      cases e
      refine ⟨big_le hz, ?_⟩
      by_cases h0 : x.length = 0
      · rw [h0]; rfl
      · have h1 : ((x.length : Int) != 0) = true := by
          rw [bne_iff_ne]; omega
        rw [h1, bne_iff_ne]; exact h0
    · rw [if_neg hz] at e; cases e
  | list ds =>
    cases e
    cases h with
    | lst hs ha => exact .inl ⟨_, hs, by rw [dps_isEmpty ha]⟩
  | tuple ds =>
    cases e
    cases h with
    | tup hs ha => exact .inr (.inl ⟨_, hs, by rw [dps_isEmpty ha]⟩)
  | dict _ => cases e
theorem tru_at {g : Gh} {F H : Hp} {σ : St} {ρ : List Sl} {x : V} {w : Vw} (ok : Ok g F H σ ρ) (hx : VwOk g σ F x w) : At EW g F H σ (fun _ (a b : Bool) => a = b) (fun H Q => ∃ k, TruV g.K x H k ∧ Q k H) (tru w ρ) := by
  intro r ρ' e Q q
  unfold tru at e
  cases h1 : rdD w ρ with
  | some d =>
    simp only [h1] at e
    cases h2 : truD d with
    | none => simp only [h2] at e; cases e
    | some b =>
      simp only [h2] at e
      cases e
      exact ⟨b, truD_ok (rdD_ok ok hx h1) h2, q F H (Ex.refl F) ok b rfl⟩
  | none =>
    simp only [h1] at e
    cases w with
    | dat d => cases e
    | loc i =>
      simp only at e
      cases hs : ρ[i]? with
      | none => simp only [hs] at e; cases e
      | some s =>
        have qs := loc_at ok hx hs
        simp only [hs] at e
        cases s with
        | un => cases e
        | dat d => cases e
        | own o =>
          cases o with
          | lst ds => cases e
          | dk kvs =>
            cases e
            obtain ⟨l, hl, _, ⟨ws, h3, h4⟩, _⟩ := qs
            cases hl
            exact ⟨_, .inr (.inr ⟨ws, h3, rfl⟩), q F H (Ex.refl F) ok _ (by rw [kv_isEmpty h4])⟩
        | par o =>
          cases o with
          | lst ds => cases e
          | dk kvs =>
            cases e
            obtain ⟨l, hl, _, ⟨ws, h3, h4⟩, _⟩ := qs
            cases hl
            exact ⟨_, .inr (.inr ⟨ws, h3, rfl⟩), q F H (Ex.refl F) ok _ (by rw [kv_isEmpty h4])⟩
def mTru (ma : M Vw) : M Bool := mBind ma tru
/-- any expression as a test (not a comparison, and, or, not) -/
theorem qt_truth {e : Expr} {ta : TE} {ma : M Vw} (h : QE X EW e ta ma) (he : ∀ whole, isTrue e X.env whole = (do let v ← whole; standAt e.pos; holding [v] (truthy v)) := by intro _; rfl) :
    QT X EW e (fun σ H Q => ta σ H fun x H' => ∃ k, TruV X.K x H' k ∧ Q k H') (mTru ma) := by
  refine ⟨pt_truth h.pe he, fun g F H σ ρ hK ok => ?_⟩
  refine At.bind (k := fun x H1 Q => ∃ k, TruV X.K x H1 k ∧ Q k H1) (h.sm g F H σ ρ hK ok) fun F1 H1 ρ1 x a e1 ok1 hx => ?_
  rw [← hK]
  exact tru_at ok1 hx
/-- a view that is a truth value -/
def asB (w : Vw) : M Bool := fun ρ => match rdD w ρ with
  | some (.bool b) => some (.ok b, ρ)
  | _ => none
theorem asB_at {g : Gh} {F H : Hp} {σ : St} {ρ : List Sl} {x : V} {w : Vw} (ok : Ok g F H σ ρ) (hx : VwOk g σ F x w) : At EW g F H σ (fun _ (a b : Bool) => a = b) (fun H Q => ∃ c, x = .bl c ∧ Q c H) (asB w ρ) := by
  intro r ρ' e Q q
  unfold asB at e
  cases h1 : rdD w ρ with
  | none => simp only [h1] at e; cases e
  | some d =>
    simp only [h1] at e
    have hd := rdD_ok ok hx h1
    cases d with
    | bool b =>
      cases e
      cases hd
      exact ⟨b, rfl, q F H (Ex.refl F) ok b rfl⟩
    | none => cases e
    | int _ => cases e
    | str _ => cases e
    | list _ => cases e
    | tuple _ => cases e
    | dict _ => cases e
def mAsB (ma : M Vw) : M Bool := mBind ma asB
theorem qt_cmp {a b : Expr} {ta tb : TE} {ma mb : M Vw} {op : CmpOp} {r : R2} {f : D → D → Option D} (ho : OpR X (compareOp op) r) (hr : Op2S X.K r f) (ha : QE X EW a ta ma) (hb : QE X EW b tb mb) (hm : behindInMarks op b = false := by first | exact nomark _ | rfl) :
    QT X EW (.Compare a [op] [b] pos) (tTest (tOp r ta tb)) (mAsB (mOp2 f ma mb)) := by
  refine ⟨pt_cmpR ho ha.pe hb.pe hm, fun g F H σ ρ hK ok => ?_⟩
  exact At.bind (k := fun x H1 Q => ∃ k, x = .bl k ∧ Q k H1) (sm_op2 hr ha.sm hb.sm g F H σ ρ hK ok) fun F1 H1 ρ1 x a e1 ok1 hx => asB_at ok1 hx
def mNot (m : M Bool) : M Bool := mBind m fun b => mRet (!b)
theorem qt_not {a : Expr} {t : TT} {m : M Bool} (h : QT X EW a t m) : QT X EW (.UnaryOp .Not a pos) (tNot t) (mNot m) := by
  refine ⟨pt_not h.pt, fun g F H σ ρ hK ok => ?_⟩
  refine At.bind (k := fun c H1 Q => Q (!c) H1) (h.sm g F H σ ρ hK ok) fun F1 H1 ρ1 x b e1 ok1 hx => ?_
  cases hx
  exact At.ret (a := !x) ok1 rfl fun _ q => q
def mAnd (m n : M Bool) : M Bool := mBind m fun b => if b = true then n else mRet false
def mOr (m n : M Bool) : M Bool := mBind m fun b => if b = true then mRet true else n
theorem qw_and1 {a : Expr} {t : TT} {m : M Bool} (h : QT X EW a t m) : QW X EW (.BoolOp .And [a] pos) t m := ⟨pw_and1 h.pt, h.sm⟩
theorem qw_or1 {a : Expr} {t : TT} {m : M Bool} (h : QT X EW a t m) : QW X EW (.BoolOp .Or [a] pos) t m := ⟨pw_or1 h.pt, h.sm⟩
theorem qw_and {a b : Expr} {rest : List Expr} {t u : TT} {m n : M Bool} (h : QT X EW a t m) (k : QW X EW (.BoolOp .And (b :: rest) pos) u n) : QW X EW (.BoolOp .And (a :: b :: rest) pos) (tAnd t u) (mAnd m n) := by
  refine ⟨pw_and h.pt k.pw, fun g F H σ ρ hK ok => ?_⟩
  refine At.bind (k := fun c H1 Q => if c = true then u σ H1 Q else Q false H1) (h.sm g F H σ ρ hK ok) fun F1 H1 ρ1 x b e1 ok1 hx => ?_
  cases hx
  cases x with
  | true => exact k.sm g F1 H1 σ ρ1 hK ok1
  | false => exact At.ret (a := false) ok1 rfl fun _ q => q
theorem qw_or {a b : Expr} {rest : List Expr} {t u : TT} {m n : M Bool} (h : QT X EW a t m) (k : QW X EW (.BoolOp .Or (b :: rest) pos) u n) : QW X EW (.BoolOp .Or (a :: b :: rest) pos) (tOr t u) (mOr m n) := by
  refine ⟨pw_or h.pt k.pw, fun g F H σ ρ hK ok => ?_⟩
  refine At.bind (k := fun c H1 Q => if c = true then Q true H1 else u σ H1 Q) (h.sm g F H σ ρ hK ok) fun F1 H1 ρ1 x b e1 ok1 hx => ?_
  cases hx
  cases x with
  | true => exact At.ret (a := true) ok1 rfl fun _ q => q
  | false => exact k.sm g F1 H1 σ ρ1 hK ok1
theorem QW.qt {e : Expr} {t : TT} {m : M Bool} (h : QW X EW e t m) : QT X EW e t m := ⟨h.pw.pt, h.sm⟩
def mIf (mt : M Bool) (ma mb : M Vw) : M Vw := mBind mt fun b => if b = true then ma else mb
theorem qe_if {c a b : Expr} {t : TT} {ta tb : TE} {mt : M Bool} {ma mb : M Vw} (hc : QT X EW c t mt) (ha : QE X EW a ta ma) (hb : QE X EW b tb mb) : QE X EW (.IfExp c a b pos) (tIf t ta tb) (mIf mt ma mb) := by
  refine ⟨pe_ifExp hc.pt ha.pe hb.pe, fun g F H σ ρ hK ok => ?_⟩
  refine At.bind (k := fun c H1 Q => if c = true then ta σ H1 Q else tb σ H1 Q) (hc.sm g F H σ ρ hK ok) fun F1 H1 ρ1 x b e1 ok1 hx => ?_
  cases hx
  cases x with
  | true => exact ha.sm g F1 H1 σ ρ1 hK ok1
  | false => exact hb.sm g F1 H1 σ ρ1 hK ok1
/-- a comparison, not, as a value -/
def mB (m : M Bool) : M Vw := mBind m fun b => mRet (.dat (.bool b))
end
end Dat
namespace Dat
open PySem L2
/-! ### targets -/
section
variable {X : Cx} {EW : EWT} {pos : Pos}
/-- a slot is stored: none of the def's own parameters -/
def asgD (i : Nat) : GM := fun d ρ => match ρ[i]? with
  | none => none
  | some (.par _) => none
  | some _ => some (ρ.set i (.dat d))
theorem asgD_some {i : Nat} {d : D} {ρ ρ' : List Sl} (h : asgD i d ρ = some ρ') : ρ' = ρ.set i (.dat d) := by
  unfold asgD at h
  cases hs : ρ[i]? with
  | none => simp only [hs] at h; cases h
  | some s =>
    simp only [hs] at h
    cases s with
    | un => cases h; rfl
    | dat d => cases h; rfl
    | own o => cases h; rfl
    | par o => cases h
theorem qg_name (i : Nat) {x : Str} (hN : X.N.Nodup) (hi : X.N[i]? = some x := by rfl) (hx : Loc X.env.scope x := by first | exact Or.inl rfl | exact Or.inr rfl) (hf : X.fn x = true ∨ X.env.scope.names.lookup x = some .local := by first | exact .inl rfl | exact .inr rfl) : QG X (.Name x pos) (gName i) [i] (asgD i) := by
  refine ⟨pg_name hN hi hx hf, fun g F H σ ρ v d ρ' hK ok hv h Q q => ?_⟩
  cases asgD_some h
  exact q _ (ok.setD hv) fun vs hs => wipe_set (hs i (by simp))
abbrev GMs := List D → List Sl → Option (List Sl)
structure QGs (X : Cx) (ts : List Expr) (t : TGs) (vars : List Nat) (m : GMs) : Prop where
  pg : PGs X ts t
  sm : ∀ g F H σ ρ vs ds ρ', g.K = X.K → Ok g F H σ ρ → DpAll g.K F vs ds → m ds ρ = some ρ' → ∀ Q : St → Hp → Prop,
    (∀ σ', Ok g F H σ' ρ' → (∀ ws, (∀ i ∈ vars, i ∈ ws) → wipe σ' ws = wipe σ ws) → Q σ' H) → t vs σ H Q
def gmNil : GMs := fun ds ρ => match ds with
  | [] => some ρ
  | _ => none
def gmCons (m : GM) (n : GMs) : GMs := fun ds ρ => match ds with
  | [] => none
  | d :: ds => match m d ρ with
    | none => none
    | some ρ' => n ds ρ'
theorem qgs_nil : QGs X [] gNil [] gmNil := by
  refine ⟨pgs_nil, fun g F H σ ρ vs ds ρ' hK ok hv h Q q => ?_⟩
  cases hv with
  | nil => cases h; exact ⟨rfl, q σ ok fun _ _ => rfl⟩
  | cons _ _ => cases h
theorem qgs_cons {e : Expr} {es : List Expr} {t : TG} {u : TGs} {v1 v2 : List Nat} {m : GM} {n : GMs} (h1 : QG X e t v1 m) (h2 : QGs X es u v2 n)
    (hs : (assignEach (e :: es) X.env).map (·.2) = assign e X.env :: (assignEach es X.env).map (·.2) := by rfl) : QGs X (e :: es) (gCons t u) (v1 ++ v2) (gmCons m n) := by
  refine ⟨pgs_cons h1.pg h2.pg hs, fun g F H σ ρ vs ds ρ' hK ok hv h Q q => ?_⟩
  cases hv with
  | nil => cases h
  | cons hv1 hv2 =>
    rename_i v vs d ds
    unfold gmCons at h
    cases h3 : m d ρ with
    | none => simp only [h3] at h; cases h
    | some ρ1 =>
      simp only [h3] at h
      refine ⟨_, _, rfl, ?_⟩
      refine h1.sm g F H σ ρ v d ρ1 hK ok hv1 h3 _ fun σ1 ok1 w1 => ?_
      refine h2.sm g F H σ1 ρ1 vs ds ρ' hK ok1 hv2 h Q fun σ2 ok2 w2 => ?_
      exact q σ2 ok2 fun ws hw => (w2 ws fun i hi => hw i (List.mem_append_right _ hi)).trans (w1 ws fun i hi => hw i (List.mem_append_left _ hi))
def gmTup (n : Nat) (m : GMs) : GM := fun d ρ => match d with
  | .tuple ds => if ds.length = n then m ds ρ else none
  | _ => none
theorem qg_tup {es : List Expr} {k : Nat} {t : TGs} {n : Nat} {vars : List Nat} {m : GMs} (hc : X.calm = true) (h : QGs X es t vars m)
    (hn : (assignEach es X.env).length = n := by rfl) (hst : (assignEach es X.env).findIdx? (·.1) = none := by rfl) : QG X (.Tuple es k pos) (gTup X.K n t) vars (gmTup n m) := by
  refine ⟨pg_tup hc h.pg hn hst, fun g F H σ ρ v d ρ' hK ok hv e Q q => ?_⟩
  cases d with
  | tuple ds =>
    have e : (if ds.length = n then m ds ρ else none) = some ρ' := e
    by_cases hl : ds.length = n
    · rw [if_pos hl] at e
      cases hv with
      | tup hs ha =>
        rw [← hK]
        exact ⟨_, _, rfl, sqtE ok.ff hs, (dps_len ha).trans hl, h.sm g F H σ ρ _ ds ρ' hK ok ha e Q q⟩
    · rw [if_neg hl] at e; cases e
  | none => cases e
  | bool _ => cases e
  | int _ => cases e
  | str _ => cases e
  | list _ => cases e
  | dict _ => cases e
/-! ### statements -/
def mSkip : MS := fun ρ => some (.nx, ρ)
def mSeq (m n : MS) : MS := fun ρ => match m ρ with
  | some (.nx, ρ') => n ρ'
  | r => r
theorem qss_nil : QSs X EW [] tNext mSkip := ⟨pss_nil, fun g F H σ ρ _ ok r ρ' e D q => by cases e; exact q F H σ (Ex.refl F) ok⟩
theorem qss_cons {s : Stmt} {ss : List Stmt} {t u : TS} {m n : MS} (h : QS X EW s t m) (k : QSs X EW ss u n) : QSs X EW (s :: ss) (tSeq t u) (mSeq m n) := by
  refine ⟨pss_cons h.ps k.ps, fun g F H σ ρ hK ok r ρ' e D q => ?_⟩
  unfold mSeq at e
  cases hm : m ρ with
  | none => rw [hm] at e; cases e
  | some p =>
    obtain ⟨r1, ρ1⟩ := p
    rw [hm] at e
    cases r1 with
    | nx => exact h.sm g F H σ ρ hK ok _ _ hm _ fun F1 H1 σ1 e1 ok1 => k.sm g F1 H1 σ1 ρ1 hK ok1 r ρ' e D fun F2 H2 σ2 e2 ok2 => q F2 H2 σ2 (e1.trans e2) ok2
    | bk => cases e; exact h.sm g F H σ ρ hK ok _ _ hm _ q
    | ct => cases e; exact h.sm g F H σ ρ hK ok _ _ hm _ q
    | rt d => cases e; exact h.sm g F H σ ρ hK ok _ _ hm _ q
    | er c => cases e; exact h.sm g F H σ ρ hK ok _ _ hm _ q
theorem qss_one {s : Stmt} {t : TS} {m : MS} (h : QS X EW s t m) : QSs X EW [s] t m := ⟨pss_one h.ps, h.sm⟩
theorem qs_pass : QS X EW (.Pass pos) tNext mSkip := ⟨ps_pass, fun g F H σ ρ _ ok r ρ' e D q => by cases e; exact q F H σ (Ex.refl F) ok⟩
def mBrk : MS := fun ρ => some (.bk, ρ)
def mCont : MS := fun ρ => some (.ct, ρ)
theorem qs_break : QS X EW (.Break pos) tBreak mBrk := ⟨ps_break, fun g F H σ ρ _ ok r ρ' e D q => by cases e; exact q F H σ (Ex.refl F) ok⟩
theorem qs_continue : QS X EW (.Continue pos) tCont mCont := ⟨ps_continue, fun g F H σ ρ _ ok r ρ' e D q => by cases e; exact q F H σ (Ex.refl F) ok⟩
/-- behind a value: what is done with it -/
def mThen {α : Type} (m : M α) (f : α → MS) : MS := fun ρ => match m ρ with
  | none => none
  | some (.er c, ρ') => some (.er c, ρ')
  | some (.ok a, ρ') => f a ρ'
theorem then_sm {α β : Type} {K : PySem.W.Frag} {R : Gh → St → Hp → α → β → Prop} {t : St → Hp → (α → Hp → Prop) → Prop} {k : Ends → St → α → Hp → Prop} {m : M β} {f : β → MS}
    (h : ∀ g F H σ ρ, g.K = K → Ok g F H σ ρ → At EW g F H σ (R g σ) (t σ) (m ρ))
    (hk : ∀ g F H σ ρ a b, g.K = K → Ok g F H σ ρ → R g σ F a b → ∀ r ρ', f b ρ = some (r, ρ') → ∀ D : Ends, (∀ F' H' σ', Ex F F' → Ok g F' H' σ' ρ' → match r with
      | .nx => D.nx σ' H'
      | .bk => D.bk σ' H'
      | .ct => D.ct σ' H'
      | .rt d => ∀ v, Dp g.K F' v d → D.rt v H'
      | .er c => EW c H') → k D σ a H) : SmS K EW (fun D σ H => t σ H fun a H1 => k D σ a H1) (mThen m f) := by
  intro g F H σ ρ hK ok r ρ' e D q
  unfold mThen at e
  cases hm : m ρ with
  | none => rw [hm] at e; cases e
  | some p =>
    obtain ⟨r1, ρ1⟩ := p
    rw [hm] at e
    cases r1 with
    | er c =>
      cases e
      exact h g F H σ ρ hK ok _ _ hm _ fun F' H' ex ok' => q F' H' σ ex ok'
    | ok b => exact h g F H σ ρ hK ok _ _ hm _ fun F1 H1 e1 ok1 a ra => hk g F1 H1 σ ρ1 a b hK ok1 ra r ρ' e D fun F2 H2 σ2 e2 ok2 => q F2 H2 σ2 (e1.trans e2) ok2
/-- behind a value that is forced -/
theorem frcS {g : Gh} {F H : Hp} {σ : St} {ρ ρ' : List Sl} {x : V} {w : Vw} {f : D → MS} {r : Fl} (ok : Ok g F H σ ρ) (hx : VwOk g σ F x w) (h : mThen (frc w) f ρ = some (r, ρ')) :
    ∃ d F1 ρ1, Ex F F1 ∧ Ok g F1 H σ ρ1 ∧ Dp g.K F1 x d ∧ f d ρ1 = some (r, ρ') := by
  unfold mThen at h
  cases h1 : frc w ρ with
  | none => rw [h1] at h; cases h
  | some p =>
    obtain ⟨r1, ρ1⟩ := p
    obtain ⟨d, F1, rfl, e1, ok1, q1⟩ := frc_ok ok hx h1
    rw [h1] at h
    exact ⟨d, F1, ρ1, e1, ok1, q1, h⟩
def mIfS (mt : M Bool) (m n : MS) : MS := mThen mt fun b => if b = true then m else n
theorem qs_if {c : Expr} {a b : List Stmt} {tc : TT} {t u : TS} {mt : M Bool} {m n : MS} (hc : QT X EW c tc mt) (ha : QSs X EW a t m) (hb : QSs X EW b u n) : QS X EW (.If c a b pos) (tIfS tc t u) (mIfS mt m n) := by
  refine ⟨ps_if hc.pt ha.ps hb.ps, ?_⟩
  refine then_sm (R := fun _ _ _ (a b : Bool) => a = b) (k := fun D σ b H1 => if b = true then t D σ H1 else u D σ H1) hc.sm fun g F H σ ρ a b hK ok hab r ρ' e D q => ?_
  cases hab
  cases a with
  | true => exact ha.sm g F H σ ρ hK ok r ρ' e D q
  | false => exact hb.sm g F H σ ρ hK ok r ρ' e D q
def retD (d : D) : MS := fun ρ => some (.rt d, ρ)
def mRetS (ma : M Vw) : MS := mThen ma fun w => mThen (frc w) retD
theorem qs_ret {e : Expr} {te : TE} {ma : M Vw} (h : QE X EW e te ma) : QS X EW (.Return (some e) pos) (tRet te) (mRetS ma) := by
  refine ⟨ps_ret h.pe, ?_⟩
  refine then_sm (R := VwOk) (k := fun D σ x H1 => D.rt x H1) h.sm fun g F H σ ρ a b hK ok hab r ρ' e D q => ?_
  obtain ⟨d, F1, ρ1, e1, ok1, q1, h1⟩ := frcS ok hab e
  cases h1
  exact q F1 H σ e1 ok1 a q1
theorem qs_retN : QS X EW (.Return none pos) tRetN (retD .none) := ⟨ps_retN, fun g F H σ ρ _ ok r ρ' e D q => by cases e; exact q F H σ (Ex.refl F) ok .non .non⟩
def mDrop (ma : M Vw) : MS := mThen ma fun _ => mSkip
theorem qs_expr {e : Expr} {te : TE} {ma : M Vw} (h : QE X EW e te ma) (hs : swapsWith e none pos.line X.env = pure false := by rfl) : QS X EW (.Expr e pos) (tDrop te) (mDrop ma) := by
  refine ⟨ps_expr h.pe hs, ?_⟩
  refine then_sm (R := VwOk) (k := fun D σ _ H1 => D.nx σ H1) h.sm fun g F H σ ρ a b hK ok hab r ρ' e D q => ?_
  cases e
  exact q F H σ (Ex.refl F) ok
def asgS (gm : GM) (d : D) : MS := fun ρ => match gm d ρ with
  | none => none
  | some ρ' => some (.nx, ρ')
def mAsg (ma : M Vw) (gm : GM) : MS := mThen ma fun w => mThen (frc w) (asgS gm)
theorem asg_sm {te : TE} {ma : M Vw} {gt : TG} {vars : List Nat} {gm : GM} {tg : Expr} (hg : QG X tg gt vars gm) (h : ∀ g F H σ ρ, g.K = X.K → Ok g F H σ ρ → At EW g F H σ (VwOk g σ) (te σ) (ma ρ)) : SmS X.K EW (tAsg te gt) (mAsg ma gm) := by
  refine then_sm (R := VwOk) (k := fun D σ x H1 => gt x σ H1 D.nx) h fun g F H σ ρ a b hK ok hab r ρ' e D q => ?_
  obtain ⟨d, F1, ρ1, e1, ok1, q1, h1⟩ := frcS ok hab e
  unfold asgS at h1
  cases h2 : gm d ρ1 with
  | none => rw [h2] at h1; cases h1
  | some ρ2 =>
    rw [h2] at h1
    cases h1
    exact hg.sm g F1 H σ ρ1 a d ρ' hK ok1 q1 h2 _ fun σ' ok' _ => q F1 H σ' e1 ok'
theorem qs_asg {tg e : Expr} {te : TE} {ma : M Vw} {gt : TG} {vars : List Nat} {gm : GM} (he : QE X EW e te ma) (hg : QG X tg gt vars gm) (hs : swapsWithSole [tg] e pos.line X.env = pure false := by rfl) (hw : swappedStores [tg] e X.env = pure none := by rfl)
    (h1 : (assignEach [tg] X.env).map (·.2) = [assign tg X.env] := by rfl) : QS X EW (.Assign [tg] e pos) (tAsg te gt) (mAsg ma gm) := ⟨ps_asg he.pe hg.pg hs hw h1, asg_sm hg he.sm⟩
theorem qs_set (i : Nat) {x : Str} {e : Expr} {te : TE} {ma : M Vw} {pos' : Pos} (hN : X.N.Nodup) (he : QE X EW e te ma) (hi : X.N[i]? = some x := by rfl) (hx : Loc X.env.scope x := by first | exact Or.inl rfl | exact Or.inr rfl) (hs : swapsWith e (some (.Name x pos')) pos.line X.env = pure false := by rfl)
    (hf : X.fn x = true ∨ X.env.scope.names.lookup x = some .local := by first | exact .inl rfl | exact .inr rfl) : QS X EW (.Assign [.Name x pos'] e pos) (tAsg te (gName i)) (mAsg ma (asgD i)) :=
  ⟨ps_set hN hi hx he.pe hs hf, asg_sm (qg_name (pos := pos') i hN hi hx hf) he.sm⟩
/-- a slot gets an object of one's own -/
def asgO (i : Nat) (o : O) : MS := fun ρ => match ρ[i]? with
  | none => none
  | some (.par _) => none
  | some _ => some (.nx, ρ.set i (.own o))
theorem asgO_some {i : Nat} {o : O} {ρ ρ' : List Sl} {r : Fl} (h : asgO i o ρ = some (r, ρ')) : r = .nx ∧ ρ' = ρ.set i (.own o) := by
  unfold asgO at h
  cases hs : ρ[i]? with
  | none => simp only [hs] at h; cases h
  | some s =>
    simp only [hs] at h
    cases s with
    | un => cases h; exact ⟨rfl, rfl⟩
    | dat d => cases h; exact ⟨rfl, rfl⟩
    | own o => cases h; exact ⟨rfl, rfl⟩
    | par o => cases h
def newL (i : Nat) (ds : List D) : MS := if ds.length ≤ BIG then asgO i (.lst ds) else fun _ => none
def mNewL (ma : M (List Vw)) (i : Nat) : MS := mThen ma fun ws => mThen (frcs ws) (newL i)
/-- x = [a, b, ..], a list of one's own -/
theorem qs_newL (i : Nat) {x : Str} {es : List Expr} {ta : TA} {ma : M (List Vw)} {pos' p2 : Pos} (hN : X.N.Nodup) (h : QA X EW es ta ma) (hi : X.N[i]? = some x := by rfl) (hx : Loc X.env.scope x := by first | exact Or.inl rfl | exact Or.inr rfl) (hs : swapsWith (.List es p2) (some (.Name x pos')) pos.line X.env = pure false := by rfl)
    (hf : X.fn x = true ∨ X.env.scope.names.lookup x = some .local := by first | exact .inl rfl | exact .inr rfl) : QS X EW (.Assign [.Name x pos'] (.List es p2) pos) (tAsg (tLst ta) (gName i)) (mNewL ma i) := by
  refine ⟨ps_set hN hi hx (pe_lst h.pa) hs hf, ?_⟩
  refine then_sm (R := VwsOk) (k := fun D σ xs H1 => xs.length ≤ sizeLine ∧ ∀ p, H1 p = none → D.nx (σ.set i (some (.ref p))) (upd H1 p (.lst xs))) h.sm fun g F H σ ρ xs ws hK ok hab r ρ' e D q => ?_
  unfold mThen at e
  cases h1 : frcs ws ρ with
  | none => rw [h1] at e; cases e
  | some p =>
    obtain ⟨r1, ρ1⟩ := p
    obtain ⟨ds, F1, rfl, e1, ok1, q1⟩ := frcs_ok ok hab h1
    rw [h1] at e
    have e : newL i ds ρ1 = some (r, ρ') := e
    unfold newL at e
    by_cases hz : ds.length ≤ BIG
    · rw [if_pos hz] at e
      obtain ⟨rfl, rfl⟩ := asgO_some e
      refine ⟨big_le (by rw [dps_len q1]; exact hz), fun p hp => ?_⟩
      exact q F1 _ _ e1 (ok1.setO (o := .lst ds) hp ⟨xs, upd_same, q1⟩)
    · rw [if_neg hz] at e; cases e
/-! ### loops -/
def loopS (gm : GM) (body : MS) : List D → MS
  | [], ρ => some (.nx, ρ)
  | d :: ds, ρ => match gm d ρ with
    | none => none
    | some ρ1 => match body ρ1 with
      | some (.nx, ρ2) => loopS gm body ds ρ2
      | some (.ct, ρ2) => loopS gm body ds ρ2
      | some (.bk, ρ2) => some (.nx, ρ2)
      | r => r
def mFor (mi : M (List D)) (gm : GM) (body : MS) : MS := mThen mi fun ds => loopS gm body ds
theorem qs_for {iter tg : Expr} {body : List Stmt} {wi : TI} {gt : TG} {vars : List Nat} {tb : TS} {mi : M (List D)} {gm : GM} {mb : MS} (hp : PassesOwn (model X.prog X.w) X.A X.env X.xe) (hc : X.calm = true) (hi : QI X EW tg iter wi mi) (hg : QG X tg gt vars gm) (hb : QSs X EW body tb mb)
    (hs : ∀ x, foldedSetIterable iter X.env x = pure x := by intro _; rfl) : QS X EW (.For tg iter body [] pos) (tFor wi gt tb) (mFor mi gm mb) := by
  refine ⟨ps_for hp hc hi.pi hg.pg hb.ps hs, ?_⟩
  refine then_sm (R := fun g _ F J ds => Wk g.K F J ds) (k := fun D σ J H1 => ∃ W : Nat → Nat → St → Hp → Prop, (∃ m, W 0 m σ H1) ∧ ∀ i m σ H, W i m σ H →
    (J.stop i H ∧ D.nx σ H) ∨ (J.go i H ∧ ∃ N : St → Hp → Prop, (∀ σ' H', N σ' H' → ∃ m', m' < m ∧ W (i + 1) m' σ' H') ∧ ∀ x H', J.yld i H x H' → gt x σ H' fun σ2 H2 => tb { D with nx := N, ct := N, bk := D.nx } σ2 H2))
    hi.sm fun g F H σ ρ J ds hK ok wk r ρ' e D q => ?_
  obtain ⟨wg, wst, wy⟩ := wk
  refine ⟨fun i m σ H => m = ds.length - i ∧ i ≤ ds.length ∧ ∃ F1 ρ1, Ex F F1 ∧ Ok g F1 H σ ρ1 ∧ loopS gm mb (ds.drop i) ρ1 = some (r, ρ'), ⟨_, rfl, Nat.zero_le _, F, ρ, Ex.refl F, ok, e⟩, ?_⟩
  rintro i m σ1 H1 ⟨rfl, hi', F1, ρ1, e1, ok1, h1⟩
  by_cases hlt : i < ds.length
  · refine .inr ⟨wg i H1 hlt (e1.trans ok1.ff), fun σ2 H2 => ∃ F2 ρ2, Ex F F2 ∧ Ok g F2 H2 σ2 ρ2 ∧ loopS gm mb (ds.drop (i + 1)) ρ2 = some (r, ρ'), fun σ2 H2 ⟨F2, ρ2, e2, ok2, h2⟩ => ⟨ds.length - (i + 1), by omega, rfl, hlt, F2, ρ2, e2, ok2, h2⟩, fun x H2 y => ?_⟩
    obtain ⟨d, hd, hx⟩ := wy i H1 x H2 hlt (e1.trans ok1.ff) y
    have step : ∃ F2, Ex F1 F2 ∧ Ok g F2 H2 σ1 ρ1 ∧ Dp g.K F2 x d := by
      rcases hx with ⟨rfl, hx⟩ | ⟨T, vs, es, rfl, hT, rfl, rfl, hx⟩
      · exact ⟨F1, Ex.refl F1, ok1, dpE e1 _ _ hx⟩
      · obtain ⟨ex, ok2⟩ := ok1.newD (o := .tup vs) hT
        exact ⟨_, ex, ok2, .tup (.inl (.inl upd_same)) (dpsE (e1.trans ex) _ _ hx)⟩
    obtain ⟨F2, e2, ok2, hd2⟩ := step
    have hdrop : ds.drop i = d :: ds.drop (i + 1) := by
      rw [List.drop_eq_getElem_cons hlt]
      have : ds[i] = d := by
        have h := hd
        rw [List.getElem?_eq_getElem hlt] at h
        exact Option.some.inj h
      rw [this]
    rw [hdrop] at h1
    unfold loopS at h1
    cases h3 : gm d ρ1 with
    | none => simp only [h3] at h1; cases h1
    | some ρ3 =>
      simp only [h3] at h1
      refine hg.sm g F2 H2 σ1 ρ1 x d ρ3 hK ok2 hd2 h3 _ fun σ3 ok3 _ => ?_
      cases h4 : mb ρ3 with
      | none => simp only [h4] at h1; cases h1
      | some p =>
        obtain ⟨r4, ρ4⟩ := p
        simp only [h4] at h1
        refine hb.sm g F2 H2 σ3 ρ3 hK ok3 r4 ρ4 h4 _ fun F4 H4 σ4 e4 ok4 => ?_
        cases r4 with
        | nx => exact ⟨F4, ρ4, (e1.trans e2).trans e4, ok4, h1⟩
        | ct => exact ⟨F4, ρ4, (e1.trans e2).trans e4, ok4, h1⟩
        | bk => cases h1; exact q F4 H4 σ4 ((e1.trans e2).trans e4) ok4
        | rt d => cases h1; exact q F4 H4 σ4 ((e1.trans e2).trans e4) ok4
        | er c => cases h1; exact q F4 H4 σ4 ((e1.trans e2).trans e4) ok4
  · have hi2 : i = ds.length := by omega
    subst hi2
    rw [List.drop_length] at h1
    cases h1
    exact .inl ⟨wst H1 (e1.trans ok1.ff), q F1 H1 σ1 e1 ok1⟩
def loopW (mt : M Bool) (body : MS) : Nat → MS
  | 0, _ => none
  | n + 1, ρ => match mt ρ with
    | none => none
    | some (.er c, ρ1) => some (.er c, ρ1)
    | some (.ok false, ρ1) => some (.nx, ρ1)
    | some (.ok true, ρ1) => match body ρ1 with
      | some (.nx, ρ2) => loopW mt body n ρ2
      | some (.ct, ρ2) => loopW mt body n ρ2
      | some (.bk, ρ2) => some (.nx, ρ2)
      | r => r
/-- a while of at most so many turns -/
theorem qs_while (fuel : Nat) {c : Expr} {body : List Stmt} {tc : TT} {tb : TS} {mt : M Bool} {mb : MS} (hp : PassesOwn (model X.prog X.w) X.A X.env X.xe) (hc : QT X EW c tc mt) (hb : QSs X EW body tb mb) : QS X EW (.While c body [] pos) (tWhile tc tb) (loopW mt mb fuel) := by
  refine ⟨ps_while hp hc.pt hb.ps, fun g F H σ ρ hK ok r ρ' e D q => ?_⟩
  refine ⟨fun n σ H => ∃ F1 ρ1, Ex F F1 ∧ Ok g F1 H σ ρ1 ∧ loopW mt mb n ρ1 = some (r, ρ'), ⟨fuel, F, ρ, Ex.refl F, ok, e⟩, ?_⟩
  rintro n σ1 H1 ⟨F1, ρ1, e1, ok1, h1⟩
  cases n with
  | zero => cases h1
  | succ n =>
    unfold loopW at h1
    cases h2 : mt ρ1 with
    | none => simp only [h2] at h1; cases h1
    | some p =>
      obtain ⟨r2, ρ2⟩ := p
      simp only [h2] at h1
      refine hc.sm g F1 H1 σ1 ρ1 hK ok1 r2 ρ2 h2 _ fun F2 H2 e2 ok2 => ?_
      cases r2 with
      | er c => cases h1; exact q F2 H2 σ1 (e1.trans e2) ok2
      | ok b =>
        intro a hab
        subst hab
        cases a with
        | false =>
          cases h1
          show (if false = true then _ else _)
          rw [if_neg Bool.false_ne_true]
          exact q F2 H2 σ1 (e1.trans e2) ok2
        | true =>
          simp only at h1
          rw [if_pos rfl]
          refine ⟨fun σ3 H3 => ∃ F3 ρ3, Ex F F3 ∧ Ok g F3 H3 σ3 ρ3 ∧ loopW mt mb n ρ3 = some (r, ρ'), fun σ3 H3 h3 => ⟨n, Nat.lt_succ_self n, h3⟩, ?_⟩
          cases h4 : mb ρ2 with
          | none => simp only [h4] at h1; cases h1
          | some p =>
            obtain ⟨r4, ρ4⟩ := p
            simp only [h4] at h1
            refine hb.sm g F2 H2 σ1 ρ2 hK ok2 r4 ρ4 h4 _ fun F4 H4 σ4 e4 ok4 => ?_
            cases r4 with
            | nx => exact ⟨F4, ρ4, (e1.trans e2).trans e4, ok4, h1⟩
            | ct => exact ⟨F4, ρ4, (e1.trans e2).trans e4, ok4, h1⟩
            | bk => cases h1; exact q F4 H4 σ4 ((e1.trans e2).trans e4) ok4
            | rt d => cases h1; exact q F4 H4 σ4 ((e1.trans e2).trans e4) ok4
            | er c => cases h1; exact q F4 H4 σ4 ((e1.trans e2).trans e4) ok4
/-! ### what a loop walks -/
/-- a list, a tuple -/
def seqI (w : Vw) : M (List D) := mBind (frc w) fun d => mLift (match d with
  | .list ds => some ds
  | .tuple ds => some ds
  | _ => none)
def seqL (w : Vw) : M (List D) := mBind (frc w) fun d => mLift (match d with
  | .list ds => some ds
  | _ => none)
def seqT (w : Vw) : M (List D) := mBind (frc w) fun d => mLift (match d with
  | .tuple ds => some ds
  | _ => none)
theorem wk_list {K : PySem.W.Frag} {F : Hp} {a : Addr} {vs : List V} {ds : List D} (h : SqL K F a vs) (hd : DpAll K F vs ds) : Wk K F (Itl K a) ds := by
  have hl := dps_len hd
  refine ⟨fun i H hi e => ⟨vs, vs[i]'(by omega), sqlE e h, by simp [hl, hi]⟩, fun H e => ⟨vs, sqlE e h, by omega⟩, fun i H x H' hi e y => ?_⟩
  obtain ⟨d, h1, h2⟩ := dps_getV hd (y.2 vs (sqlE e h))
  exact ⟨d, h1, .inl ⟨y.1, h2⟩⟩
theorem wk_tup {K : PySem.W.Frag} {F : Hp} {a : Addr} {vs : List V} {ds : List D} (h : SqT K F a vs) (hd : DpAll K F vs ds) : Wk K F (Itt K a) ds := by
  have hl := dps_len hd
  refine ⟨fun i H hi e => ⟨vs, vs[i]'(by omega), sqtE e h, by simp [hl, hi]⟩, fun H e => ⟨vs, sqtE e h, by omega⟩, fun i H x H' hi e y => ?_⟩
  obtain ⟨d, h1, h2⟩ := dps_getV hd (y.2 vs (sqtE e h))
  exact ⟨d, h1, .inl ⟨y.1, h2⟩⟩
def mSeqL (ma : M Vw) : M (List D) := mBind ma seqL
def mSeqT (ma : M Vw) : M (List D) := mBind ma seqT
theorem qi_list {tg l : Expr} {tl : TE} {ma : M Vw} (h : QE X EW l tl ma) : QI X EW tg l (iList X.K tl) (mSeqL ma) := by
  refine ⟨pi_list h.pe, fun g F H σ ρ hK ok => ?_⟩
  refine At.bind (k := fun x H1 R => ∃ a, x = .ref a ∧ (∃ xs, SqL X.K H1 a xs) ∧ R (Itl X.K a) H1) (h.sm g F H σ ρ hK ok) fun F1 H1 ρ1 x w e1 ok1 hx => ?_
  refine frc_at ok1 hx fun F2 ρ2 d e2 ok2 hd => ?_
  intro r ρ' e Q q
  cases d with
  | list ds =>
    cases e
    cases hd with
    | lst hs ha =>
      rw [← hK]
      exact ⟨_, rfl, ⟨_, sqlE ok2.ff hs⟩, q F2 H1 (Ex.refl F2) ok2 _ (wk_list hs ha)⟩
  | none => cases e
  | bool _ => cases e
  | int _ => cases e
  | str _ => cases e
  | tuple _ => cases e
  | dict _ => cases e
theorem qi_tup {tg l : Expr} {tl : TE} {ma : M Vw} (h : QE X EW l tl ma) : QI X EW tg l (iTup X.K tl) (mSeqT ma) := by
  refine ⟨pi_tup h.pe, fun g F H σ ρ hK ok => ?_⟩
  refine At.bind (k := fun x H1 R => ∃ a, x = .ref a ∧ (∃ xs, SqT X.K H1 a xs) ∧ R (Itt X.K a) H1) (h.sm g F H σ ρ hK ok) fun F1 H1 ρ1 x w e1 ok1 hx => ?_
  refine frc_at ok1 hx fun F2 ρ2 d e2 ok2 hd => ?_
  intro r ρ' e Q q
  cases d with
  | tuple ds =>
    cases e
    cases hd with
    | tup hs ha =>
      rw [← hK]
      exact ⟨_, rfl, ⟨_, sqtE ok2.ff hs⟩, q F2 H1 (Ex.refl F2) ok2 _ (wk_tup hs ha)⟩
  | none => cases e
  | bool _ => cases e
  | int _ => cases e
  | str _ => cases e
  | list _ => cases e
  | dict _ => cases e
def asI (w : Vw) : M Int := fun ρ => match rdD w ρ with
  | some (.int i) => some (.ok i, ρ)
  | _ => none
theorem asI_at {g : Gh} {F H : Hp} {σ : St} {ρ : List Sl} {x : V} {w : Vw} {α β : Type} {R : Hp → α → β → Prop} {t : Hp → (α → Hp → Prop) → Prop} {f : Int → M β} (ok : Ok g F H σ ρ) (hx : VwOk g σ F x w) (h : ∀ i, x = .int i → At EW g F H σ R t (f i ρ)) : At EW g F H σ R t (mBind (asI w) f ρ) := by
  intro r ρ' e Q q
  unfold mBind asI at e
  cases h1 : rdD w ρ with
  | none => simp only [h1] at e; cases e
  | some d =>
    simp only [h1] at e
    have hd := rdD_ok ok hx h1
    cases d with
    | int i => cases hd; exact h i rfl r ρ' e Q q
    | none => cases e
    | bool _ => cases e
    | str _ => cases e
    | list _ => cases e
    | tuple _ => cases e
    | dict _ => cases e
def upTo (lo : Int) (n : Nat) : List D := (List.range n).map fun (i : Nat) => .int (lo + (i : Int))
theorem upTo_length (lo : Int) (n : Nat) : (upTo lo n).length = n := by simp [upTo]
theorem wk_range {K : PySem.W.Frag} {F : Hp} {lo : Int} {n : Nat} : Wk K F (Itr lo n) (upTo lo n) := by
  refine ⟨fun i H hi _ => by rw [upTo_length] at hi; exact hi, fun H _ => by rw [upTo_length]; exact Nat.le_refl _, fun i H x H' hi _ y => ?_⟩
  obtain ⟨rfl, rfl⟩ := y
  rw [upTo_length] at hi
  exact ⟨.int (lo + i), by simp [upTo, hi], .inl ⟨rfl, .int _⟩⟩
def rngI (lo hi : Int) : M (List D) := fun ρ => if -1000000000000 ≤ lo ∧ lo ≤ 1000000000000 ∧ -1000000000000 ≤ hi ∧ hi ≤ 1000000000000 then some (.ok (upTo lo (hi - lo).toNat), ρ) else none
def mRng1 (ma : M Vw) : M (List D) := mBind ma fun w => mBind (asI w) fun j => rngI 0 j
def mRng2 (ma mb : M Vw) : M (List D) := mBind ma fun w => mBind mb fun u => mBind (asI w) fun i => mBind (asI u) fun j => rngI i j
theorem qi_range1 {tg a : Expr} {ta : TE} {ma : M Vw} {p : Pos} (hg : Gl X "range") (hm : X.mg "range" = none) (h : QE X EW a ta ma) (hs : starEach [a] X.env = [(false, eval a X.env)] := by rfl) : QI X EW tg (.Call (.Name "range" p) [a] [] pos) (iRng1 (tCons ta tNil)) (mRng1 ma) := by
  refine ⟨pi_range1 hg hm (pa_cons h.pe pa_nil hs) hs, fun g F H σ ρ hK ok => ?_⟩
  refine At.bind (k := fun x H1 R => ∃ j : Int, [x] = [.int j] ∧ -(2 ^ 62) ≤ j ∧ j < 2 ^ 62 ∧ R (Itr 0 j.toNat) H1) (h.sm g F H σ ρ hK ok) fun F1 H1 ρ1 x w e1 ok1 hx => ?_
  refine asI_at ok1 hx fun j hj => ?_
  subst hj
  intro r ρ' e Q q
  unfold rngI at e
  split at e
  · rename_i hz
    cases e
    refine ⟨j, rfl, by omega, by omega, ?_⟩
    have e0 : j - 0 = j := Int.sub_zero j
    rw [e0] at q
    exact q F1 H1 (Ex.refl F1) ok1 _ wk_range
  · cases e
theorem qi_range2 {tg a b : Expr} {ta tb : TE} {ma mb : M Vw} {p : Pos} (hg : Gl X "range") (hm : X.mg "range" = none) (h : QE X EW a ta ma) (k : QE X EW b tb mb) (hs : starEach [a, b] X.env = [(false, eval a X.env), (false, eval b X.env)] := by rfl) (hs2 : starEach [b] X.env = [(false, eval b X.env)] := by rfl) :
    QI X EW tg (.Call (.Name "range" p) [a, b] [] pos) (iRng2 (tCons ta (tCons tb tNil))) (mRng2 ma mb) := by
  refine ⟨pi_range2 hg hm (pa_cons h.pe (pa_cons k.pe pa_nil hs2) (by rw [hs, hs2])) hs hs2, fun g F H σ ρ hK ok => ?_⟩
  refine At.bind (k := fun x H1 R => tb σ H1 fun y H2 => ∃ i j : Int, [x, y] = [.int i, .int j] ∧ (-(2 ^ 62) ≤ i ∧ i < 2 ^ 62 ∧ -(2 ^ 62) ≤ j ∧ j < 2 ^ 62) ∧ R (Itr i (j - i).toNat) H2) (h.sm g F H σ ρ hK ok) fun F1 H1 ρ1 x w e1 ok1 hx => ?_
  refine At.bind (k := fun y H2 R => ∃ i j : Int, [x, y] = [.int i, .int j] ∧ (-(2 ^ 62) ≤ i ∧ i < 2 ^ 62 ∧ -(2 ^ 62) ≤ j ∧ j < 2 ^ 62) ∧ R (Itr i (j - i).toNat) H2) (k.sm g F1 H1 σ ρ1 hK ok1) fun F2 H2 ρ2 y u e2 ok2 hy => ?_
  refine asI_at ok2 (hx.mono e2) fun i hi => ?_
  refine asI_at ok2 hy fun j hj => ?_
  subst hi
  subst hj
  intro r ρ' e Q q
  unfold rngI at e
  split at e
  · rename_i hz
    cases e
    exact ⟨i, j, rfl, by omega, q F2 H2 (Ex.refl F2) ok2 _ wk_range⟩
  · cases e
end
end Dat
namespace Dat
open PySem L2
/-! ### comprehensions -/
def loopC (gm : GM) (mt : M Bool) (me : M Vw) (vs : List Nat) : List D → List Sl → List D → Option (List D × List Sl)
  | [], ρ, acc => some (acc, ρ)
  | d :: ds, ρ, acc => match gm d ρ with
    | none => none
    | some ρ1 => match mt ρ1 with
      | some (.ok true, ρ2) => (match mBind me frc ρ2 with
        | some (.ok y, ρ3) => if acc.length < BIG then loopC gm mt me vs ds (wipeS ρ3 vs) (acc ++ [y]) else none
        | _ => none)
      | some (.ok false, ρ2) => loopC gm mt me vs ds (wipeS ρ2 vs) acc
      | _ => none
def compL (gm : GM) (mt : M Bool) (me : M Vw) (vs : List Nat) (ds : List D) : M (List D) := fun ρ => match loopC gm mt me vs ds (wipeS ρ vs) [] with
  | none => none
  | some (ys, ρ') => some (.ok ys, wipeS ρ' vs)
def mLc (mi : M (List D)) (gm : GM) (mt : M Bool) (me : M Vw) (vs : List Nat) : M Vw := mBind mi fun ds => mBind (compL gm mt me vs ds) fun ys => mRet (.dat (.list ys))
/-- the tests of a comprehension -/
structure QTs (X : Cx) (EW : EWT) (ifs : List Expr) (t : TT) (m : M Bool) : Prop where
  pts : PTs X ifs t
  sm : ∀ g F H σ ρ, g.K = X.K → Ok g F H σ ρ → At EW g F H σ (fun _ (a b : Bool) => a = b) (t σ) (m ρ)
section
variable {X : Cx} {EW : EWT} {pos : Pos}
theorem qts_nil : QTs X EW [] tYes (mRet true) := ⟨pts_nil, fun g F H σ ρ _ ok => At.ret (a := true) ok rfl fun _ q => q⟩
theorem qts_one {c : Expr} {t : TT} {m : M Bool} (h : QT X EW c t m) : QTs X EW [c] t m := ⟨pts_one h.pt, h.sm⟩
/-- what the loop of a comprehension does; Qd: what is wanted of the list that stands at Dl in the end, no data yet -/
theorem lc_sm {K : PySem.W.Frag} {J : It} {ds ys : List D} {gt : TG} {vars : List Nat} {gm : GM} {tt : TT} {mt : M Bool} {te : TE} {me : M Vw} {vs : List Nat} {g : Gh} {F H : Hp} {σ : St} {ρ ρ' : List Sl}
    (hK : g.K = K) (hg : ∀ g F H σ ρ v d ρ', g.K = K → Ok g F H σ ρ → Dp g.K F v d → gm d ρ = some ρ' → ∀ Q : St → Hp → Prop, (∀ σ', Ok g F H σ' ρ' → (∀ vs, (∀ i ∈ vars, i ∈ vs) → wipe σ' vs = wipe σ vs) → Q σ' H) → gt v σ H Q)
    (ht : ∀ g F H σ ρ, g.K = K → Ok g F H σ ρ → At EW0 g F H σ (fun _ (a b : Bool) => a = b) (tt σ) (mt ρ))
    (he : ∀ g F H σ ρ, g.K = K → Ok g F H σ ρ → At EW0 g F H σ (VwOk g σ) (te σ) (me ρ))
    (hv : ∀ i ∈ vars, i ∈ vs) (ok : Ok g F H σ ρ) (wk : Wk g.K F J ds) (hl : loopC gm mt me vs ds (wipeS ρ vs) [] = some (ys, ρ')) {Dl : Addr} (hD : H Dl = none) {Qd : Hp → Prop}
    (q : ∀ F' H' ws, Ex F F' → Ok g F' H' σ (wipeS ρ' vs) → F' Dl = none → H' Dl = some (.lst ws) → DpAll g.K F' ws ys → g.H0 Dl = none → (∀ i, g.at_ i ≠ some Dl) →
      (∀ (i : Nat) (o : O), (wipeS ρ' vs)[i]? = some (.own o) → σ[i]? ≠ some (some (V.ref Dl))) → ys.length ≤ BIG → Qd H') :
    ∃ W : Nat → Nat → Hp → Prop, (∃ m, W 0 m (upd H Dl (.lst []))) ∧ ∀ i m H, W i m H →
      (J.stop i H ∧ Qd H) ∨ (J.go i H ∧ ∃ Nx : Hp → Prop, (∀ H', Nx H' → ∃ m', m' < m ∧ W (i + 1) m' H') ∧ ∀ x H', J.yld i H x H' → gt x (wipe σ vs) H' fun σ2 H2 => wipe σ2 vs = wipe σ vs ∧ tt σ2 H2 fun b H3 =>
        if b = true then te σ2 H3 fun y H4 => ∃ acc, H4 Dl = some (.lst acc) ∧ acc.length < sizeLine ∧ Nx (upd H4 Dl (.lst (acc ++ [y]))) else Nx H3) := by
  obtain ⟨wg, wst, wy⟩ := wk
  have at0 : ∀ i, g.at_ i ≠ some Dl := fun i e => by
    obtain ⟨u, hu⟩ := g.ath i Dl e
    obtain ⟨o', e'⟩ := ok.th Dl u hu
    rw [hD] at e'; cases e'
  have h00 : g.H0 Dl = none := ok.fresh hD
  refine ⟨fun i m H1 => m = ds.length - i ∧ i ≤ ds.length ∧ ∃ F1 ρ1 acc ws, Ex F F1 ∧ Ok g F1 H1 (wipe σ vs) ρ1 ∧ F1 Dl = none ∧ H1 Dl = some (.lst ws) ∧ DpAll g.K F1 ws acc ∧ acc.length ≤ BIG ∧
    (∀ (i : Nat) (o : O), ρ1[i]? = some (.own o) → (wipe σ vs)[i]? ≠ some (some (V.ref Dl))) ∧ loopC gm mt me vs (ds.drop i) ρ1 acc = some (ys, ρ'), ⟨_, rfl, Nat.zero_le _, F, wipeS ρ vs, [], [], Ex.refl F, (ok.newH hD).wiped vs, ok.ff.free hD, upd_same, .nil, Nat.zero_le _, ?_, hl⟩, ?_⟩
  · intro i o h1 h2
    have k := ok.wiped vs
    obtain ⟨l, e1, _, e3, _⟩ := k.sl i _ _ h1 h2
    cases e1
    obtain ⟨u, hu⟩ := oo_some e3
    rw [hD] at hu; cases hu
  rintro i m H1 ⟨rfl, hi', F1, ρ1, acc, ws, e1, ok1, fD, hD1, hws, hz, nD, h1⟩
  by_cases hlt : i < ds.length
  · let NX : Hp → Prop := fun H2 => ∃ F2 ρ2 acc ws, Ex F F2 ∧ Ok g F2 H2 (wipe σ vs) ρ2 ∧ F2 Dl = none ∧ H2 Dl = some (.lst ws) ∧ DpAll g.K F2 ws acc ∧ acc.length ≤ BIG ∧
      (∀ (i : Nat) (o : O), ρ2[i]? = some (.own o) → (wipe σ vs)[i]? ≠ some (some (V.ref Dl))) ∧ loopC gm mt me vs (ds.drop (i + 1)) ρ2 acc = some (ys, ρ')
    refine .inr ⟨wg i H1 hlt (e1.trans ok1.ff), NX, fun H2 h2 => ⟨ds.length - (i + 1), by omega, rfl, hlt, h2⟩, fun x H2 y => ?_⟩
    obtain ⟨d, hd, hx⟩ := wy i H1 x H2 hlt (e1.trans ok1.ff) y
    have step : ∃ F2, Ex F1 F2 ∧ Ok g F2 H2 (wipe σ vs) ρ1 ∧ Dp g.K F2 x d ∧ F2 Dl = none ∧ H2 Dl = some (.lst ws) := by
      rcases hx with ⟨rfl, hx⟩ | ⟨T, us, es, rfl, hT, rfl, rfl, hx⟩
      · exact ⟨F1, Ex.refl F1, ok1, dpE e1 _ _ hx, fD, hD1⟩
      · obtain ⟨ex, ok2⟩ := ok1.newD (o := .tup us) hT
        have ne : Dl ≠ T := by
          rintro rfl
          rw [hD1] at hT; cases hT
        exact ⟨_, ex, ok2, .tup (.inl (.inl upd_same)) (dpsE (e1.trans ex) _ _ hx), by rw [upd_ne ne]; exact fD, by rw [upd_ne ne]; exact hD1⟩
    obtain ⟨F2, e2, ok2, hd2, fD2, hD2⟩ := step
    have hdrop : ds.drop i = d :: ds.drop (i + 1) := by
      rw [List.drop_eq_getElem_cons hlt]
      have : ds[i] = d := by
        have h := hd
        rw [List.getElem?_eq_getElem hlt] at h
        exact Option.some.inj h
      rw [this]
    rw [hdrop] at h1
    unfold loopC at h1
    cases h3 : gm d ρ1 with
    | none => simp only [h3] at h1; cases h1
    | some ρ3 =>
      simp only [h3] at h1
      refine hg ok2.sub F2 H2 (wipe σ vs) ρ1 x d ρ3 hK ok2.subOk hd2 h3 _ fun σ3 ok3 w3 => ?_
      have w3' : wipe σ3 vs = wipe σ vs := (w3 vs hv).trans (wipe_idem σ vs vs fun _ h => h)
      refine ⟨w3', ?_⟩
      have ok3b : Ok g F2 H2 σ3 ρ3 := ok2.back ok3
      obtain ⟨hD3, fD3, nD3⟩ := ok2.stay ok3 hD2 fD2 nD at0
      cases h4 : mt ρ3 with
      | none => simp only [h4] at h1; cases h1
      | some p =>
        obtain ⟨r4, ρ4⟩ := p
        simp only [h4] at h1
        refine ht ok3b.sub F2 H2 σ3 ρ3 hK ok3b.subOk r4 ρ4 h4 _ fun F4 H4 e4 ok4 => ?_
        cases r4 with
        | er c => cases h1
        | ok b =>
          intro b' hb'
          subst hb'
          have ok4b : Ok g F4 H4 σ3 ρ4 := ok3b.back ok4
          obtain ⟨hD4, fD4, nD4⟩ := ok3b.stay ok4 hD3 fD3 nD3 at0
          cases b' with
          | false =>
            rw [if_neg Bool.false_ne_true]
            simp only at h1
            refine ⟨F4, wipeS ρ4 vs, acc, ws, (e1.trans e2).trans e4, by rw [← w3']; exact ok4b.wiped vs, fD4, hD4, dpsE (e2.trans e4) _ _ hws, hz, fun j o a c => ?_, h1⟩
            rcases wipeS_get a with z | ⟨z, nv⟩
            · cases z
            · rw [← w3', wipe_out nv] at c
              exact nD4 j o z c
          | true =>
            rw [if_pos rfl]
            simp only at h1
            unfold mBind at h1
            cases h5 : me ρ4 with
            | none => simp only [h5] at h1; cases h1
            | some p =>
              obtain ⟨r5, ρ5⟩ := p
              simp only [h5] at h1
              refine he ok4b.sub F4 H4 σ3 ρ4 hK ok4b.subOk r5 ρ5 h5 _ fun F5 H5 e5 ok5 => ?_
              cases r5 with
              | er c => cases h1
              | ok w =>
                intro yv hy
                simp only at h1
                have ok5b : Ok g F5 H5 σ3 ρ5 := ok4b.back ok5
                obtain ⟨hD5, fD5, nD5⟩ := ok4b.stay ok5 hD4 fD4 nD4 at0
                cases h6 : frc w ρ5 with
                | none => simp only [h6] at h1; cases h1
                | some p =>
                  obtain ⟨r6, ρ6⟩ := p
                  obtain ⟨dy, F6, rfl, e6, ok6, q6⟩ := frc_ok (g := ok5b.sub) ok5b.subOk hy h6
                  simp only [h6] at h1
                  have ok6b : Ok g F6 H5 σ3 ρ6 := ok5b.back ok6
                  obtain ⟨hD6, fD6, nD6⟩ := ok5b.stay ok6 hD5 fD5 nD5 at0
                  by_cases hz6 : acc.length < BIG
                  · rw [if_pos hz6] at h1
                    have hl6 := dps_len hws
                    refine ⟨ws, hD6, by rw [hl6]; exact big_lt (Nat.le_of_lt hz6), F6, wipeS ρ6 vs, acc ++ [dy], ws ++ [yv], (((e1.trans e2).trans e4).trans e5).trans e6, ?_, fD6, upd_same, dps_app (dpsE (((e2.trans e4).trans e5).trans e6) _ _ hws) (.cons q6 .nil), ?_, fun j o a c => ?_, h1⟩
                    · rw [← w3']
                      refine Ok.wiped ?_ vs
                      refine ⟨ok6b.ff.mut fD6, ok6b.gf, fun a o n r => ?_, ok6b.nw, fun a o r => ?_, ok6b.len, fun j s ov a c => ?_, ok6b.dis⟩
                      · have ne : a ≠ Dl := by
                          rintro rfl
                          rw [h00] at r; cases r
                        rw [upd_ne ne]; exact ok6b.gh a o n r
                      · have ne : a ≠ Dl := by
                          rintro rfl
                          rw [h00] at r; cases r
                        rw [upd_ne ne]; exact ok6b.th a o r
                      · have old := ok6b.sl j s ov a c
                        cases s with
                        | un => trivial
                        | dat d => exact old
                        | own o =>
                          obtain ⟨l, z1, z2, z3, z4⟩ := old
                          have ne : l ≠ Dl := by
                            rintro rfl
                            subst z1
                            exact nD6 j o a c
                          exact ⟨l, z1, z2, ooE (Ex.refl F6) z3 fun u hu => by rw [upd_ne ne]; exact hu, z4⟩
                        | par o =>
                          obtain ⟨l, z1, z2, z3, z4, z5⟩ := old
                          have ne : l ≠ Dl := by
                            rintro rfl
                            exact at0 j z4
                          exact ⟨l, z1, z2, ooE (Ex.refl F6) z3 fun u hu => by rw [upd_ne ne]; exact hu, z4, z5⟩
                    · rw [List.length_append, List.length_singleton]; exact hz6
                    · rcases wipeS_get a with z | ⟨z, nv⟩
                      · cases z
                      · rw [← w3', wipe_out nv] at c
                        exact nD6 j o z c
                  · rw [if_neg hz6] at h1; cases h1
  · have hi2 : i = ds.length := by omega
    subst hi2
    rw [List.drop_length] at h1
    cases h1
    refine .inl ⟨wst H1 (e1.trans ok1.ff), q F1 H1 ws e1 ok1.unwiped fD hD1 hws h00 at0 (fun j o a c => ?_) hz⟩
    rcases wipeS_get a with z | ⟨z, nv⟩
    · cases z
    · exact nD j o z (by rw [wipe_out nv]; exact c)
theorem lc_at {J : It} {ds : List D} {gt : TG} {vars : List Nat} {gm : GM} {tt : TT} {mt : M Bool} {te : TE} {me : M Vw} {vs : List Nat} {g : Gh} {F H : Hp} {σ : St} {ρ : List Sl}
    (hK : g.K = X.K) (hg : ∀ g F H σ ρ v d ρ', g.K = X.K → Ok g F H σ ρ → Dp g.K F v d → gm d ρ = some ρ' → ∀ Q : St → Hp → Prop, (∀ σ', Ok g F H σ' ρ' → (∀ vs, (∀ i ∈ vars, i ∈ vs) → wipe σ' vs = wipe σ vs) → Q σ' H) → gt v σ H Q)
    (ht : ∀ g F H σ ρ, g.K = X.K → Ok g F H σ ρ → At EW0 g F H σ (fun _ (a b : Bool) => a = b) (tt σ) (mt ρ))
    (he : ∀ g F H σ ρ, g.K = X.K → Ok g F H σ ρ → At EW0 g F H σ (VwOk g σ) (te σ) (me ρ))
    (hv : ∀ i ∈ vars, i ∈ vs) (ok : Ok g F H σ ρ) (wk : Wk g.K F J ds) :
    At EW g F H σ (VwOk g σ) (fun H1 (Q : VK) => ∀ D, H1 D = none → ∃ W : Nat → Nat → Hp → Prop, (∃ m, W 0 m (upd H1 D (.lst []))) ∧ ∀ i m H, W i m H →
      (J.stop i H ∧ Q (.ref D) H) ∨ (J.go i H ∧ ∃ Nx : Hp → Prop, (∀ H', Nx H' → ∃ m', m' < m ∧ W (i + 1) m' H') ∧ ∀ x H', J.yld i H x H' → gt x (wipe σ vs) H' fun σ2 H2 => wipe σ2 vs = wipe σ vs ∧ tt σ2 H2 fun b H3 =>
        if b = true then te σ2 H3 fun y H4 => ∃ acc, H4 D = some (.lst acc) ∧ acc.length < sizeLine ∧ Nx (upd H4 D (.lst (acc ++ [y]))) else Nx H3)) (mBind (compL gm mt me vs ds) (fun ys => mRet (.dat (.list ys))) ρ) := by
  intro r ρ' e Q q
  unfold mBind compL at e
  cases h1 : loopC gm mt me vs ds (wipeS ρ vs) [] with
  | none => simp only [h1] at e; cases e
  | some p =>
    obtain ⟨ys, ρ1⟩ := p
    simp only [h1] at e
    cases e
    intro Dl hD
    refine lc_sm (K := X.K) hK hg ht he hv ok wk h1 hD fun F' H' ws e1 ok1 fD hD1 hws h0 hat hn _ => ?_
    obtain ⟨ex, ok2, hd⟩ := ok1.take hD1 fD hws h0 hn hat
    exact q _ _ (e1.trans ex) ok2 _ hd
variable {elt tg iter : Expr} {ifs : List Expr} {scope : Scope} {wi : TI} {gt : TG} {tt : TT} {te : TE} {mi : M (List D)} {gm : GM} {mt : M Bool} {me : M Vw} {vars : List Nat}
theorem qe_lc {own : List (Str × Nat)} (hc : X.calm = true) (hN : X.N.Nodup) (hi : QI X EW tg iter wi mi) (ok : BlkOk X.N X.env.scope scope own)
    (hg : ∀ (s : Shared) (H : Hp) (C : Addr) (cl : List (Str × Addr)) (fp : List Addr), QG (X.blk s H scope (compEnvC scope cl C X.env) fp) tg gt vars gm)
    (ht : ∀ (s : Shared) (H : Hp) (C : Addr) (cl : List (Str × Addr)) (fp : List Addr), QTs (X.blk s H scope (compEnvC scope cl C X.env) fp) EW0 ifs tt mt)
    (he : ∀ (s : Shared) (H : Hp) (C : Addr) (cl : List (Str × Addr)) (fp : List Addr), QE (X.blk s H scope (compEnvC scope cl C X.env) fp) EW0 elt te me)
    (hv : ∀ i ∈ vars, i ∈ own.map (·.2) := by decide) (hs : ∀ x, foldedSetIterable iter X.env x = pure x := by intro _; rfl) :
    QE X EW (.ListComp elt [⟨tg, iter, ifs, 0⟩] scope pos) (tLc wi gt tt te (own.map (·.2))) (mLc mi gm mt me (own.map (·.2))) := by
  refine ⟨pe_lc hc hN hi.pi ok (fun s H C cl fp => (hg s H C cl fp).pg) (fun s H C cl fp => (ht s H C cl fp).pts) (fun s H C cl fp => (he s H C cl fp).pe) hs, fun g F H σ ρ hK ok => ?_⟩
  refine At.bind (k := fun J H1 (Q : VK) => ∀ D, H1 D = none → ∃ W : Nat → Nat → Hp → Prop, (∃ m, W 0 m (upd H1 D (.lst []))) ∧ ∀ i m H, W i m H →
      (J.stop i H ∧ Q (.ref D) H) ∨ (J.go i H ∧ ∃ Nx : Hp → Prop, (∀ H', Nx H' → ∃ m', m' < m ∧ W (i + 1) m' H') ∧ ∀ x H', J.yld i H x H' → gt x (wipe σ (own.map (·.2))) H' fun σ2 H2 => wipe σ2 (own.map (·.2)) = wipe σ (own.map (·.2)) ∧ tt σ2 H2 fun b H3 =>
        if b = true then te σ2 H3 fun y H4 => ∃ acc, H4 D = some (.lst acc) ∧ acc.length < sizeLine ∧ Nx (upd H4 D (.lst (acc ++ [y]))) else Nx H3)) (hi.sm g F H σ ρ hK ok) fun F1 H1 ρ1 J ds e1 ok1 wk => ?_
  exact lc_at hK (hg X.s_0 X.H_0 0 [] []).sm (ht X.s_0 X.H_0 0 [] []).sm (he X.s_0 X.H_0 0 [] []).sm hv ok1 wk
/-- x = [..] -/
theorem qs_setLc (i : Nat) {y : Str} {py pos spos : Pos} {own : List (Str × Nat)} (hc : X.calm = true) (hN : X.N.Nodup) (hi : QI X EW tg iter wi mi) (ok : BlkOk X.N X.env.scope scope own)
    (hg : ∀ (s : Shared) (H : Hp) (C : Addr) (cl : List (Str × Addr)) (fp : List Addr), QG (X.blk s H scope (compEnvC scope cl C X.env) fp) tg gt vars gm)
    (ht : ∀ (s : Shared) (H : Hp) (C : Addr) (cl : List (Str × Addr)) (fp : List Addr), QTs (X.blk s H scope (compEnvC scope cl C X.env) fp) EW0 ifs tt mt)
    (he : ∀ (s : Shared) (H : Hp) (C : Addr) (cl : List (Str × Addr)) (fp : List Addr), QE (X.blk s H scope (compEnvC scope cl C X.env) fp) EW0 elt te me)
    (hy : X.N[i]? = some y := by rfl) (hyl : X.env.scope.names.lookup y = some .local := by rfl)
    (hsw : swapsWith (.ListComp elt [⟨tg, iter, ifs, 0⟩] scope pos) (some (.Name y py)) spos.line X.env = pure true := by exact sw_true rfl rfl rfl (by decide +kernel))
    (hv : ∀ i ∈ vars, i ∈ own.map (·.2) := by decide) (hs : ∀ x, foldedSetIterable iter X.env x = pure x := by intro _; rfl) :
    QS X EW (.Assign [.Name y py] (.ListComp elt [⟨tg, iter, ifs, 0⟩] scope pos) spos) (tAsg (tLc wi gt tt te (own.map (·.2))) (gName i)) (mAsg (mLc mi gm mt me (own.map (·.2))) (asgD i)) :=
  ⟨ps_setLc hc hN hy hyl hsw hi.pi ok (fun s H C cl fp => (hg s H C cl fp).pg) (fun s H C cl fp => (ht s H C cl fp).pts) (fun s H C cl fp => (he s H C cl fp).pe) hs,
    asg_sm (tg := .Name y py) (qg_name i hN hy (.inl hyl) (.inr hyl)) (qe_lc (pos := pos) hc hN hi ok hg ht he hv hs).sm⟩
end
end Dat
namespace Dat
open PySem L2
/-! ### enumerate over a tuple -/
section
open PySem.AutoSeq1 (wpAny_loadPart')
theorem enumNewT (l : Addr) (items : Array Value) (n : Nat) (dct : Option Addr) (sl : Array (Option Value)) :
    Meets (Builtin.«enumerate.__new__» ⟨[.type "enumerate", .ref l], []⟩) (fun _ R s => s.heap.get? l = some { cls := .type "tuple", dict := dct, data := .seq items n, slots := sl } ∧
      R (.ok (.ret (.ref (s.heap.push { cls := .type "tuple_iterator", data := .fields #[.ref l, .int 0 0] }).objs.size)))
        { s with heap := (s.heap.push { cls := .type "tuple_iterator", data := .fields #[.ref l, .int 0 0] }).push { cls := .type "enumerate", data := .fields #[.none, .bool false, .ref s.heap.objs.size, rawInt 0, .none, .none] } }) :=
  .of_wp fun prog w A R s h => by
    obtain ⟨hp, g, d, tk, os⟩ := s; obtain ⟨hl, h⟩ := h
    have hsub := sub_enumerate
    have hL : Heap.IsTuple (Shared.heap ⟨hp, g, d, tk, os⟩) l items := ⟨_, hl, rfl, n, rfl⟩
    wp_walk using wpAny_loadPart' hl
    refine wpAny_stack_any fun st => wpAny_pure ?_
    split
    · rename_i c _ _ _ _ _
      cases (c == Value.type "enumerate")
      · wp_walk using wpAny_loadPart' hl, wpAny_pyIter_tuple hL
        exact ⟨_, rfl, h⟩
      · wp_walk using wpAny_loadPart' hl, wpAny_pyIter_tuple hL
        exact ⟨_, rfl, h⟩
    · wp_walk using wpAny_loadPart' hl, wpAny_pyIter_tuple hL
      exact ⟨_, rfl, h⟩
variable {prog : Program} {w : World} {A : Around} {E : Value → Shared → Prop} {s : Shared}
theorem callEnumT {l : Addr} {items : Array Value} {Q : Value → Shared → Prop} (hL : s.heap.IsTuple l items)
    (h : ∀ h', IsEnum h' (s.heap.objs.size + 1) s.heap.objs.size 0 .none → h'.IsTupleIter s.heap.objs.size l 0 → h'.objs.size = s.heap.objs.size + 2 →
      (∀ b o, s.heap.get? b = some o → h'.get? b = some o) → Q (.ref (s.heap.objs.size + 1)) { s with heap := h' }) :
    wpAny (model prog w) A (call (.type "enumerate") [.ref l]) Q E s := by
  obtain ⟨⟨c, dct, dt, sl⟩, hl, hc, n, hd⟩ := hL
  replace hc : c = .type "tuple" := hc
  replace hd : dt = .seq items n := hd
  subst hc hd
  refine callType_new F.called_enumerate (by decide) (F.typeCall_enumerate_1 _) (F.newCall_enumerate_1 _) (fun obj => F.args_object_init_2 obj _) F.entry_enumerate_new
    (enumNewT l items n dct sl) ⟨hl, ?_⟩
  have hz : (s.heap.push { cls := .type "tuple_iterator", data := .fields #[.ref l, .int 0 0] }).objs.size = s.heap.objs.size + 1 := Heap.size_push ..
  show _ ∧ _
  rw [hz]
  have he : IsEnum ((s.heap.push { cls := .type "tuple_iterator", data := .fields #[.ref l, .int 0 0] }).push
      { cls := .type "enumerate", data := .fields #[.none, .bool false, .ref s.heap.objs.size, rawInt 0, .none, .none] }) (s.heap.objs.size + 1) s.heap.objs.size 0 .none := by
    have := Heap.get?_push_size (s.heap.push { cls := .type "tuple_iterator", data := .fields #[.ref l, .int 0 0] })
      (o := { cls := .type "enumerate", data := .fields #[.none, .bool false, .ref s.heap.objs.size, rawInt 0, .none, .none] }) rfl
    rw [hz] at this; exact this
  refine ⟨⟨_, he, rfl⟩, h _ he ⟨_, Heap.get?_push_of_some _ (Heap.get?_push_size _ rfl), rfl, rfl⟩ (by rw [Heap.size_push, hz]) fun b o x => Heap.get?_push_of_some _ (Heap.get?_push_of_some _ x)⟩
end
/-- the tuple at a, its items in new pairs -/
def Iet (K : PySem.W.Frag) (a : Addr) : It :=
  ⟨fun i H => ∃ (xs : List V) (x : V), SqT K H a xs ∧ xs[i]? = some x, fun i H v H' => ∃ T x, v = .ref T ∧ H T = none ∧ H' = upd H T (.tup [.int (i : Nat), x]) ∧ ∀ xs, SqT K H a xs → xs[i]? = some x, fun i H => ∃ xs : List V, SqT K H a xs ∧ xs.length ≤ i⟩
theorem turnEnumT {P : Program} {w : World} {K : PySem.W.Frag} {elts : List Expr} {kk : Nat} {tpos : Pos} (a e it : Addr) :
    Turn P w K (.Tuple elts kk tpos) (Iet K a) [e, it] e (fun i h => (∃ old, IsEnum h e it ((i : Nat) : Int) old) ∧ h.IsTupleIter it a i ∧ e ≠ it) where
  mem := by simp
  obj := fun i h st b hb => by
    obtain ⟨⟨old, he⟩, ⟨o, ho, hc, hd⟩, _⟩ := st
    have e' : b = e ∨ b = it := by simpa using hb
    rcases e' with z | z
    · rw [z]; exact ⟨_, he, fun v q => nomatch q⟩
    · rw [z]; exact ⟨o, ho, fun v q => by rw [hd] at q; cases q⟩
  keep := fun i h h' st k => let ⟨⟨old, he⟩, hi, hne⟩ := st; ⟨⟨old, k e (by simp) _ he⟩, hi.at fun o q => k it (by simp) o q, hne⟩
  item := by
    intro X hP hw hK hc i pins s σ H E I hf st hg
    subst hP hw hK
    obtain ⟨⟨old, he⟩, hit, hne⟩ := st
    obtain ⟨xs, x, hq, hx⟩ := hg
    obtain ⟨its, rv, p, hz⟩ := I.tuple hq
    obtain ⟨u, hu, ru⟩ := rv.get hx
    have hel : e < s.heap.objs.size := Heap.lt_size he
    have hil : it < s.heap.objs.size := by obtain ⟨_, q, _⟩ := hit; exact Heap.lt_size q
    have hai : a ≠ it := by
      rintro rfl
      obtain ⟨o1, q1, c1, _⟩ := hit
      obtain ⟨o2, q2, c2, _⟩ := p
      rw [q1] at q2; cases q2
      rw [c1] at c2
      exact absurd (Value.type.inj c2) (by decide)
    have hae : e ∉ [it, a] := by
      intro hm
      have e' : e = it ∨ e = a := by simpa using hm
      rcases e' with z | rfl
      · exact hne z
      · obtain ⟨o2, q2, c2, _⟩ := p
        have he' : s.heap.get? e = _ := he
        rw [he'] at q2; cases q2
        exact absurd (Value.type.inj c2) (by decide)
    have hin : i < its.toArray.size := by
      have := (List.getElem?_eq_some_iff.mp hu).1
      simpa using this
    refine wpAny_pyNext_enum_itemD (Draws.tuple (prog := X.prog) (w := X.w) (A := X.A.in1) (by show X.A.handled = none; exact I.ok.hd hc) it a hai its.toArray) he ⟨hit, show s.heap.IsTuple a its.toArray from p⟩ hin hne hae fun u' h' tk hu' ho hst hT hsz hk => ?_
    have eu : u' = u := by
      have h1 : its.toArray[i]? = some u := by simpa using hu
      rw [h1] at hu'; exact (Option.some.inj hu').symm
    subst eu
    refine ⟨_, rfl, wpAny_letOwnedTupleGo_enum (s := { s with heap := h', toks := tk + 1 }) ho fun h'' he' sb => ?_⟩
    have hT2 : h''.get? s.heap.objs.size = some { cls := .type "tuple", data := .seq #[.int i tk, u'] } := (sb.2 _ (Nat.ne_of_gt hel)).trans hT
    have new : ObjOk X.prog X.w (upd H s.heap.objs.size (.tup [.int (i : Nat), x])) h'' s.heap.objs.size (.tup [.int (i : Nat), x]) :=
      ⟨by show 2 ≤ sizeLine; decide, [.int i tk, u'], .cons ⟨_, rfl⟩ (.cons ru .nil), ⟨_, hT2, rfl, _, rfl⟩⟩
    have I1 : Inv X pins σ (upd H s.heap.objs.size (.tup [.int (i : Nat), x])) { s with heap := h'', toks := tk + 1 } :=
      I.turnedNew (ch := [e, it]) (fun b ob hb q => (sb.2 b (fun z => hb (by simp [z]))).trans (hk b ob (fun z => hb (by simp [z])) (fun z => hb (by simp [z])) q)) hf (Nat.le_refl _) new
    refine ⟨.ref s.heap.objs.size, _, I1, rfl, ⟨_, x, rfl, I.hok.fresh (Nat.le_refl _), rfl, fun ys hy => by rw [I.tuple_inj hy hq]; exact hx⟩, ⟨⟨u', ?_⟩, hst.1.at fun o q => (sb.2 it (Ne.symm hne)).trans q, hne⟩, fun b hb => ?_⟩
    · have e1 : ((i + 1 : Nat) : Int) = (i : Int) + 1 := by omega
      rw [e1]; exact he'
    · have hb' : b < s.heap.objs.size := by
        have e' : b = e ∨ b = it := by simpa using hb
        rcases e' with z | z
        · rw [z]; exact hel
        · rw [z]; exact hil
      rw [upd_ne (Nat.ne_of_lt hb')]
      exact (hf b hb).1
  done := by
    intro X hP hw hK hc i pins s σ H E I hf st hg
    subst hP hw hK
    obtain ⟨⟨old, he⟩, hit, hne⟩ := st
    obtain ⟨xs, hq, hx⟩ := hg
    obtain ⟨its, rv, p, hz⟩ := I.tuple hq
    obtain ⟨f0, f1, f2, f3, f4, f5⟩ := hf it (by simp)
    have hl := rv.length
    have hai : a ≠ it := by
      rintro rfl
      obtain ⟨o1, q1, c1, _⟩ := hit
      obtain ⟨o2, q2, c2, _⟩ := p
      rw [q1] at q2; cases q2
      rw [c1] at c2
      exact absurd (Value.type.inj c2) (by decide)
    have D0 := Draws.tuple (prog := X.prog) (w := X.w) (A := X.A.in1) (by show X.A.handled = none; exact I.ok.hd hc) it a hai its.toArray
    have D1 : Draws X.prog X.w X.A.in1 it [it, a] i (fun _ _ => False) (fun j h => (j = i ∧ h.IsTupleIter it a i ∧ h.IsTuple a its.toArray)) := by
      refine ⟨fun j h st => ?_, fun j h h' st hk => ⟨st.1, st.2.1.at fun o e => hk it (by simp) o e, st.2.2.at fun o e => hk a (by simp) o e⟩, fun j s Q E hlt st _ => by have := st.1; omega, fun s Q E st hE => ?_⟩
      · obtain ⟨o, ho, _⟩ := st.2.1
        exact ⟨o, ho⟩
      · exact wpAny_nextOf_tuple_end (by show X.A.handled = none; exact I.ok.hd hc) st.2.1 st.2.2 (by simp; omega) hE
    exact wpAny_pyNext_enum_endD D1 he ⟨rfl, hit, p⟩ fun h' eb => ⟨rfl, I.turned (t' := s.toks) (fun b o hb q => eb b o hb q) f0 f1 f3 f4 f5⟩
  self := fun A i s Q E st h => let ⟨⟨_, he⟩, _⟩ := st; wpAny_pyIter_enum he h
def iEnumT (K : PySem.W.Frag) (ta : TA) : TI := fun σ H R => ta σ H fun vs H1 => ∃ a xs, vs = [.ref a] ∧ SqT K H1 a xs ∧ R (Iet K a) H1
theorem pi_enumT {X : Cx} {e : Expr} {ta : TA} {p pos tpos : Pos} {elts : List Expr} {kk : Nat} (hg : Gl X "enumerate") (hm : X.mg "enumerate" = none) (ha : PA X [e] ta) (hs : starEach [e] X.env = [(false, eval e X.env)] := by rfl) :
    PI X (.Tuple elts kk tpos) (.Call (.Name "enumerate" p) [e] [] pos) (iEnumT X.K ta) := by
  refine ⟨fun pins s σ H R I h => ?_⟩
  refine PyProof.Rows.Call_ (ld_blt I hg hm PyProof.Rows.boot_enumerate (PyProof.Rows.callWith_type1 (thn (ha.run pos pins s σ H _ I h) fun us s1 ⟨vs, H1, I1, r1, q1⟩ => ?_) hs rfl))
  obtain ⟨a, xs, ex, hq, q⟩ := q1
  subst ex
  cases r1 with
  | cons r rr =>
    cases rr
    cases r
    obtain ⟨its, rv, p', hz⟩ := I1.tuple hq
    refine callEnumT (show s1.heap.IsTuple a its.toArray from p') fun h' he hit hsz hk => wpAny_pyIter_enum he ?_
    have I2 : Inv X pins σ H1 { s1 with heap := h' } := I1.kept (t' := s1.toks) hk
    refine ⟨s1.heap.objs.size + 1, [s1.heap.objs.size + 1, s1.heap.objs.size], _, _, H1, rfl, I2, turnEnumT a (s1.heap.objs.size + 1) s1.heap.objs.size, ⟨⟨.none, he⟩, hit, Nat.succ_ne_self _⟩, fun b hb => ?_, q⟩
    have e' : b = s1.heap.objs.size + 1 ∨ b = s1.heap.objs.size := by simpa using hb
    have hle : s1.heap.objs.size ≤ b := by
      rcases e' with z | z
      · rw [z]; exact Nat.le_add_right _ _
      · rw [z]; exact Nat.le_refl _
    exact I1.fpOk hle (I1.hok.fresh hle)
/-- pairs of a place and an item -/
def enumD (ds : List D) : List D := (List.range ds.length).map fun i => .tuple [.int (i : Nat), ds.getD i .none]
theorem enumD_length (ds : List D) : (enumD ds).length = ds.length := by simp [enumD]
theorem enumD_get {ds : List D} {i : Nat} {d : D} (h : ds[i]? = some d) : (enumD ds)[i]? = some (.tuple [.int (i : Nat), d]) := by
  have hi := (List.getElem?_eq_some_iff.mp h).1
  unfold enumD
  rw [List.getElem?_map, List.getElem?_range hi]
  simp only [Option.map_some, List.getD, h, Option.getD_some]
theorem wk_enumL {K : PySem.W.Frag} {F : Hp} {a : Addr} {vs : List V} {ds : List D} (h : SqL K F a vs) (hd : DpAll K F vs ds) : Wk K F (Ite K a) (enumD ds) := by
  have hl := dps_len hd
  refine ⟨fun i H hi e => ⟨vs, vs[i]'(by rw [enumD_length] at hi; omega), sqlE e h, by rw [enumD_length] at hi; simp [hl, hi]⟩, fun H e => ⟨vs, sqlE e h, by rw [enumD_length]; omega⟩, fun i H x H' hi e y => ?_⟩
  obtain ⟨T, x, rfl, hT, rfl, hx⟩ := y
  obtain ⟨d, h1, h2⟩ := dps_getV hd (hx vs (sqlE e h))
  exact ⟨_, enumD_get h1, .inr ⟨T, _, [.int (i : Nat), d], rfl, hT, rfl, rfl, .cons (.int _) (.cons h2 .nil)⟩⟩
theorem wk_enumT {K : PySem.W.Frag} {F : Hp} {a : Addr} {vs : List V} {ds : List D} (h : SqT K F a vs) (hd : DpAll K F vs ds) : Wk K F (Iet K a) (enumD ds) := by
  have hl := dps_len hd
  refine ⟨fun i H hi e => ⟨vs, vs[i]'(by rw [enumD_length] at hi; omega), sqtE e h, by rw [enumD_length] at hi; simp [hl, hi]⟩, fun H e => ⟨vs, sqtE e h, by rw [enumD_length]; omega⟩, fun i H x H' hi e y => ?_⟩
  obtain ⟨T, x, rfl, hT, rfl, hx⟩ := y
  obtain ⟨d, h1, h2⟩ := dps_getV hd (hx vs (sqtE e h))
  exact ⟨_, enumD_get h1, .inr ⟨T, _, [.int (i : Nat), d], rfl, hT, rfl, rfl, .cons (.int _) (.cons h2 .nil)⟩⟩
section
variable {X : Cx} {EW : EWT} {pos : Pos}
def mEnumL (ma : M Vw) : M (List D) := mBind (mSeqL ma) fun ds => mRet (enumD ds)
def mEnumT (ma : M Vw) : M (List D) := mBind (mSeqT ma) fun ds => mRet (enumD ds)
theorem seqL_at {g : Gh} {F H : Hp} {σ : St} {ρ : List Sl} {x : V} {w : Vw} {α β : Type} {R : Hp → α → β → Prop} {t : Hp → (α → Hp → Prop) → Prop} {f : List D → M β} (ok : Ok g F H σ ρ) (hx : VwOk g σ F x w)
    (h : ∀ F' ρ' ds a vs, Ex F F' → Ok g F' H σ ρ' → x = .ref a → SqL g.K F' a vs → DpAll g.K F' vs ds → At EW g F' H σ R t (f ds ρ')) : At EW g F H σ R t (mBind (seqL w) f ρ) := by
  have e0 : mBind (seqL w) f = mBind (frc w) fun d => mBind (mLift (match d with | .list ds => some ds | _ => none)) f := by
    funext ρ
    unfold seqL mBind
    cases frc w ρ with
    | none => rfl
    | some p =>
      obtain ⟨r, ρ1⟩ := p
      cases r <;> rfl
  rw [e0]
  refine frc_at ok hx fun F2 ρ2 d e2 ok2 hd => At.lift fun ds hds => ?_
  cases d with
  | list ds' =>
    cases hds
    cases hd with
    | lst hs ha => exact h F2 ρ2 ds _ _ e2 ok2 rfl hs ha
  | none => cases hds
  | bool _ => cases hds
  | int _ => cases hds
  | str _ => cases hds
  | tuple _ => cases hds
  | dict _ => cases hds
theorem seqT_at {g : Gh} {F H : Hp} {σ : St} {ρ : List Sl} {x : V} {w : Vw} {α β : Type} {R : Hp → α → β → Prop} {t : Hp → (α → Hp → Prop) → Prop} {f : List D → M β} (ok : Ok g F H σ ρ) (hx : VwOk g σ F x w)
    (h : ∀ F' ρ' ds a vs, Ex F F' → Ok g F' H σ ρ' → x = .ref a → SqT g.K F' a vs → DpAll g.K F' vs ds → At EW g F' H σ R t (f ds ρ')) : At EW g F H σ R t (mBind (seqT w) f ρ) := by
  have e0 : mBind (seqT w) f = mBind (frc w) fun d => mBind (mLift (match d with | .tuple ds => some ds | _ => none)) f := by
    funext ρ
    unfold seqT mBind
    cases frc w ρ with
    | none => rfl
    | some p =>
      obtain ⟨r, ρ1⟩ := p
      cases r <;> rfl
  rw [e0]
  refine frc_at ok hx fun F2 ρ2 d e2 ok2 hd => At.lift fun ds hds => ?_
  cases d with
  | tuple ds' =>
    cases hds
    cases hd with
    | tup hs ha => exact h F2 ρ2 ds _ _ e2 ok2 rfl hs ha
  | none => cases hds
  | bool _ => cases hds
  | int _ => cases hds
  | str _ => cases hds
  | list _ => cases hds
  | dict _ => cases hds
theorem bind_assoc {α β γ : Type} (m : M α) (f : α → M β) (k : β → M γ) : mBind (mBind m f) k = mBind m fun a => mBind (f a) k := by
  funext ρ
  unfold mBind
  cases m ρ with
  | none => rfl
  | some p =>
    obtain ⟨r, ρ1⟩ := p
    cases r <;> rfl
theorem qi_enumL {es : List Expr} {k : Nat} {tp : Pos} {e : Expr} {te : TE} {ma : M Vw} {p : Pos} (hg : Gl X "enumerate") (hm : X.mg "enumerate" = none) (h : QE X EW e te ma) (hs : starEach [e] X.env = [(false, eval e X.env)] := by rfl) :
    QI X EW (.Tuple es k tp) (.Call (.Name "enumerate" p) [e] [] pos) (iEnum X.K (tCons te tNil)) (mEnumL ma) := by
  refine ⟨pi_enum hg hm (pa_cons h.pe pa_nil hs) hs, fun g F H σ ρ hK ok => ?_⟩
  unfold mEnumL mSeqL
  rw [bind_assoc]
  refine At.bind (k := fun x H1 R => ∃ a xs, [x] = [.ref a] ∧ SqL X.K H1 a xs ∧ R (Ite X.K a) H1) (h.sm g F H σ ρ hK ok) fun F1 H1 ρ1 x w e1 ok1 hx => ?_
  refine seqL_at ok1 hx fun F2 ρ2 ds a vs e2 ok2 ea hs ha => ?_
  subst ea
  rw [← hK]
  exact At.ret (a := Ite g.K a) ok2 (wk_enumL hs ha) fun Q q => ⟨a, vs, rfl, sqlE ok2.ff hs, q⟩
theorem qi_enumT {es : List Expr} {k : Nat} {tp : Pos} {e : Expr} {te : TE} {ma : M Vw} {p : Pos} (hg : Gl X "enumerate") (hm : X.mg "enumerate" = none) (h : QE X EW e te ma) (hs : starEach [e] X.env = [(false, eval e X.env)] := by rfl) :
    QI X EW (.Tuple es k tp) (.Call (.Name "enumerate" p) [e] [] pos) (iEnumT X.K (tCons te tNil)) (mEnumT ma) := by
  refine ⟨pi_enumT hg hm (pa_cons h.pe pa_nil hs) hs, fun g F H σ ρ hK ok => ?_⟩
  unfold mEnumT mSeqT
  rw [bind_assoc]
  refine At.bind (k := fun x H1 R => ∃ a xs, [x] = [.ref a] ∧ SqT X.K H1 a xs ∧ R (Iet X.K a) H1) (h.sm g F H σ ρ hK ok) fun F1 H1 ρ1 x w e1 ok1 hx => ?_
  refine seqT_at ok1 hx fun F2 ρ2 ds a vs e2 ok2 ea hs ha => ?_
  subst ea
  rw [← hK]
  exact At.ret (a := Iet g.K a) ok2 (wk_enumT hs ha) fun Q q => ⟨a, vs, rfl, sqtE ok2.ff hs, q⟩
end
end Dat
namespace Dat
open PySem L2 PyProof.Rows
/-! ### defs on data -/
structure Grow (F H F' H' : Hp) : Prop where
  ff : Ex F F'
  fh : Ex F' H'
  hh : Ex H H'
  nw : ∀ a o, F' a = some o → F a = none → H a = none
def spP (K : PySem.W.Frag) (f : List D → Option D) : Sp := fun vs H Q _ => ∃ F ds d, Ex F H ∧ DpAll K F vs ds ∧ f ds = some d ∧ ∀ v F' H', Grow F H F' H' → Dp K F' v d → Q v H'
/-- the first argument is the caller's own object: it may change -/
structure GrowB (l : Addr) (F H F' H' : Hp) : Prop where
  ff : Ex F F'
  fh : Ex F' H'
  hh : ∀ a o, a ≠ l → H a = some o → H' a = some o
  fl : F' l = none
  nw : ∀ a o, F' a = some o → F a = none → H a = none
def spB (K : PySem.W.Frag) (f : O → List D → Option (D × O)) : Sp := fun vs H Q _ => ∃ F l us o ds d o', vs = .ref l :: us ∧ Ex F H ∧ F l = none ∧ OOk K F H l o ∧ DpAll K F us ds ∧ f o ds = some (d, o') ∧ ∀ v F' H', GrowB l F H F' H' → OOk K F' H' l o' → Dp K F' v d → Q v H'
def runP (n N : Nat) (ms : MS) (ds : List D) : Option D := if ds.length = n then (match ms (ds.map Sl.dat ++ List.replicate (N - n) .un) with
  | some (.rt d, _) => some d
  | some (.nx, _) => some .none
  | _ => none) else none
def runB (n N : Nat) (ms : MS) (o : O) (ds : List D) : Option (D × O) := if ds.length + 1 = n then (match ms (.par o :: ds.map Sl.dat ++ List.replicate (N - n) .un) with
  | some (.rt d, .par o' :: _) => some (d, o')
  | some (.nx, .par o' :: _) => some (.none, o')
  | _ => none) else none
theorem start_get {N : List Str} {vs : List V} {i : Nat} {ov : Option V} (h : (L2.start N vs)[i]? = some ov) : (∃ v, vs[i]? = some v ∧ ov = some v) ∨ (vs.length ≤ i ∧ ov = none) := by
  unfold L2.start at h
  rw [List.getElem?_append] at h
  split at h
  · rw [List.getElem?_map] at h
    cases q : vs[i]? with
    | none => rw [q] at h; cases h
    | some v => rw [q] at h; exact .inl ⟨v, rfl, (Option.some.inj h).symm⟩
  · rename_i hi
    rw [List.length_map] at hi
    have := List.mem_of_getElem? h
    exact .inr ⟨by omega, List.eq_of_mem_replicate this⟩
theorem datun_get {ds : List D} {n : Nat} {i : Nat} {s : Sl} (h : (ds.map Sl.dat ++ List.replicate n Sl.un)[i]? = some s) : (∃ d, ds[i]? = some d ∧ s = .dat d) ∨ (ds.length ≤ i ∧ s = .un) := by
  rw [List.getElem?_append] at h
  split at h
  · rw [List.getElem?_map] at h
    cases q : ds[i]? with
    | none => rw [q] at h; cases h
    | some v => rw [q] at h; exact .inl ⟨v, rfl, (Option.some.inj h).symm⟩
  · rename_i hi
    rw [List.length_map] at hi
    have := List.mem_of_getElem? h
    exact .inr ⟨by omega, List.eq_of_mem_replicate this⟩
section
variable {P : Program} {w : World} {K : PySem.W.Frag} {mg : Str → Option Value} {base : Heap}
theorem start_ok {F H : Hp} {N : List Str} {vs : List V} {ds : List D} {n : Nat} (e : Ex F H) (h : DpAll K F vs ds) (hn : ds.length = n) (hN : n ≤ N.length) :
    Ok ⟨K, F, H, fun _ => none, fun _ _ z => nomatch z⟩ F H (L2.start N vs) (ds.map Sl.dat ++ List.replicate (N.length - n) .un) where
  ff := e
  gf := Ex.refl F
  gh := fun _ _ _ q => q
  nw := fun a o q r => by
    have r : F a = none := r
    rw [r] at q; cases q
  th := fun a o q => ⟨o, q⟩
  len := by
    have hl := dps_len h
    unfold L2.start
    simp [hl, hn]
  sl := fun i s ov q r => by
    rcases datun_get q with ⟨d, h1, rfl⟩ | ⟨_, rfl⟩
    · obtain ⟨v, h2, h3⟩ := dps_get h h1
      rcases start_get r with ⟨v', h4, rfl⟩ | ⟨h4, _⟩
      · rw [h2] at h4; cases h4
        exact ⟨v, rfl, h3⟩
      · have := (List.getElem?_eq_some_iff.mp h2).1
        omega
    · trivial
  dis := fun i j s t l q r hs _ _ _ => by
    rcases datun_get q with ⟨d, h1, rfl⟩ | ⟨_, rfl⟩ <;> cases hs
/-- THE RULE for a def on data -/
theorem fnP {x qual : Str} {st : Stmt} {f : Addr} {fd : FuncData} {N ps : List Str} {k : Nat} {ms : MS} (F : Fun K x qual st f fd) (S : FnScope N ps (defScope st)) (hN : ps.length ≤ N.length)
    (hbody : ∀ (cdv : Value) (A : Around) (outer : List Env) (s : Shared) (H : Hp) (E : XK), Room k (A.deeper (envOfC qual (defScope st) s.heap.objs.size f cdv)) →
      ∃ t, QSs (cxOf CX0 P w K mg base N qual (defScope st) f cdv A outer s H E).nox EW0 (defBody st) t ms) : FnOk P w K mg base CX0 (k + 1) f fd ps (spP K (runP ps.length N.length ms)) := by
  refine F.ok S (fun vs H Q E h => ?_) (fun cdv A outer s H vs Q E hr h => ?_)
  · obtain ⟨F0, ds, d, _, h2, h3, _⟩ := h
    unfold runP at h3
    split at h3
    · rename_i hl
      rw [dps_len h2, hl]
    · cases h3
  · obtain ⟨F0, ds, d, e0, h2, h3, q⟩ := h
    unfold runP at h3
    split at h3
    · rename_i hl
      obtain ⟨t, hq⟩ := hbody cdv A outer s H E hr
      refine ⟨t, hq.ps, ?_⟩
      have ok := start_ok (N := N) e0 h2 hl hN
      cases hm : ms (ds.map Sl.dat ++ List.replicate (N.length - ps.length) .un) with
      | none => rw [hm] at h3; cases h3
      | some p =>
        obtain ⟨r, ρ'⟩ := p
        rw [hm] at h3
        refine hq.sm _ F0 H _ _ rfl ok r ρ' hm _ fun F' H' σ' e1 ok1 => ?_
        have gr : Grow F0 H F' H' := ⟨e1, ok1.ff, fun a o z => ok1.gh a o (fun _ z => nomatch z) z, ok1.nw⟩
        cases r with
        | nx => cases h3; exact q .non F' H' gr .non
        | rt d' => cases h3; exact fun v hv => q v F' H' gr hv
        | bk => cases h3
        | ct => cases h3
        | er c => cases h3
    · cases h3
theorem start_okB {F H : Hp} {N : List Str} {vs : List V} {ds : List D} {n : Nat} {l : Addr} {o : O} (e : Ex F H) (hl : F l = none) (ho : OOk K F H l o) (h : DpAll K F vs ds) (hn : ds.length + 1 = n) (hN : n ≤ N.length) :
    Ok ⟨K, F, H, fun i => if i = 0 then some l else none, fun i a z => by
      by_cases hi : i = 0
      · subst hi; cases z; exact oo_some ho
      · rw [if_neg hi] at z; cases z⟩ F H (L2.start N (.ref l :: vs)) (.par o :: ds.map Sl.dat ++ List.replicate (N.length - n) .un) where
  ff := e
  gf := Ex.refl F
  gh := fun _ _ _ q => q
  nw := fun a o q r => by
    have r : F a = none := r
    rw [r] at q; cases q
  th := fun a o q => ⟨o, q⟩
  len := by
    have hl := dps_len h
    unfold L2.start
    simp [hl]
    omega
  sl := fun i s ov q r => by
    cases i with
    | zero =>
      have e1 : Sl.par o = s := by simpa using q
      subst e1
      have e2 : some (V.ref l) = ov := by simpa [L2.start] using r
      subst e2
      exact ⟨l, rfl, hl, ho, rfl, oo_some ho⟩
    | succ j =>
      have q' : (ds.map Sl.dat ++ List.replicate (N.length - n) Sl.un)[j]? = some s := by simpa using q
      have r' := start_get r
      rcases datun_get q' with ⟨d, h1, rfl⟩ | ⟨_, rfl⟩
      · obtain ⟨v, h2, h3⟩ := dps_get h h1
        rcases r' with ⟨v', h4, rfl⟩ | ⟨h4, _⟩
        · have h4 : vs[j]? = some v' := by simpa using h4
          rw [h2] at h4; cases h4
          exact ⟨v, rfl, h3⟩
        · have := (List.getElem?_eq_some_iff.mp h2).1
          simp at h4
          omega
      · trivial
  dis := fun i j s t l q r hs ht _ _ => by
    cases i with
    | zero =>
      cases j with
      | zero => rfl
      | succ j =>
        have r' : (ds.map Sl.dat ++ List.replicate (N.length - n) Sl.un)[j]? = some t := by simpa using r
        rcases datun_get r' with ⟨d, h1, rfl⟩ | ⟨_, rfl⟩ <;> cases ht
    | succ i =>
      have q' : (ds.map Sl.dat ++ List.replicate (N.length - n) Sl.un)[i]? = some s := by simpa using q
      rcases datun_get q' with ⟨d, h1, rfl⟩ | ⟨_, rfl⟩ <;> cases hs
/-- .. whose first parameter is an object that it may change -/
theorem fnB {x qual : Str} {st : Stmt} {f : Addr} {fd : FuncData} {N ps : List Str} {k : Nat} {ms : MS} (F : Fun K x qual st f fd) (S : FnScope N ps (defScope st)) (hN : ps.length ≤ N.length)
    (hbody : ∀ (cdv : Value) (A : Around) (outer : List Env) (s : Shared) (H : Hp) (E : XK), Room k (A.deeper (envOfC qual (defScope st) s.heap.objs.size f cdv)) →
      ∃ t, QSs (cxOf CX0 P w K mg base N qual (defScope st) f cdv A outer s H E).nox EW0 (defBody st) t ms) : FnOk P w K mg base CX0 (k + 1) f fd ps (spB K (runB ps.length N.length ms)) := by
  refine F.ok S (fun vs H Q E h => ?_) (fun cdv A outer s H vs Q E hr h => ?_)
  · obtain ⟨F0, l, us, o, ds, d, o', rfl, _, _, _, h2, h3, _⟩ := h
    unfold runB at h3
    split at h3
    · rename_i hl
      rw [List.length_cons, dps_len h2, hl]
    · cases h3
  · obtain ⟨F0, l, us, o, ds, d, o', rfl, e0, hl0, ho, h2, h3, q⟩ := h
    unfold runB at h3
    split at h3
    · rename_i hl
      obtain ⟨t, hq⟩ := hbody cdv A outer s H E hr
      refine ⟨t, hq.ps, ?_⟩
      have ok := start_okB (N := N) e0 hl0 ho h2 hl hN
      cases hm : ms (.par o :: ds.map Sl.dat ++ List.replicate (N.length - ps.length) .un) with
      | none => rw [hm] at h3; cases h3
      | some p =>
        obtain ⟨r, ρ'⟩ := p
        rw [hm] at h3
        refine hq.sm _ F0 H _ _ rfl ok r ρ' hm _ fun F' H' σ' e1 ok1 => ?_
        have key : ∀ o2 ρ2, ρ' = .par o2 :: ρ2 → GrowB l F0 H F' H' ∧ OOk K F' H' l o2 := fun o2 ρ2 e => by
          subst e
          obtain ⟨ov, _, l', _, f1, f2, f3, _⟩ := ok1.at (i := 0) rfl
          cases f3
          refine ⟨⟨e1, ok1.ff, fun a o hne z => ok1.gh a o (fun i z => ?_) z, f1, ok1.nw⟩, f2⟩
          have z : (if i = 0 then some l else none) = some a := z
          by_cases hi : i = 0
          · rw [if_pos hi] at z; cases z; exact hne rfl
          · rw [if_neg hi] at z; cases z
        cases r with
        | nx =>
          cases ρ' with
          | nil => cases h3
          | cons s ρ2 =>
            cases s with
            | par o2 =>
              cases h3
              obtain ⟨k1, k2⟩ := key _ _ rfl
              exact q .non F' H' k1 k2 .non
            | un => cases h3
            | dat _ => cases h3
            | own _ => cases h3
        | rt d' =>
          cases ρ' with
          | nil => cases h3
          | cons s ρ2 =>
            cases s with
            | par o2 =>
              cases h3
              obtain ⟨k1, k2⟩ := key _ _ rfl
              exact fun v hv => q v F' H' k1 k2 hv
            | un => cases h3
            | dat _ => cases h3
            | own _ => cases h3
        | bk => cases h3
        | ct => cases h3
        | er c => cases h3
    · cases h3
end
/-- behind a call that grows both heaps -/
theorem Ok.call {g : Gh} {F F' H H' : Hp} {σ : L2.St} {ρ : List Sl} (k : Ok g F H σ ρ) (q : Grow F H F' H') : Ok g F' H' σ ρ := k.grow q.ff q.fh q.hh q.nw
/-- .. and changes a slot's own object -/
theorem Ok.callB {g : Gh} {F F' H H' : Hp} {σ : L2.St} {ρ : List Sl} {i : Nat} {l : Addr} {s s' : Sl} {o' : O} (k : Ok g F H σ ρ) (hs : ρ[i]? = some s) (hv : σ[i]? = some (some (.ref l)))
    (he : (∃ o, s = .own o ∧ s' = .own o') ∨ (∃ o, s = .par o ∧ s' = .par o')) (q : GrowB l F H F' H') (ho : OOk g.K F' H' l o') : Ok g F' H' σ (ρ.set i s') := by
  have own : isOwn s = true := by rcases he with ⟨o, rfl, _⟩ | ⟨o, rfl, _⟩ <;> rfl
  have own' : isOwn s' = true := by rcases he with ⟨o, _, rfl⟩ | ⟨o, _, rfl⟩ <;> rfl
  have hsl := k.sl i s _ hs hv
  have h0 : (g.H0 l = none) ∨ g.at_ i = some l := by
    rcases he with ⟨o, rfl, _⟩ | ⟨o, rfl, _⟩
    · obtain ⟨l', h1, _, _, h4⟩ := hsl; cases h1; exact .inl h4
    · obtain ⟨l', h1, _, _, h4, _⟩ := hsl; cases h1; exact .inr h4
  refine ⟨q.fh, k.gf.trans q.ff, fun a o n r => q.hh a o ?_ (k.gh a o n r), fun a o r n => ?_, fun a o r => ?_, by simp [k.len], fun j t ov w r => ?_, fun a b t v m w r ht hw y z => ?_⟩
  · rintro rfl
    rcases h0 with h0 | h0
    · rw [r] at h0; cases h0
    · exact n i h0
  · cases w : F a with
    | some u => exact k.nw a u w n
    | none => exact k.fresh (q.nw a o r w)
  · by_cases ha : a = l
    · subst ha
      obtain ⟨u, hu⟩ := oo_some ho
      exact ⟨u, hu⟩
    · obtain ⟨o', e⟩ := k.th a o r
      exact ⟨o', q.hh a o' ha e⟩
  · rcases get_set w with ⟨rfl, rfl, _⟩ | ⟨h1, h2⟩
    · rw [hv] at r; cases r
      rcases he with ⟨o, rfl, rfl⟩ | ⟨o, rfl, rfl⟩
      · obtain ⟨l', h1, _, _, h4⟩ := hsl; cases h1; exact ⟨l, rfl, q.fl, ho, h4⟩
      · obtain ⟨l', h1, _, _, h4⟩ := hsl; cases h1; exact ⟨l, rfl, q.fl, ho, h4⟩
    · have old := k.sl j t ov h2 r
      have ff : ∀ m u, F m = none → H m = some u → F' m = none := fun m u f1 f2 => by
        cases z : F' m with
        | none => rfl
        | some o => rw [q.nw m o z f1] at f2; cases f2
      cases t with
      | un => trivial
      | dat d => obtain ⟨v, e1, e2⟩ := old; exact ⟨v, e1, dpE q.ff _ _ e2⟩
      | own o =>
        obtain ⟨m, e1, e2, e3, e4⟩ := old
        obtain ⟨u, hu⟩ := oo_some e3
        have ne : m ≠ l := by
          rintro rfl
          subst e1
          exact h1 (k.dis j i _ s m h2 hs rfl own r hv)
        exact ⟨m, e1, ff m u e2 hu, ooE q.ff e3 fun w hw => q.hh m w ne hw, e4⟩
      | par o =>
        obtain ⟨m, e1, e2, e3, e4⟩ := old
        obtain ⟨u, hu⟩ := oo_some e3
        have ne : m ≠ l := by
          rintro rfl
          subst e1
          exact h1 (k.dis j i _ s m h2 hs rfl own r hv)
        exact ⟨m, e1, ff m u e2 hu, ooE q.ff e3 fun w hw => q.hh m w ne hw, e4⟩
  · have t1 : ∃ t', ρ[a]? = some t' ∧ isOwn t' = true := by
      rcases get_set w with ⟨rfl, rfl, _⟩ | ⟨_, h2⟩
      · exact ⟨s, hs, own⟩
      · exact ⟨t, h2, ht⟩
    have t2 : ∃ t', ρ[b]? = some t' ∧ isOwn t' = true := by
      rcases get_set r with ⟨rfl, rfl, _⟩ | ⟨_, h2⟩
      · exact ⟨s, hs, own⟩
      · exact ⟨v, h2, hw⟩
    obtain ⟨t', e1, e2⟩ := t1
    obtain ⟨w', e3, e4⟩ := t2
    exact k.dis a b t' w' m e1 e3 e2 e4 y z
section
variable {X : Cx} {EW : EWT} {pos : Pos}
def appF (f : List D → Option D) (ws : List Vw) : M Vw := mBind (frcs ws) fun ds => mLift ((f ds).map Vw.dat)
def mCall (f : List D → Option D) (ma : M (List Vw)) : M Vw := mBind ma (appF f)
theorem qe_call {k : Nat} {f : Addr} {fd : FuncData} {ps : List Str} {fm : List D → Option D} {x : Str} {p : Pos} {e : Expr} {es : List Expr} {ta : TA} {ma : M (List Vw)} (F : FnOk X.prog X.w X.K X.mg X.base CX0 k f fd ps (spP X.K fm)) (hr : Room k X.A) (hm : X.mg x = some (.ref f)) (hk : PySem.W.keepIn X.K (.ref f) = true) (hb : Binds X.K fd ps [])
    (ha : QA X EW (e :: es) ta ma) (hg : Gl X x := by rfl) (hdb : (x == ("__debug__" : Str)) = false := by decide) (he : starEach (e :: es) X.env = (false, eval e X.env) :: starEach es X.env := by rfl) (hpl : (backTo pos (starEach es X.env)).any (·.1) = false := by rfl) :
    QE X EW (.Call (.Name x p) (e :: es) [] pos) (tCall (spP X.K fm) [] E0 ta) (mCall fm ma) := by
  refine ⟨pe_call F hr hg hm hk hb .nil pass0 ha.pa hdb he hpl, fun g F H σ ρ hK ok => ?_⟩
  refine At.bind (k := fun vs H1 (Q : VK) => spP X.K fm (vs ++ []) H1 Q E0) (ha.sm g F H σ ρ hK ok) fun F1 H1 ρ1 vs ws e1 ok1 hx => ?_
  refine frcs_at ok1 hx fun F2 ρ2 ds e2 ok2 hds => ?_
  intro r ρ' e Q q
  unfold mLift at e
  cases h1 : fm ds with
  | none => rw [h1] at e; cases e
  | some d =>
    rw [h1] at e
    cases e
    rw [List.append_nil]
    rw [← hK]
    exact ⟨F2, ds, d, ok2.ff, hds, h1, fun v F' H' gr hv => q F' H' gr.ff (ok2.call gr) v hv⟩
def appB (f : O → List D → Option (D × O)) (ws : List Vw) : M Vw := match ws with
  | .loc i :: ws => mBind (frcs ws) fun ds ρ => match ρ[i]? with
    | some (.own o) => (match f o ds with
      | some (d, o') => some (.ok (.dat d), ρ.set i (.own o'))
      | none => none)
    | some (.par o) => (match f o ds with
      | some (d, o') => some (.ok (.dat d), ρ.set i (.par o'))
      | none => none)
    | _ => none
  | _ => fun _ => none
def mCallB (f : O → List D → Option (D × O)) (ma : M (List Vw)) : M Vw := mBind ma (appB f)
theorem qe_callB {k : Nat} {f : Addr} {fd : FuncData} {ps : List Str} {fm : O → List D → Option (D × O)} {x : Str} {p : Pos} {e : Expr} {es : List Expr} {ta : TA} {ma : M (List Vw)} (F : FnOk X.prog X.w X.K X.mg X.base CX0 k f fd ps (spB X.K fm)) (hr : Room k X.A) (hm : X.mg x = some (.ref f)) (hk : PySem.W.keepIn X.K (.ref f) = true) (hb : Binds X.K fd ps [])
    (ha : QA X EW (e :: es) ta ma) (hg : Gl X x := by rfl) (hdb : (x == ("__debug__" : Str)) = false := by decide) (he : starEach (e :: es) X.env = (false, eval e X.env) :: starEach es X.env := by rfl) (hpl : (backTo pos (starEach es X.env)).any (·.1) = false := by rfl) :
    QE X EW (.Call (.Name x p) (e :: es) [] pos) (tCall (spB X.K fm) [] E0 ta) (mCallB fm ma) := by
  refine ⟨pe_call F hr hg hm hk hb .nil pass0 ha.pa hdb he hpl, fun g F H σ ρ hK ok => ?_⟩
  refine At.bind (k := fun vs H1 (Q : VK) => spB X.K fm (vs ++ []) H1 Q E0) (ha.sm g F H σ ρ hK ok) fun F1 H1 ρ1 vs ws e1 ok1 hx => ?_
  cases ws with
  | nil => exact fun r ρ' e Q q => nomatch e
  | cons w0 ws =>
    cases w0 with
    | dat d => exact fun r ρ' e Q q => nomatch e
    | loc i =>
      cases vs with
      | nil => exact hx.elim
      | cons v0 vs =>
        obtain ⟨hv0, hvs⟩ := hx
        refine frcs_at ok1 hvs fun F2 ρ2 ds e2 ok2 hds => ?_
        intro r ρ' e Q q
        rw [List.append_nil]
        rw [← hK]
        have hv0 : σ[i]? = some (some v0) := hv0
        cases hs : ρ2[i]? with
        | none => simp only [hs] at e; cases e
        | some s =>
          simp only [hs] at e
          have hsl := ok2.sl i s _ hs hv0
          cases s with
          | un => cases e
          | dat d => cases e
          | own o =>
            obtain ⟨l, z1, z2, z3, z4⟩ := hsl
            cases z1
            simp only at e
            cases h1 : fm o ds with
            | none => simp only [h1] at e; cases e
            | some p =>
              obtain ⟨d, o'⟩ := p
              simp only [h1] at e
              cases e
              exact ⟨F2, l, vs, o, ds, d, o', rfl, ok2.ff, z2, z3, hds, h1, fun v F' H' gr ho hv => q F' H' gr.ff (ok2.callB hs hv0 (.inl ⟨o, rfl, rfl⟩) gr ho) v hv⟩
          | par o =>
            obtain ⟨l, z1, z2, z3, z4⟩ := hsl
            cases z1
            simp only at e
            cases h1 : fm o ds with
            | none => simp only [h1] at e; cases e
            | some p =>
              obtain ⟨d, o'⟩ := p
              simp only [h1] at e
              cases e
              exact ⟨F2, l, vs, o, ds, d, o', rfl, ok2.ff, z2, z3, hds, h1, fun v F' H' gr ho hv => q F' H' gr.ff (ok2.callB hs hv0 (.inr ⟨o, rfl, rfl⟩) gr ho) v hv⟩
end
end Dat
namespace Dat
open PySem L2
/-! ### operators on data -/
def fInt2 (g : Int → Int → Option D) : D → D → Option D := fun d e => match d, e with
  | .int i, .int j => g i j
  | _, _ => none
theorem int2_some {g : Int → Int → Option D} {d e z : D} (h : fInt2 g d e = some z) : ∃ i j, d = .int i ∧ e = .int j ∧ g i j = some z := by
  cases d with
  | int i =>
    cases e with
    | int j => exact ⟨i, j, rfl, rfl, h⟩
    | none => cases h
    | bool _ => cases h
    | str _ => cases h
    | list _ => cases h
    | tuple _ => cases h
    | dict _ => cases h
  | none => cases h
  | bool _ => cases h
  | str _ => cases h
  | list _ => cases h
  | tuple _ => cases h
  | dict _ => cases h
theorem op2_int {K : PySem.W.Frag} {C : Int → Int → Prop} {gv : Int → Int → V} {g : Int → Int → Option D} {r : R2} (hr : ∀ i j H (Q : VK), C i j → Q (gv i j) H → r (.int i) (.int j) H Q) (h : ∀ i j z, g i j = some z → C i j ∧ ∀ F, Dp K F (gv i j) z) : Op2S K r (fInt2 g) := by
  refine Op2S.flat fun H x y d e z hx hy hz => ?_
  obtain ⟨i, j, rfl, rfl, hg⟩ := int2_some hz
  cases hx
  cases hy
  obtain ⟨h1, h2⟩ := h i j z hg
  exact ⟨gv i j, h2, fun Q q => hr i j H Q h1 q⟩
def fAdd : D → D → Option D := fInt2 fun i j => some (.int (i + j))
def fSub : D → D → Option D := fInt2 fun i j => some (.int (i - j))
def mulOk (i j : Int) : Bool := (decide (-18446744073709551616 < i) && decide (i < 18446744073709551616)) || (decide (-18446744073709551616 < j) && decide (j < 18446744073709551616))
def fMul : D → D → Option D := fInt2 fun i j => if mulOk i j = true then some (.int (i * j)) else none
def fDiv : D → D → Option D := fInt2 fun i j => if 0 < j ∧ j < 1073741824 then some (.int (i / j)) else none
def fMod : D → D → Option D := fInt2 fun i j => if 0 < j then some (.int (i % j)) else none
def fPow : D → D → Option D := fInt2 fun i j => if 0 ≤ j ∧ j ≤ 1000000 ∧ i.natAbs < 18446744073709551616 then some (.int (i ^ j.toNat)) else none
def fLt : D → D → Option D := fInt2 fun i j => some (.bool (decide (i < j)))
def fLe : D → D → Option D := fInt2 fun i j => some (.bool (decide (i ≤ j)))
def fGt : D → D → Option D := fInt2 fun i j => some (.bool (decide (j < i)))
def fGe : D → D → Option D := fInt2 fun i j => some (.bool (decide (j ≤ i)))
section
variable {X : Cx} {K : PySem.W.Frag}
theorem os_add : Op2S K (rI0 fun i j => .int (i + j)) fAdd := op2_int (C := fun _ _ => True) (fun i j H Q _ q => ⟨i, j, rfl, rfl, q⟩) fun i j z h => by cases h; exact ⟨trivial, fun _ => .int _⟩
theorem os_sub : Op2S K (rI0 fun i j => .int (i - j)) fSub := op2_int (C := fun _ _ => True) (fun i j H Q _ q => ⟨i, j, rfl, rfl, q⟩) fun i j z h => by cases h; exact ⟨trivial, fun _ => .int _⟩
theorem os_mul : Op2S K (rI CMul fun i j => .int (i * j)) fMul := op2_int (C := CMul) (fun i j H Q c q => ⟨i, j, rfl, rfl, c, q⟩) fun i j z h => by
  by_cases c : mulOk i j = true
  · rw [if_pos c] at h
    cases h
    refine ⟨?_, fun _ => .int _⟩
    unfold mulOk at c
    rw [Bool.or_eq_true, Bool.and_eq_true, Bool.and_eq_true, decide_eq_true_eq, decide_eq_true_eq, decide_eq_true_eq, decide_eq_true_eq] at c
    unfold CMul
    rcases c with c | c
    · exact .inl (by omega)
    · exact .inr (by omega)
  · rw [if_neg c] at h; cases h
theorem os_div : Op2S K (rI CDiv fun i j => .int (i / j)) fDiv := op2_int (C := CDiv) (fun i j H Q c q => ⟨i, j, rfl, rfl, c, q⟩) fun i j z h => by
  split at h
  · rename_i c; cases h; exact ⟨c, fun _ => .int _⟩
  · cases h
theorem os_mod : Op2S K (rI (fun _ j => 0 < j) fun i j => .int (i % j)) fMod := op2_int (C := fun _ j => 0 < j) (fun i j H Q c q => ⟨i, j, rfl, rfl, c, q⟩) fun i j z h => by
  split at h
  · rename_i c; cases h; exact ⟨c, fun _ => .int _⟩
  · cases h
theorem os_pow : Op2S K (rI CPow fun i j => .int (i ^ j.toNat)) fPow := op2_int (C := CPow) (fun i j H Q c q => ⟨i, j, rfl, rfl, c, q⟩) fun i j z h => by
  split at h
  · rename_i c; cases h; exact ⟨⟨c.1, c.2.1, by omega⟩, fun _ => .int _⟩
  · cases h
theorem os_lt : Op2S K (rI0 fun i j => .bl (decide (i < j))) fLt := op2_int (C := fun _ _ => True) (fun i j H Q _ q => ⟨i, j, rfl, rfl, q⟩) fun i j z h => by cases h; exact ⟨trivial, fun _ => .bl _⟩
theorem os_le : Op2S K (rI0 fun i j => .bl (decide (i ≤ j))) fLe := op2_int (C := fun _ _ => True) (fun i j H Q _ q => ⟨i, j, rfl, rfl, q⟩) fun i j z h => by cases h; exact ⟨trivial, fun _ => .bl _⟩
theorem os_gt : Op2S K (rI0 fun i j => .bl (decide (j < i))) fGt := op2_int (C := fun _ _ => True) (fun i j H Q _ q => ⟨i, j, rfl, rfl, q⟩) fun i j z h => by cases h; exact ⟨trivial, fun _ => .bl _⟩
theorem os_ge : Op2S K (rI0 fun i j => .bl (decide (j ≤ i))) fGe := op2_int (C := fun _ _ => True) (fun i j H Q _ q => ⟨i, j, rfl, rfl, q⟩) fun i j z h => by cases h; exact ⟨trivial, fun _ => .bl _⟩
/-- == of any data -/
def fEq : D → D → Option D := fun d e => if SeqAt.shaped d = true ∧ SeqAt.shaped e = true then some (.bool (PyData.eqv d e)) else none
def fNe : D → D → Option D := fun d e => if SeqAt.shaped d = true ∧ SeqAt.shaped e = true then some (.bool (!PyData.eqv d e)) else none
theorem os_eq : Op2S K (rEqD K) fEq := Op2S.flat fun H x y d e z hx hy hz => by
  unfold fEq at hz
  split at hz
  · rename_i c; cases hz; exact ⟨_, fun _ => .bl _, fun Q q => ⟨d, e, dpK d _ (SeqAt.canLay_of_shaped c.1) hx, dpK e _ (SeqAt.canLay_of_shaped c.2) hy, c.1, c.2, q⟩⟩
  · cases hz
theorem os_ne : Op2S K (rNeD K) fNe := Op2S.flat fun H x y d e z hx hy hz => by
  unfold fNe at hz
  split at hz
  · rename_i c; cases hz; exact ⟨_, fun _ => .bl _, fun Q q => ⟨d, e, dpK d _ (SeqAt.canLay_of_shaped c.1) hx, dpK e _ (SeqAt.canLay_of_shaped c.2) hy, c.1, c.2, q⟩⟩
  · cases hz
/-- in, not in a list -/
def fIn : D → D → Option D := fun d e => match e with
  | .list ds => if SeqAt.shaped d = true ∧ SeqAt.shaped (.list ds) = true then some (.bool (ds.any fun z => PyData.eqv z d)) else none
  | _ => none
def fNotIn : D → D → Option D := fun d e => match e with
  | .list ds => if SeqAt.shaped d = true ∧ SeqAt.shaped (.list ds) = true then some (.bool (!ds.any fun z => PyData.eqv z d)) else none
  | _ => none
theorem os_in : Op2S K (rInD K) fIn := Op2S.flat fun H x y d e z hx hy hz => by
  cases e with
  | list ds =>
    have hz : (if SeqAt.shaped d = true ∧ SeqAt.shaped (.list ds) = true then some (PyData.bool (ds.any fun z => PyData.eqv z d)) else none) = some z := hz
    split at hz
    · rename_i c; cases hz; exact ⟨_, fun _ => .bl _, fun Q q => ⟨d, ds, dpK d _ (SeqAt.canLay_of_shaped c.1) hx, dpK (.list ds) _ (SeqAt.canLay_of_shaped c.2) hy, c.1, c.2, q⟩⟩
    · cases hz
  | none => cases hz
  | bool _ => cases hz
  | int _ => cases hz
  | str _ => cases hz
  | tuple _ => cases hz
  | dict _ => cases hz
theorem os_notIn : Op2S K (rNotInD K) fNotIn := Op2S.flat fun H x y d e z hx hy hz => by
  cases e with
  | list ds =>
    have hz : (if SeqAt.shaped d = true ∧ SeqAt.shaped (.list ds) = true then some (PyData.bool (!ds.any fun z => PyData.eqv z d)) else none) = some z := hz
    split at hz
    · rename_i c; cases hz; exact ⟨_, fun _ => .bl _, fun Q q => ⟨d, ds, dpK d _ (SeqAt.canLay_of_shaped c.1) hx, dpK (.list ds) _ (SeqAt.canLay_of_shaped c.2) hy, c.1, c.2, q⟩⟩
    · cases hz
  | none => cases hz
  | bool _ => cases hz
  | int _ => cases hz
  | str _ => cases hz
  | tuple _ => cases hz
  | dict _ => cases hz
/-- texts, one behind the other -/
def fAddS : D → D → Option D := fun d e => match d, e with
  | .str x, .str y => if x.length + y.length ≤ BIG then some (.str (x ++ y)) else none
  | _, _ => none
theorem os_addS : Op2S K (fun x y H Q => ∃ i j, x = .str i ∧ y = .str j ∧ i.length + j.length ≤ sizeLine ∧ Q (.str (i ++ j)) H) fAddS := Op2S.flat fun H x y d e z hx hy hz => by
  cases d with
  | str s =>
    cases e with
    | str t =>
      have hz : (if s.length + t.length ≤ BIG then some (PyData.str (s ++ t)) else none) = some z := hz
      split at hz
      · rename_i c
        cases hz; cases hx; cases hy
        exact ⟨_, fun _ => .str _, fun Q q => ⟨s, t, rfl, rfl, big_le c, q⟩⟩
      · cases hz
    | none => cases hz
    | bool _ => cases hz
    | int _ => cases hz
    | list _ => cases hz
    | tuple _ => cases hz
    | dict _ => cases hz
  | none => cases hz
  | bool _ => cases hz
  | int _ => cases hz
  | list _ => cases hz
  | tuple _ => cases hz
  | dict _ => cases hz
/-- tuples, one behind the other -/
def fAddT : D → D → Option D := fun d e => match d, e with
  | .tuple xs, .tuple ys => if xs.length + ys.length ≤ BIG then some (.tuple (xs ++ ys)) else none
  | _, _ => none
theorem os_addT : Op2S K (rCatA K) fAddT := by
  rintro g F H σ ρ x y a b d e z rfl ok ha hb h1 h2 h3 Q q
  cases d with
  | tuple xs =>
    cases e with
    | tuple ys =>
      have h3 : (if xs.length + ys.length ≤ BIG then some (PyData.tuple (xs ++ ys)) else none) = some z := h3
      split at h3
      · rename_i c
        cases h3
        obtain ⟨p, us, rfl, s1, d1⟩ := rdD_tuple ok ha h1
        obtain ⟨p2, ws, rfl, s2, d2⟩ := rdD_tuple ok hb h2
        refine ⟨p, p2, us, ws, rfl, rfl, sqtE ok.ff s1, sqtE ok.ff s2, by rw [dps_len d1, dps_len d2]; exact big_le c, fun e1 => ?_, fun e1 e2 => ?_, fun e1 e2 P hP => ?_⟩
        · subst e1
          cases d1
          exact q _ F H (Ex.refl F) ok (.tup s2 d2)
        · subst e2
          cases d2
          rw [List.append_nil] at q
          exact q _ F H (Ex.refl F) ok (.tup s1 d1)
        · obtain ⟨ex, ok2⟩ := ok.newD (o := .tup (us ++ ws)) hP
          exact q _ _ _ ex ok2 (.tup (.inl (.inl upd_same)) (dpsE ex _ _ (dps_app d1 d2)))
      · cases h3
    | none => cases h3
    | bool _ => cases h3
    | int _ => cases h3
    | str _ => cases h3
    | list _ => cases h3
    | dict _ => cases h3
  | none => cases h3
  | bool _ => cases h3
  | int _ => cases h3
  | str _ => cases h3
  | list _ => cases h3
  | dict _ => cases h3
end
end Dat
namespace Dat
open PySem L2
/-! ### lists, one behind the other: read, not only tracked -/
def rCatL (K : PySem.W.Frag) : R2 := fun x y H Q => ∃ l b xs zs, x = .ref l ∧ y = .ref b ∧ SqL K H l xs ∧ SqL K H b zs ∧ xs.length + zs.length ≤ sizeLine ∧ ∀ p, H p = none → Q (.ref p) (upd H p (.lst (xs ++ zs)))
theorem op_catL {X : Cx} : OpR X (binaryOp .Add) (rCatL X.K) := by
  intro pins s σ H x y v u Q I rx ry h
  obtain ⟨l, b, xs, zs, rfl, rfl, hL, hB, hz, q⟩ := h
  cases rx
  cases ry
  obtain ⟨i1, r1, ⟨⟨c1, d1, t1, s1⟩, n1, o1, e1, e2, e3⟩, _⟩ := I.list hL
  obtain ⟨i2, r2, ⟨⟨c2, d2, t2, s2⟩, n2, o2, g1, g2, g3⟩, _⟩ := I.list hB
  simp only at e1 e2 e3 g1 g2 g3
  subst e1 e2 e3 g1 g2 g3
  have q1 := r1.length
  have q2 := r2.length
  have ea : i1.toArray ++ i2.toArray = (i1 ++ i2).toArray := by simp
  refine concat_meets ⟨_, o1, rfl⟩ ⟨_, o2, rfl⟩ noFill_list_add seq_list_add PySem.F.slot_list_add PySem.F.entry_list_add (PySem.F.args_list_add_2 _ _) (PyProof.Rows.list_addW l b i1.toArray i2.toArray n1 n2 none none s1 s2 (by simp; omega)) ⟨o1, o2, ?_⟩
  rw [ea]
  exact ⟨.ref _, _, I.lnew (t' := s.toks) (r1.append r2) (by rw [List.length_append]; omega), rfl, q _ I.fresh⟩
section
variable {X : Cx} {EW : EWT} {K : PySem.W.Frag} {pos : Pos}
def fAddL : D → D → Option D := fun d e => match d, e with
  | .list xs, .list ys => if xs.length + ys.length ≤ BIG then some (.list (xs ++ ys)) else none
  | _, _ => none
theorem os_addL : Op2S K (rCatL K) fAddL := by
  rintro g F H σ ρ x y a b d e z rfl ok ha hb h1 h2 h3 Q q
  cases d with
  | list xs =>
    cases e with
    | list ys =>
      have h3 : (if xs.length + ys.length ≤ BIG then some (PyData.list (xs ++ ys)) else none) = some z := h3
      split at h3
      · rename_i c
        cases h3
        obtain ⟨p, us, rfl, s1, d1⟩ := rdD_list ok ha h1
        obtain ⟨p2, ws, rfl, s2, d2⟩ := rdD_list ok hb h2
        refine ⟨p, p2, us, ws, rfl, rfl, s1, s2, by rw [dps_len d1, dps_len d2]; exact big_le c, fun P hP => ?_⟩
        obtain ⟨ex, ok2⟩ := ok.newD (o := .lst (us ++ ws)) hP
        exact q _ _ _ ex ok2 (.lst (.inl (.inl upd_same)) (dpsE ex _ _ (dps_app d1 d2)))
      · cases h3
    | none => cases h3
    | bool _ => cases h3
    | int _ => cases h3
    | str _ => cases h3
    | tuple _ => cases h3
    | dict _ => cases h3
  | none => cases h3
  | bool _ => cases h3
  | int _ => cases h3
  | str _ => cases h3
  | tuple _ => cases h3
  | dict _ => cases h3
/-! ### items -/
def fIx : D → D → Option D := fun d e => match e with
  | .int i => (match d with
    | .list ds => atI ds i
    | .tuple ds => atI ds i
    | .str x => if x.length ≤ BIG then (atI x.cps.toList i).map fun c => .str ⟨#[c]⟩ else none
    | _ => none)
  | _ => none
theorem dps_at {F : Hp} {ds : List D} {vs : List V} {i : Int} {d : D} (h : DpAll K F vs ds) (e : atI ds i = some d) : ∃ v, atI vs i = some v ∧ Dp K F v d := by
  unfold atI at e ⊢
  rw [dps_len h]
  cases q : ixN ds.length i with
  | none => rw [q] at e; cases e
  | some j =>
    rw [q] at e
    obtain ⟨v, h1, h2⟩ := dps_get h (show ds[j]? = some d from e)
    exact ⟨v, h1, h2⟩
theorem os_ix : Op2S K (rIx K) fIx := by
  rintro g F H σ ρ x y a b d e z rfl ok ha hb h1 h2 h3 Q q
  cases e with
  | int i =>
    have hy := rdD_dat ok hb h2 fun _ q => nomatch q
    cases hy
    cases d with
    | list ds =>
      obtain ⟨p, us, rfl, s1, d1⟩ := rdD_list ok ha h1
      obtain ⟨v, h4, h5⟩ := dps_at d1 (show atI ds i = some z from h3)
      exact .inl ⟨p, us, i, v, rfl, rfl, s1, h4, q v F H (Ex.refl F) ok h5⟩
    | tuple ds =>
      obtain ⟨p, us, rfl, s1, d1⟩ := rdD_tuple ok ha h1
      obtain ⟨v, h4, h5⟩ := dps_at d1 (show atI ds i = some z from h3)
      exact .inr (.inl ⟨p, us, i, v, rfl, rfl, sqtE ok.ff s1, h4, q v F H (Ex.refl F) ok h5⟩)
    | str s =>
      have hx := rdD_dat ok ha h1 fun _ q => nomatch q
      cases hx
      have h3 : (if s.length ≤ BIG then (atI s.cps.toList i).map fun c => PyData.str ⟨#[c]⟩ else none) = some z := h3
      split at h3
      · rename_i hz
        cases hc : atI s.cps.toList i with
        | none => rw [hc] at h3; cases h3
        | some c =>
          rw [hc] at h3
          cases h3
          exact .inr (.inr ⟨s, i, c, rfl, rfl, big_le hz, hc, q _ F H (Ex.refl F) ok (.str _)⟩)
      · cases h3
    | none => cases h3
    | bool _ => cases h3
    | int _ => cases h3
    | dict _ => cases h3
  | none => cases h3
  | bool _ => cases h3
  | str _ => cases h3
  | list _ => cases h3
  | tuple _ => cases h3
  | dict _ => cases h3
/-! ### built-ins -/
theorem Call1S.flat {r : List V → Hp → VK → Prop} {f : D → Option D} (h : ∀ H x d z, Dp K H x d → f d = some z → ∃ v, (∀ F, Dp K F v z) ∧ ∀ Q : VK, Q v H → r [x] H Q) : Call1S K r f := by
  rintro g F H σ ρ x a d z rfl ok ha h1 h3 Q q
  obtain ⟨v, hv, k⟩ := h H x d z (rdD_ok ok ha h1) h3
  exact k Q (q v F H (Ex.refl F) ok (hv F))
def fLen : D → Option D
  | .str x => if x.length ≤ BIG then some (.int x.length) else none
  | .list ds => some (.int ds.length)
  | .tuple ds => some (.int ds.length)
  | _ => none
theorem cs_len : Call1S K (fun xs H Q => ∃ x n, xs = [x] ∧ LenV K x H n ∧ Q (.int n) H) fLen := Call1S.flat fun H x d z hx hz => by
  cases d with
  | str s =>
    have hz : (if s.length ≤ BIG then some (PyData.int s.length) else none) = some z := hz
    split at hz
    · rename_i c; cases hz; cases hx; exact ⟨_, fun _ => .int _, fun Q q => ⟨_, _, rfl, ⟨big_le c, rfl⟩, q⟩⟩
    · cases hz
  | list ds =>
    cases hz
    cases hx with
    | lst hs ha => exact ⟨_, fun _ => .int _, fun Q q => ⟨_, _, rfl, .inl ⟨_, hs, (dps_len ha).symm⟩, q⟩⟩
  | tuple ds =>
    cases hz
    cases hx with
    | tup hs ha => exact ⟨_, fun _ => .int _, fun Q q => ⟨_, _, rfl, .inr ⟨_, hs, (dps_len ha).symm⟩, q⟩⟩
  | none => cases hz
  | bool _ => cases hz
  | int _ => cases hz
  | dict _ => cases hz
def fAbs : D → Option D
  | .int i => some (.int (if i < 0 then -i else i))
  | _ => none
theorem cs_abs : Call1S K (fun xs H Q => ∃ i, xs = [.int i] ∧ Q (.int (if i < 0 then -i else i)) H) fAbs := Call1S.flat fun H x d z hx hz => by
  cases d with
  | int i => cases hz; cases hx; exact ⟨_, fun _ => .int _, fun Q q => ⟨i, rfl, q⟩⟩
  | none => cases hz
  | bool _ => cases hz
  | str _ => cases hz
  | list _ => cases hz
  | tuple _ => cases hz
  | dict _ => cases hz
def fIntOf : D → Option D
  | .int i => some (.int i)
  | .bool b => some (.int (if b then 1 else 0))
  | _ => none
theorem cs_int : Call1S K (fun xs H Q => (∃ i, xs = [.int i] ∧ Q (.int i) H) ∨ ∃ k, xs = [.bl k] ∧ Q (.int (if k then 1 else 0)) H) fIntOf := Call1S.flat fun H x d z hx hz => by
  cases d with
  | int i => cases hz; cases hx; exact ⟨_, fun _ => .int _, fun Q q => .inl ⟨i, rfl, q⟩⟩
  | bool b => cases hz; cases hx; exact ⟨_, fun _ => .int _, fun Q q => .inr ⟨b, rfl, q⟩⟩
  | none => cases hz
  | str _ => cases hz
  | list _ => cases hz
  | tuple _ => cases hz
  | dict _ => cases hz
def fStrOf : D → Option D
  | .int i => if i.natAbs < 1000000000000000000000000000000000000000 then some (.str (toString i)) else none
  | _ => none
theorem cs_str : Call1S K (fun xs H Q => ∃ i, xs = [.int i] ∧ i.natAbs.log2 < 1920 ∧ Q (.str (toString i)) H) fStrOf := Call1S.flat fun H x d z hx hz => by
  cases d with
  | int i =>
    have hz : (if i.natAbs < 1000000000000000000000000000000000000000 then some (PyData.str (toString i)) else none) = some z := hz
    split at hz
    · rename_i c
      cases hz; cases hx
      refine ⟨_, fun _ => .str _, fun Q q => ⟨i, rfl, ?_, q⟩⟩
      by_cases h0 : i.natAbs = 0
      · rw [h0]; decide
      · exact Nat.lt_trans ((Nat.log2_lt h0).mpr (show i.natAbs < 2 ^ 200 from Nat.lt_trans c (by decide))) (by decide)
    · cases hz
  | none => cases hz
  | bool _ => cases hz
  | str _ => cases hz
  | list _ => cases hz
  | tuple _ => cases hz
  | dict _ => cases hz
def fTupleOf : D → Option D
  | .list ds => some (.tuple ds)
  | .tuple ds => some (.tuple ds)
  | _ => none
theorem cs_tuple : Call1S K (fun xs H Q => ∃ p ys, xs = [.ref p] ∧ ((SqL K H p ys ∧ ∀ l, H l = none → Q (.ref l) (upd H l (.tup ys))) ∨ (SqT K H p ys ∧ Q (.ref p) H))) fTupleOf := by
  rintro g F H σ ρ x a d z rfl ok ha h1 h3 Q q
  cases d with
  | list ds =>
    cases h3
    obtain ⟨p, us, rfl, s1, d1⟩ := rdD_list ok ha h1
    refine ⟨p, us, rfl, .inl ⟨s1, fun P hP => ?_⟩⟩
    obtain ⟨ex, ok2⟩ := ok.newD (o := .tup us) hP
    exact q _ _ _ ex ok2 (.tup (.inl (.inl upd_same)) (dpsE ex _ _ d1))
  | tuple ds =>
    cases h3
    obtain ⟨p, us, rfl, s1, d1⟩ := rdD_tuple ok ha h1
    exact ⟨p, us, rfl, .inr ⟨sqtE ok.ff s1, q _ F H (Ex.refl F) ok (.tup s1 d1)⟩⟩
  | none => cases h3
  | bool _ => cases h3
  | int _ => cases h3
  | str _ => cases h3
  | dict _ => cases h3
def fListOf : D → Option D
  | .list ds => some (.list ds)
  | .tuple ds => some (.list ds)
  | _ => none
theorem cs_list : Call1S K (fun xs H Q => ∃ p ys, xs = [.ref p] ∧ (SqL K H p ys ∨ SqT K H p ys) ∧ ∀ l, H l = none → Q (.ref l) (upd H l (.lst ys))) fListOf := by
  rintro g F H σ ρ x a d z rfl ok ha h1 h3 Q q
  cases d with
  | list ds =>
    cases h3
    obtain ⟨p, us, rfl, s1, d1⟩ := rdD_list ok ha h1
    refine ⟨p, us, rfl, .inl s1, fun P hP => ?_⟩
    obtain ⟨ex, ok2⟩ := ok.newD (o := .lst us) hP
    exact q _ _ _ ex ok2 (.lst (.inl (.inl upd_same)) (dpsE ex _ _ d1))
  | tuple ds =>
    cases h3
    obtain ⟨p, us, rfl, s1, d1⟩ := rdD_tuple ok ha h1
    refine ⟨p, us, rfl, .inr (sqtE ok.ff s1), fun P hP => ?_⟩
    obtain ⟨ex, ok2⟩ := ok.newD (o := .lst us) hP
    exact q _ _ _ ex ok2 (.lst (.inl (.inl upd_same)) (dpsE ex _ _ d1))
  | none => cases h3
  | bool _ => cases h3
  | int _ => cases h3
  | str _ => cases h3
  | dict _ => cases h3
/-- a list of whole numbers -/
def intsD : List D → Option (List Int)
  | [] => some []
  | .int i :: r => (intsD r).map (i :: ·)
  | _ :: _ => none
theorem intsD_some : ∀ {ds : List D} {ns : List Int}, intsD ds = some ns → ds = ns.map PyData.int
  | [], ns, h => by cases h; rfl
  | .int i :: r, ns, h => by
    have h : (intsD r).map (i :: ·) = some ns := h
    cases q : intsD r with
    | none => rw [q] at h; cases h
    | some ms =>
      rw [q] at h
      cases h
      rw [intsD_some q]; rfl
  | .none :: _, _, h => by cases h
  | .bool _ :: _, _, h => by cases h
  | .str _ :: _, _, h => by cases h
  | .list _ :: _, _, h => by cases h
  | .tuple _ :: _, _, h => by cases h
  | .dict _ :: _, _, h => by cases h
theorem intsD_map : ∀ ns : List Int, intsD (ns.map PyData.int) = some ns
  | [] => rfl
  | n :: ns => by
    show (intsD (ns.map PyData.int)).map (n :: ·) = some (n :: ns)
    rw [intsD_map ns]; rfl
theorem vals_ints_of {F : Hp} : ∀ {ns : List Int} {vs : List V}, DpAll K F vs (ns.map PyData.int) → vs = ns.map V.int
  | [], _, h => by cases h; rfl
  | n :: ns, _, h => by
    cases h with
    | cons h1 h2 => cases h1; rw [vals_ints_of h2]; rfl
def maxI : List Int → Option Int
  | [] => none
  | n :: ns => some (ns.foldl (fun a b => if b > a then b else a) n)
theorem foldmax_spec : ∀ (ns : List Int) (n : Int), (ns.foldl (fun a b => if b > a then b else a) n = n ∨ ns.foldl (fun a b => if b > a then b else a) n ∈ ns) ∧ n ≤ ns.foldl (fun a b => if b > a then b else a) n ∧ ∀ y ∈ ns, y ≤ ns.foldl (fun a b => if b > a then b else a) n
  | [], n => ⟨.inl rfl, Int.le_refl _, fun y h => by cases h⟩
  | m :: ns, n => by
    obtain ⟨h1, h2, h3⟩ := foldmax_spec ns (if m > n then m else n)
    rw [List.foldl_cons]
    refine ⟨?_, ?_, fun y hy => ?_⟩
    · rcases h1 with h1 | h1
      · rw [h1]
        split
        · exact .inr List.mem_cons_self
        · exact .inl rfl
      · exact .inr (List.mem_cons_of_mem _ h1)
    · refine Int.le_trans ?_ h2
      split <;> omega
    · rcases List.mem_cons.mp hy with rfl | hy
      · refine Int.le_trans ?_ h2
        split <;> omega
      · exact h3 y hy
def fMax : D → Option D
  | .list ds => (intsD ds).bind fun ns => (maxI ns).map PyData.int
  | _ => none
theorem cs_max : Call1S K (rMax K) fMax := Call1S.flat fun H x d z hx hz => by
  cases d with
  | list ds =>
    have hz : ((intsD ds).bind fun ns => (maxI ns).map PyData.int) = some z := hz
    cases q : intsD ds with
    | none => rw [q] at hz; cases hz
    | some ns =>
      rw [q] at hz
      cases ns with
      | nil => cases hz
      | cons n ns =>
        cases hz
        cases intsD_some q
        cases hx with
        | lst hs ha =>
          rw [vals_ints_of ha] at hs
          refine ⟨_, fun _ => .int _, fun Q q => ⟨_, n :: ns, rfl, hs, Nat.succ_pos _, fun m hm hle => ?_⟩⟩
          obtain ⟨h1, h2, h3⟩ := foldmax_spec ns n
          have e : m = ns.foldl (fun a b => if b > a then b else a) n := by
            refine Int.le_antisymm ?_ ?_
            · rcases List.mem_cons.mp hm with rfl | hm
              · exact h2
              · exact h3 m hm
            · rcases h1 with h1 | h1
              · exact hle _ (by rw [h1]; exact List.mem_cons_self)
              · exact hle _ (List.mem_cons_of_mem _ h1)
          rw [e]
          exact q
  | none => cases hz
  | bool _ => cases hz
  | int _ => cases hz
  | str _ => cases hz
  | tuple _ => cases hz
  | dict _ => cases hz
/-- rising, by insertion -/
def insI (n : Int) : List Int → List Int
  | [] => [n]
  | m :: r => if n ≤ m then n :: m :: r else m :: insI n r
def sortI : List Int → List Int
  | [] => []
  | n :: r => insI n (sortI r)
theorem insI_perm (n : Int) : ∀ r, (insI n r).Perm (n :: r)
  | [] => .refl _
  | m :: r => by
    unfold insI
    split
    · exact .refl _
    · exact ((insI_perm n r).cons m).trans (.swap n m r)
theorem sortI_perm : ∀ r, (sortI r).Perm r
  | [] => .refl _
  | n :: r => (insI_perm n _).trans ((sortI_perm r).cons n)
theorem insI_le (n : Int) : ∀ r : List Int, r.Pairwise (· ≤ ·) → (insI n r).Pairwise (· ≤ ·)
  | [], _ => by unfold insI; exact List.pairwise_singleton _ _
  | m :: r, h => by
    have h' := List.pairwise_cons.mp h
    unfold insI
    split
    · rename_i hn
      refine List.pairwise_cons.mpr ⟨fun y hy => ?_, h⟩
      rcases List.mem_cons.mp hy with rfl | hy
      · exact hn
      · exact Int.le_trans hn (h'.1 y hy)
    · rename_i hn
      refine List.pairwise_cons.mpr ⟨fun y hy => ?_, insI_le n r h'.2⟩
      rcases List.mem_cons.mp ((insI_perm n r).mem_iff.mp hy) with rfl | hy
      · omega
      · exact h'.1 y hy
theorem sortI_le : ∀ r, (sortI r).Pairwise (· ≤ ·)
  | [] => List.Pairwise.nil
  | n :: r => insI_le n _ (sortI_le r)
theorem perm_le_eq {α : Type} {le : α → α → Prop} (anti : ∀ a b, le a b → le b a → a = b) : ∀ {xs ys : List α}, xs.Perm ys → xs.Pairwise le → ys.Pairwise le → xs = ys
  | [], ys, p, _, _ => by rw [List.nil_perm.mp p]
  | x :: xs, [], p, _, _ => by have := p.length_eq; simp at this
  | x :: xs, y :: ys, p, hx, hy => by
    have hx' := List.pairwise_cons.mp hx
    have hy' := List.pairwise_cons.mp hy
    have e : x = y := by
      rcases List.mem_cons.mp (p.mem_iff.mp List.mem_cons_self) with e | h1
      · exact e
      · rcases List.mem_cons.mp (p.symm.mem_iff.mp List.mem_cons_self) with e | h2
        · exact e.symm
        · exact anti x y (hx'.1 y h2) (hy'.1 x h1)
    subst e
    rw [perm_le_eq anti p.cons_inv hx'.2 hy'.2]
theorem sortI_eq {ns ms : List Int} (p : ns.Perm ms) (h : ns.Pairwise (· ≤ ·)) : ns = sortI ms :=
  perm_le_eq (le := (· ≤ ·)) (fun _ _ h1 h2 => Int.le_antisymm h1 h2) (p.trans (sortI_perm ms).symm) h (sortI_le ms)
def fSortI : D → Option D
  | .list ds => (intsD ds).map fun ns => .list ((sortI ns).map PyData.int)
  | _ => none
theorem cs_sortI : Call1S K (rSortedI K) fSortI := by
  rintro g F H σ ρ x a d z rfl ok ha h1 h3 Q q
  cases d with
  | list ds =>
    have h3 : ((intsD ds).map fun ns => PyData.list ((sortI ns).map PyData.int)) = some z := h3
    cases q2 : intsD ds with
    | none => rw [q2] at h3; cases h3
    | some ns =>
      rw [q2] at h3
      cases h3
      cases intsD_some q2
      obtain ⟨p, us, rfl, s1, d1⟩ := rdD_list ok ha h1
      rw [vals_ints_of d1] at s1
      refine ⟨p, ns, rfl, s1, fun ns' P hp hs hP => ?_⟩
      obtain ⟨ex, ok2⟩ := ok.newD (o := .lst (ns'.map V.int)) hP
      rw [sortI_eq hp hs] at ex ok2 ⊢
      exact q _ _ _ ex ok2 (.lst (.inl (.inl upd_same)) (dps_ints _))
  | none => cases h3
  | bool _ => cases h3
  | int _ => cases h3
  | str _ => cases h3
  | tuple _ => cases h3
  | dict _ => cases h3
end
end Dat
namespace Dat
open PySem L2
section
variable {X : Cx} {EW : EWT} {K : PySem.W.Frag} {pos : Pos}
/-! ### isinstance -/
def tyD : D → Option String
  | .none => some "NoneType"
  | .bool _ => some "bool"
  | .int _ => some "int"
  | .str _ => some "str"
  | .list _ => some "list"
  | .tuple _ => some "tuple"
  | .dict _ => some "dict"
theorem tyX_of {H : Hp} {v : V} {d : D} {n : String} (h : Dp K H v d) (e : tyD d = some n) : TyX K H v (.type n) := by
  cases d with
  | none => cases h; cases e; exact .base .non
  | bool b => cases h; cases e; exact .base (.bl b)
  | int i => cases h; cases e; exact .base (.int i)
  | str x => cases h; cases e; exact .base (.str x)
  | list ds =>
    cases h with
    | lst hs ha =>
      cases e
      rcases hs with (hs | ⟨o, hs⟩) | ⟨o, its, n, hk, hc, _⟩
      · exact .base (.lst hs)
      · exact .base (.frz hs)
      · exact .kList hk hc
  | tuple ds =>
    cases h with
    | tup hs ha =>
      cases e
      rcases hs with (hs | ⟨o, hs⟩) | ⟨o, its, n, hk, hc, _⟩
      · exact .base (.tup hs)
      · exact .fTuple hs
      · exact .kTuple hk hc
  | dict _ =>
    cases h with
    | dk0 q =>
      cases e
      exact .base (.dK q)
def IsiOk (T : String) (f : D → Bool) : Prop := ∀ d n, tyD d = some n → kitB n T = some (f d)
def isStr : D → Bool
  | .str _ => true
  | _ => false
def isTup : D → Bool
  | .tuple _ => true
  | _ => false
def isLst : D → Bool
  | .list _ => true
  | _ => false
def isBool : D → Bool
  | .bool _ => true
  | _ => false
def isInt : D → Bool
  | .bool _ => true
  | .int _ => true
  | _ => false
theorem isi_str : IsiOk "str" isStr := fun d n h => by
  cases d <;> cases h <;> first | (show _ = some true; decide +kernel) | (show _ = some false; decide +kernel)
theorem isi_tup : IsiOk "tuple" isTup := fun d n h => by
  cases d <;> cases h <;> first | (show _ = some true; decide +kernel) | (show _ = some false; decide +kernel)
theorem isi_lst : IsiOk "list" isLst := fun d n h => by
  cases d <;> cases h <;> first | (show _ = some true; decide +kernel) | (show _ = some false; decide +kernel)
theorem isi_bool : IsiOk "bool" isBool := fun d n h => by
  cases d <;> cases h <;> first | (show _ = some true; decide +kernel) | (show _ = some false; decide +kernel)
theorem isi_int : IsiOk "int" isInt := fun d n h => by
  cases d <;> cases h <;> first | (show _ = some true; decide +kernel) | (show _ = some false; decide +kernel)
def fIsi (f : D → Bool) : D → Option D := fun d => match tyD d with
  | none => none
  | some _ => some (.bool (f d))
theorem qe_isi {T : String} {x : Str} {f : D → Bool} (hi : IsiOk T f) {e : Expr} {te : TE} {ma : M Vw} {p p2 : Pos} (hg : Gl X "isinstance") (hm : X.mg "isinstance" = none) (hg2 : Gl X x) (hm2 : X.mg x = none) (hv2 : bootBuiltins x = some (.type T)) (h : QE X EW e te ma)
    (hn : x ≠ "__name__" := by decide) (hd : (x == ("__debug__" : Str)) = false := by decide)
    (he : starEach [e, .Name x p2] X.env = (false, eval e X.env) :: starEach [.Name x p2] X.env := by rfl) (he2 : starEach [.Name x p2] X.env = (false, eval (.Name x p2) X.env) :: starEach [] X.env := by rfl) (hpl : (backTo pos (starEach [.Name x p2] X.env)).any (·.1) = false := by rfl) :
    QE X EW (.Call (.Name "isinstance" p) [e, .Name x p2] [] pos) (tCB (rIsi X.K) (tCons te (tCons (tC (.ty T)) tNil))) (mOp1 (fIsi f) ma) := by
  refine ⟨pe_callB call_isi hg hm (by decide +kernel) (pa_cons h.pe (pa_cons (pe_bltn hg2 hm2 hv2 rfl hn hd) pa_nil he2) he) (by decide) (by decide) he hpl, fun g F H σ ρ hK ok => ?_⟩
  refine At.bind (k := fun y H1 Q => rIsi X.K [y, .ty T] H1 Q) (h.sm g F H σ ρ hK ok) fun F1 H1 ρ1 y a e1 ok1 hx => app1_at ok1 hx fun d z h1 h2 Q q => ?_
  unfold fIsi at h2
  cases ht : tyD d with
  | none => rw [ht] at h2; cases h2
  | some n =>
    rw [ht] at h2
    cases h2
    rw [← hK]
    exact ⟨y, .ty T, .type n, .type T, f d, rfl, .ty T, tyX_of (rdD_ok ok1 hx h1) ht, kit_ty (hi d n ht), q _ F1 H1 (Ex.refl F1) ok1 (.bl _)⟩
/-! ### is None -/
def isNonD (w : Vw) : M Bool := fun ρ => match rdD w ρ with
  | some .none => some (.ok true, ρ)
  | some _ => some (.ok false, ρ)
  | none => none
theorem isNon_of {H : Hp} {v : V} {d : D} (h : Dp K H v d) : decide (v = .non) = (match d with | .none => true | _ => false) := by
  cases h <;> rfl
def mIsN (ma : M Vw) : M Bool := mBind ma isNonD
theorem isN_at {g : Gh} {F H : Hp} {σ : St} {ρ : List Sl} {x : V} {w : Vw} (ok : Ok g F H σ ρ) (hx : VwOk g σ F x w) : At EW g F H σ (fun _ (a b : Bool) => a = b) (fun H (Q : Bool → Hp → Prop) => Q (decide (x = .non)) H) (isNonD w ρ) := by
  intro r ρ' e Q q
  unfold isNonD at e
  cases h1 : rdD w ρ with
  | none => simp only [h1] at e; cases e
  | some d =>
    simp only [h1] at e
    have e2 := isNon_of (rdD_ok ok hx h1)
    rw [e2]
    cases d <;> (cases e; exact q F H (Ex.refl F) ok _ rfl)
theorem qt_isN {a : Expr} {ta : TE} {ma : M Vw} {j p2} (h : QE X EW a ta ma) : QT X EW (.Compare a [.Is] [.Constant .none j p2] pos) (tB (tIsN ta)) (mIsN ma) := by
  refine ⟨pt_cmp (pc_isN h.pe), fun g F H σ ρ hK ok => ?_⟩
  refine At.bind (k := fun x H1 (Q : Bool → Hp → Prop) => ∃ c, V.bl (decide (x = .non)) = .bl c ∧ Q c H1) (h.sm g F H σ ρ hK ok) fun F1 H1 ρ1 x a e1 ok1 hx => ?_
  intro r ρ' e Q q
  exact ⟨_, rfl, isN_at ok1 hx r ρ' e Q q⟩
theorem qt_notN {a : Expr} {ta : TE} {ma : M Vw} {j p2} (h : QE X EW a ta ma) : QT X EW (.Compare a [.IsNot] [.Constant .none j p2] pos) (tB (tNotN ta)) (mNot (mIsN ma)) := by
  refine ⟨pt_cmp (pc_notN h.pe), fun g F H σ ρ hK ok => ?_⟩
  unfold mNot mIsN
  rw [bind_assoc]
  refine At.bind (k := fun x H1 (Q : Bool → Hp → Prop) => ∃ c, V.bl (!decide (x = .non)) = .bl c ∧ Q c H1) (h.sm g F H σ ρ hK ok) fun F1 H1 ρ1 x a e1 ok1 hx => ?_
  have := At.bind (R2 := fun _ (a b : Bool) => a = b) (k := fun b H1 (Q : Bool → Hp → Prop) => Q (!b) H1) (mk := fun b => mRet (!b)) (isN_at (EW := EW) ok1 hx) fun F2 H2 ρ2 b c e2 ok2 hb => by
    subst hb
    exact At.ret (a := !b) ok2 rfl fun _ q => q
  intro r ρ' e Q q
  exact ⟨_, rfl, this r ρ' e Q q⟩
/-! ### a slot's own list changes -/
def ownL (i : Nat) (f : List D → Option (List D)) : MS := fun ρ => match ρ[i]? with
  | some (.own (.lst ds)) => (match f ds with
    | some es => some (.nx, ρ.set i (.own (.lst es)))
    | none => none)
  | some (.par (.lst ds)) => (match f ds with
    | some es => some (.nx, ρ.set i (.par (.lst es)))
    | none => none)
  | _ => none
def isOL (i : Nat) (m : MS) : MS := fun ρ => match ρ[i]? with
  | some (.own (.lst _)) => m ρ
  | some (.par (.lst _)) => m ρ
  | _ => none
theorem isOL_at {g : Gh} {F H : Hp} {σ : St} {ρ : List Sl} {i : Nat} {m : MS} {p : Fl × List Sl} (ok : Ok g F H σ ρ) (h : isOL i m ρ = some p) : m ρ = some p ∧ ∃ l vs, σ[i]? = some (some (.ref l)) ∧ H l = some (.lst vs) := by
  unfold isOL at h
  cases hs : ρ[i]? with
  | none => rw [hs] at h; cases h
  | some s =>
    rw [hs] at h
    obtain ⟨ov, hv, hsl⟩ := ok.at hs
    cases s with
    | un => cases h
    | dat d => cases h
    | own o =>
      cases o with
      | lst ds => obtain ⟨l, rfl, _, ⟨vs, h1, _⟩, _⟩ := hsl; exact ⟨h, l, vs, hv, h1⟩
      | dk kvs => cases h
    | par o =>
      cases o with
      | lst ds => obtain ⟨l, rfl, _, ⟨vs, h1, _⟩, _⟩ := hsl; exact ⟨h, l, vs, hv, h1⟩
      | dk kvs => cases h
theorem ownL_at {g : Gh} {F H : Hp} {σ : St} {ρ ρ' : List Sl} {i : Nat} {f : List D → Option (List D)} {r : Fl} {l : Addr} (ok : Ok g F H σ ρ) (hv : σ[i]? = some (some (.ref l))) (h : ownL i f ρ = some (r, ρ')) :
    ∃ ds es vs, f ds = some es ∧ H l = some (.lst vs) ∧ DpAll g.K F vs ds ∧ r = .nx ∧ ∀ ws, DpAll g.K F ws es → Ok g F (upd H l (.lst ws)) σ ρ' := by
  unfold ownL at h
  cases hs : ρ[i]? with
  | none => rw [hs] at h; cases h
  | some s =>
    rw [hs] at h
    have hsl := ok.sl i s _ hs hv
    cases s with
    | un => cases h
    | dat d => cases h
    | own o =>
      cases o with
      | lst ds =>
        obtain ⟨l', e1, _, ⟨vs, h1, h2⟩, _⟩ := hsl
        cases e1
        simp only at h
        cases hf : f ds with
        | none => rw [hf] at h; cases h
        | some es =>
          rw [hf] at h
          cases h
          exact ⟨ds, es, vs, hf, h1, h2, rfl, fun ws hw => ok.mutO hs hv (.inl ⟨_, rfl, rfl⟩) ⟨ws, upd_same, hw⟩⟩
      | dk kvs => cases h
    | par o =>
      cases o with
      | lst ds =>
        obtain ⟨l', e1, _, ⟨vs, h1, h2⟩, _⟩ := hsl
        cases e1
        simp only at h
        cases hf : f ds with
        | none => rw [hf] at h; cases h
        | some es =>
          rw [hf] at h
          cases h
          exact ⟨ds, es, vs, hf, h1, h2, rfl, fun ws hw => ok.mutO hs hv (.inr ⟨_, rfl, rfl⟩) ⟨ws, upd_same, hw⟩⟩
      | dk kvs => cases h
def pushL (d : D) (ds : List D) : Option (List D) := if ds.length < BIG then some (ds ++ [d]) else none
def mAppend (i : Nat) (ma : M Vw) : MS := isOL i (mThen ma fun w => mThen (frc w) fun d => ownL i (pushL d))
theorem qs_append (i : Nat) {x : Str} {e : Expr} {te : TE} {ma : M Vw} {p apos cpos : Pos} (h : QE X EW e te ma) (hN : X.N[i]? = some x := by rfl) (hv : Vis X.env.scope x := by first | exact Or.inl rfl | exact Or.inr (Or.inl rfl) | exact Or.inr (Or.inr rfl)) (hd : (x == ("__debug__" : Str)) = false := by decide)
    (hcd : (x == ("__classdict__" : Str)) = false := by decide) (hbase : attributeBase (.Name x p) "append" X.env (eval (.Name x p) X.env) = eval (.Name x p) X.env := by rfl)
    (hfew : ((backTo cpos (starEach [e] X.env)).all (fun x => !x.1) && (backToKw cpos (keywordEach [] X.env)).all (fun x => x.1.isSome) && decide ([e].length + ([] : List Keyword).length + (if ([] : List Keyword).isEmpty then 0 else 1) < 30)) = true := by rfl)
    (hline : (apos.endLine == cpos.line) = true := by rfl) (hs : starEach [e] X.env = (false, eval e X.env) :: starEach [] X.env := by rfl) (hsw : swapsWith (.Call (.Attribute (.Name x p) "append" apos) [e] [] cpos) none pos.line X.env = pure false := by rfl) :
    QS X EW (.Expr (.Call (.Attribute (.Name x p) "append" apos) [e] [] cpos) pos) (tDrop (tBM X.K "list" rAppend (tVar i) (tCons te tNil))) (mAppend i ma) := by
  refine ⟨ps_expr (pe_bm PySem.F.plainAttrs_list PySem.F.slot_list_append PySem.F.type_list_append mt_append (pe_var hN hv hd hcd) (pa_cons h.pe pa_nil hs) hbase hfew hline hs rfl) hsw, fun g F H σ ρ hK ok r ρ' e D q => ?_⟩
  obtain ⟨e1, l, vs0, hv, hl⟩ := isOL_at ok e
  refine ⟨.ref l, hv, .inl ⟨rfl, vs0, .inl (.inl hl)⟩, ?_⟩
  unfold mThen at e1
  cases hm : ma ρ with
  | none => rw [hm] at e1; cases e1
  | some p =>
    obtain ⟨r1, ρ1⟩ := p
    rw [hm] at e1
    cases r1 with
    | er c =>
      cases e1
      exact h.sm g F H σ ρ hK ok _ _ hm _ fun F' H' ex ok' => q F' H' σ ex ok'
    | ok w =>
      refine h.sm g F H σ ρ hK ok _ _ hm _ fun F1 H1 ex1 ok1 y hy => ?_
      obtain ⟨d, F2, ρ2, ex2, ok2, hd2, e2⟩ := frcS ok1 hy e1
      obtain ⟨ds, es, vs, hf, hH, hds, rfl, k⟩ := ownL_at ok2 hv e2
      unfold pushL at hf
      split at hf
      · rename_i hz
        cases hf
        have hl2 := dps_len hds
        exact ⟨l, vs, y, rfl, rfl, hH, by rw [hl2]; exact big_lt (Nat.le_of_lt hz), q F2 _ σ (ex1.trans ex2) (k _ (dps_app hds (.cons hd2 .nil)))⟩
      · cases hf
/-- x[i] = e, x a list of one's own -/
def setL (k : Int) (d : D) (ds : List D) : Option (List D) := (ixN ds.length k).map fun j => ds.set j d
def mSetItem (i : Nat) (mk ma : M Vw) : MS := mThen ma fun w => mThen (frc w) fun d => isOL i (mThen mk fun u => mThen (asI u) fun k => ownL i (setL k d))
theorem asI_S {g : Gh} {F H : Hp} {σ : St} {ρ ρ' : List Sl} {x : V} {w : Vw} {f : Int → MS} {r : Fl} (ok : Ok g F H σ ρ) (hx : VwOk g σ F x w) (h : mThen (asI w) f ρ = some (r, ρ')) : ∃ i, x = .int i ∧ f i ρ = some (r, ρ') := by
  unfold mThen asI at h
  cases h1 : rdD w ρ with
  | none => simp only [h1] at h; cases h
  | some d =>
    simp only [h1] at h
    have hd := rdD_ok ok hx h1
    cases d with
    | int i => cases hd; exact ⟨i, rfl, h⟩
    | none => cases h
    | bool _ => cases h
    | str _ => cases h
    | list _ => cases h
    | tuple _ => cases h
    | dict _ => cases h
theorem qs_setItem (i : Nat) {x : Str} {e k : Expr} {te tk : TE} {ma mk : M Vw} {p p2 : Pos} (hN : X.N[i]? = some x) (hv : Vis X.env.scope x) (h : QE X EW e te ma) (hk : QE X EW k tk mk) (hd : (x == ("__debug__" : Str)) = false := by decide)
    (hcd : (x == ("__classdict__" : Str)) = false := by decide)
    (ha : ∀ v, assign (.Subscript (.Name x p) k p2) X.env v = (do
      let ov ← holding [v] (eval (.Name x p) X.env)
      let iv ← holding [v, ov] (eval k X.env)
      standAt p2
      holding [v, ov, iv] (setItem ov iv v)
      release [v, ov, iv] []) := by intro _; rfl)
    (hs : swapsWithSole [.Subscript (.Name x p) k p2] e pos.line X.env = pure false := by rfl) (hw : swappedStores [.Subscript (.Name x p) k p2] e X.env = pure none := by rfl)
    (h1 : (assignEach [.Subscript (.Name x p) k p2] X.env).map (·.2) = [assign (.Subscript (.Name x p) k p2) X.env] := by rfl) :
    QS X EW (.Assign [.Subscript (.Name x p) k p2] e pos) (tAsg te (gSub (tVar i) tk rSetL)) (mSetItem i mk ma) := by
  refine ⟨ps_asg h.pe (pg_sub (pe_var hN hv hd hcd) hk.pe set_list ha) hs hw h1, ?_⟩
  refine then_sm (R := VwOk) (k := fun D σ y H1 => gSub (tVar i) tk rSetL y σ H1 D.nx) h.sm fun g F H σ ρ y w hK ok hy r ρ' e D q => ?_
  obtain ⟨d, F1, ρ1, ex1, ok1, hd1, e1⟩ := frcS ok hy e
  obtain ⟨e2, l, vs0, hv, hl⟩ := isOL_at ok1 e1
  refine ⟨.ref l, hv, ?_⟩
  unfold mThen at e2
  cases hm : mk ρ1 with
  | none => rw [hm] at e2; cases e2
  | some p =>
    obtain ⟨r1, ρ2⟩ := p
    rw [hm] at e2
    cases r1 with
    | er c =>
      cases e2
      exact hk.sm g F1 H σ ρ1 hK ok1 _ _ hm _ fun F' H' ex ok' => q F' H' σ (ex1.trans ex) ok'
    | ok u =>
      refine hk.sm g F1 H σ ρ1 hK ok1 _ _ hm _ fun F2 H2 ex2 ok2 z hz => ?_
      obtain ⟨n, rfl, e3⟩ := asI_S ok2 hz e2
      obtain ⟨ds, es, vs, hf, hH, hds, rfl, kk⟩ := ownL_at ok2 hv e3
      unfold setL at hf
      cases hj : ixN ds.length n with
      | none => rw [hj] at hf; cases hf
      | some j =>
        rw [hj] at hf
        cases hf
        exact ⟨l, vs, n, j, rfl, rfl, hH, by rw [dps_len hds]; exact hj, q F2 _ σ (ex1.trans ex2) (kk _ (dps_set (dpE ex2 _ _ hd1) j hds))⟩
/-! ### dicts of one's own, keys whole numbers and texts -/
def toKey : D → Option Key
  | .int i => some (.inl i)
  | .str x => some (.inr x)
  | _ => none
def valD (kvs : List (Key × D)) (k : Key) : Option D := (kvs.find? fun kv => decide (kv.1 = k)).map (·.2)
def putD (kvs : List (Key × D)) (k : Key) (d : D) : List (Key × D) :=
  if (kvs.any fun kv => decide (kv.1 = k)) = true then kvs.map (fun kv => if kv.1 = k then (kv.1, d) else kv) else kvs ++ [(k, d)]
theorem kv_val {F : Hp} {k : Key} : ∀ {kvs : List (Key × D)} {ws : List (Key × V)}, KvAll K F ws kvs → (∀ d, valD kvs k = some d → ∃ v, valV ws k = some v ∧ Dp K F v d) ∧ (valD kvs k = none → valV ws k = none)
  | _, _, .nil => ⟨(fun d h => nomatch h), fun _ => rfl⟩
  | (k0, d0) :: kvs, (_, v0) :: ws, .cons h t => by
    obtain ⟨i1, i2⟩ := kv_val (k := k) t
    by_cases e : k0 = k
    · have e1 : valD ((k0, d0) :: kvs) k = some d0 := by simp [valD, List.find?_cons, e]
      have e2 : valV ((k0, v0) :: ws) k = some v0 := valV_pos (p := (k0, v0)) e
      rw [e1, e2]
      exact ⟨fun d q => by cases q; exact ⟨v0, rfl, h⟩, fun q => by cases q⟩
    · have e1 : valD ((k0, d0) :: kvs) k = valD kvs k := by simp [valD, List.find?_cons, e]
      have e2 : valV ((k0, v0) :: ws) k = valV ws k := valV_neg (p := (k0, v0)) e
      rw [e1, e2]
      exact ⟨i1, i2⟩
theorem kv_len {F : Hp} : ∀ {kvs : List (Key × D)} {ws : List (Key × V)}, KvAll K F ws kvs → ws.length = kvs.length
  | _, _, .nil => rfl
  | _, _, .cons _ t => by rw [List.length_cons, List.length_cons, kv_len t]
theorem kv_any {F : Hp} {k : Key} : ∀ {kvs : List (Key × D)} {ws : List (Key × V)}, KvAll K F ws kvs → (ws.any fun kv => decide (kv.1 = k)) = (kvs.any fun kv => decide (kv.1 = k))
  | _, _, .nil => rfl
  | _, _, .cons _ t => by rw [List.any_cons, List.any_cons, kv_any t]
theorem kv_map {F : Hp} {k : Key} {v : V} {d : D} (h : Dp K F v d) : ∀ {kvs : List (Key × D)} {ws : List (Key × V)}, KvAll K F ws kvs → KvAll K F (ws.map fun kv => if kv.1 = k then (kv.1, v) else kv) (kvs.map fun kv => if kv.1 = k then (kv.1, d) else kv)
  | _, _, .nil => .nil
  | (k0, d0) :: kvs, (_, v0) :: ws, .cons q t => by
    rw [List.map_cons, List.map_cons]
    by_cases e : k0 = k
    · rw [if_pos e, if_pos e]; exact .cons h (kv_map h t)
    · rw [if_neg e, if_neg e]; exact .cons q (kv_map h t)
theorem kv_snoc {F : Hp} {k : Key} {v : V} {d : D} (h : Dp K F v d) : ∀ {kvs : List (Key × D)} {ws : List (Key × V)}, KvAll K F ws kvs → KvAll K F (ws ++ [(k, v)]) (kvs ++ [(k, d)])
  | _, _, .nil => .cons h .nil
  | _, _, .cons q t => .cons q (kv_snoc h t)
theorem kv_put {F : Hp} {k : Key} {v : V} {d : D} (h : Dp K F v d) {kvs : List (Key × D)} {ws : List (Key × V)} (q : KvAll K F ws kvs) : KvAll K F (putK ws k v) (putD kvs k d) := by
  unfold putK putD
  rw [kv_any q]
  split
  · exact kv_map h q
  · exact kv_snoc h q
/-- a slot's own object -/
def isOwnS (i : Nat) {α : Type} (m : List Sl → Option α) : List Sl → Option α := fun ρ => match ρ[i]? with
  | some (.own _) => m ρ
  | some (.par _) => m ρ
  | _ => none
theorem isOwnS_at {α : Type} {g : Gh} {F H : Hp} {σ : St} {ρ : List Sl} {i : Nat} {m : List Sl → Option α} {p : α} (ok : Ok g F H σ ρ) (h : isOwnS i m ρ = some p) : m ρ = some p ∧ ∃ l, σ[i]? = some (some (.ref l)) := by
  unfold isOwnS at h
  cases hs : ρ[i]? with
  | none => rw [hs] at h; cases h
  | some s =>
    rw [hs] at h
    obtain ⟨ov, hv, hsl⟩ := ok.at hs
    cases s with
    | un => cases h
    | dat d => cases h
    | own o => obtain ⟨l, rfl, _⟩ := hsl; exact ⟨h, l, hv⟩
    | par o => obtain ⟨l, rfl, _⟩ := hsl; exact ⟨h, l, hv⟩
/-- the pairs of a slot's own dict -/
def dkAt (i : Nat) (ρ : List Sl) : Option (List (Key × D)) := match ρ[i]? with
  | some (.own (.dk kvs)) => some kvs
  | some (.par (.dk kvs)) => some kvs
  | _ => none
theorem dkAt_ok {g : Gh} {F H : Hp} {σ : St} {ρ : List Sl} {i : Nat} {kvs : List (Key × D)} {l : Addr} (ok : Ok g F H σ ρ) (hv : σ[i]? = some (some (.ref l))) (h : dkAt i ρ = some kvs) : ∃ ws, H l = some (.dK ws) ∧ KvAll g.K F ws kvs := by
  unfold dkAt at h
  cases hs : ρ[i]? with
  | none => rw [hs] at h; cases h
  | some s =>
    rw [hs] at h
    have hsl := ok.sl i s _ hs hv
    cases s with
    | un => cases h
    | dat d => cases h
    | own o =>
      cases o with
      | lst ds => cases h
      | dk kvs => obtain ⟨l', e, _, ⟨ws, h1, h2⟩, _⟩ := hsl; cases e; cases h; exact ⟨ws, h1, h2⟩
    | par o =>
      cases o with
      | lst ds => cases h
      | dk kvs => obtain ⟨l', e, _, ⟨ws, h1, h2⟩, _⟩ := hsl; cases e; cases h; exact ⟨ws, h1, h2⟩
/-- a key that is read -/
def keyAt (u : Vw) (ρ : List Sl) : Option Key := (rdD u ρ).bind toKey
/-- d[k] of a slot's own dict -/
def dgetA (i : Nat) (u : Vw) : M Vw := fun ρ => match keyAt u ρ with
  | none => none
  | some k => match dkAt i ρ with
    | none => none
    | some kvs => match valD kvs k with
      | none => none
      | some d => some (.ok (.dat d), ρ)
def mDGet (i : Nat) (mk : M Vw) : M Vw := isOwnS i (mBind mk (dgetA i))
theorem key_ok {H : Hp} {v : V} {d : D} {k : Key} (h : Dp K H v d) (e : toKey d = some k) : v = kV k := by
  cases d with
  | int i => cases h; cases e; rfl
  | str x => cases h; cases e; rfl
  | none => cases e
  | bool _ => cases e
  | list _ => cases e
  | tuple _ => cases e
  | dict _ => cases e
theorem qe_dget (i : Nat) {x : Str} {k : Expr} {tk : TE} {mk : M Vw} {p : Pos} (hu : X.A.units + 1 < cLine) (hk : QE X EW k tk mk) (hN : X.N[i]? = some x := by rfl) (hv : Vis X.env.scope x := by first | exact Or.inl rfl | exact Or.inr (Or.inl rfl) | exact Or.inr (Or.inr rfl)) (hd : (x == ("__debug__" : Str)) = false := by decide)
    (hcd : (x == ("__classdict__" : Str)) = false := by decide) (hs : NoSl k := by exact fun _ _ => rfl) : QE X EW (.Subscript (.Name x p) k pos) (tDGet (tVar i) tk) (mDGet i mk) := by
  refine ⟨pe_dget hu (pe_var hN hv hd hcd) hk.pe hs, fun g F H σ ρ hK ok r ρ' e Q q => ?_⟩
  obtain ⟨e1, l, hl⟩ := isOwnS_at ok e
  refine ⟨.ref l, hl, ?_⟩
  refine At.bind (EW := EW) (R2 := VwOk g σ) (k := fun y H2 Q => ∃ a v, V.ref l = .ref a ∧ DGet H2 a y (some v) ∧ Q v H2) (hk.sm g F H σ ρ hK ok) (fun F1 H1 ρ1 y u ex1 ok1 hy => ?_) r ρ' e1 Q q
  intro r ρ' e Q q
  unfold dgetA at e
  cases h1 : keyAt u ρ1 with
  | none => rw [h1] at e; cases e
  | some k =>
    rw [h1] at e
    simp only at e
    cases h2 : dkAt i ρ1 with
    | none => rw [h2] at e; cases e
    | some kvs =>
      rw [h2] at e
      simp only at e
      cases h3 : valD kvs k with
      | none => rw [h3] at e; cases e
      | some d =>
        rw [h3] at e
        cases e
        obtain ⟨ws, h4, h5⟩ := dkAt_ok ok1 hl h2
        obtain ⟨v, h6, h7⟩ := (kv_val h5).1 d h3
        unfold keyAt at h1
        cases hr : rdD u ρ1 with
        | none => rw [hr] at h1; cases h1
        | some kd =>
          rw [hr] at h1
          cases key_ok (rdD_ok ok1 hy hr) h1
          refine ⟨l, v, rfl, ?_, q F1 H1 (Ex.refl F1) ok1 v h7⟩
          have g0 := DGet.k (k := k) h4
          rw [h6] at g0
          exact g0
/-- x = {k: v, ..} with written keys and values -/
def litKV : List (D × D) → Option (List (Key × D))
  | [] => some []
  | (k, d) :: r => (toKey k).bind fun k => (litKV r).map ((k, d) :: ·)
def mergeD (kvs more : List (Key × D)) : List (Key × D) := more.foldl (fun acc kv => putD acc kv.1 kv.2) kvs
structure QC (X : Cx) (e : Expr) (v : V) (d : D) : Prop where
  pe : PE X e (tC v)
  dp : ∀ K F, Dp K F v d
theorem qc_int {i j} : QC X (.Constant (.int i) j pos) (.int i) (.int i) := ⟨pe_int, fun _ _ => .int i⟩
theorem qc_str {x j} : QC X (.Constant (.str x) j pos) (.str x) (.str x) := ⟨pe_str, fun _ _ => .str x⟩
theorem qc_bl {x j} : QC X (.Constant (.bool x) j pos) (.bl x) (.bool x) := ⟨pe_bl, fun _ _ => .bl x⟩
theorem qc_non {j} : QC X (.Constant .none j pos) .non .none := ⟨pe_non, fun _ _ => .non⟩
structure QPs (X : Cx) (pos : Pos) (ks : List (Option Expr)) (vs : List Expr) (trs : List (TE × TE)) (ps : List (Key × V)) (ds : List (Key × D)) : Prop where
  pp : PPs X pos ks vs trs
  rd : ∀ σ H (Q : List (V × V) → Hp → Prop), Q (ps.map fun kv => (kV kv.1, kv.2)) H → tPairs trs σ H Q
  kv : ∀ K F, KvAll K F ps ds
theorem qps_nil : QPs X pos [] [] [] [] [] := ⟨pps_nil, fun σ H Q q => q, fun _ _ => .nil⟩
theorem qps_cons {k v : Expr} {ks : List (Option Expr)} {vs : List Expr} {trs : List (TE × TE)} {ps : List (Key × V)} {ds : List (Key × D)} {ky : Key} {vv : V} {dk dv : D} (hk : QC X k (kV ky) dk) (hv : QC X v vv dv) (hr : QPs X pos ks vs trs ps ds) :
    QPs X pos (some k :: ks) (v :: vs) ((tC (kV ky), tC vv) :: trs) ((ky, vv) :: ps) ((ky, dv) :: ds) :=
  ⟨pps_cons hk.pe hv.pe hr.pp, fun σ H Q q => hr.rd σ H _ q, fun K F => .cons (hv.dp K F) (hr.kv K F)⟩
theorem kv_merge {F : Hp} : ∀ {more : List (Key × D)} {ms : List (Key × V)} {kvs : List (Key × D)} {ws : List (Key × V)}, KvAll K F ms more → KvAll K F ws kvs → KvAll K F (mergeK ws ms) (mergeD kvs more)
  | _, _, _, _, .nil, h => h
  | _, _, _, _, .cons q t, h => by
    unfold mergeK mergeD
    rw [List.foldl_cons, List.foldl_cons]
    exact kv_merge t (kv_put q h)
def mNewDk (i : Nat) (ds : List (Key × D)) : MS := asgO i (.dk (mergeD [] ds))
theorem qs_newDk (i : Nat) {x : Str} {ks : List (Option Expr)} {vs : List Expr} {trs : List (TE × TE)} {ps : List (Key × V)} {ds : List (Key × D)} {p p2 : Pos} (hN : X.N.Nodup) (h : QPs X p2 ks vs trs ps ds) (hi : X.N[i]? = some x := by rfl)
    (hx : Loc X.env.scope x := by first | exact Or.inl rfl | exact Or.inr rfl) (hall : ks.all (·.isSome) = true := by rfl) (hl : ks.length = vs.length := by rfl) (h0 : ks ≠ [] := by exact fun z => nomatch z) (h15 : ks.length ≤ 15 := by decide) (hp15 : ps.length ≤ 15 := by decide)
    (hs : swapsWith (.Dict ks vs p2) (some (.Name x p)) pos.line X.env = pure false := by rfl) (hf : X.fn x = true ∨ X.env.scope.names.lookup x = some .local := by first | exact .inl rfl | exact .inr rfl) :
    QS X EW (.Assign [.Name x p] (.Dict ks vs p2) pos) (tAsg (tDisp trs) (gName i)) (mNewDk i ds) := by
  refine ⟨ps_set hN hi hx (pe_disp h.pp hall hl h0 h15) hs hf, fun g F H σ ρ hK ok r ρ' e D q => ?_⟩
  intro P hP
  refine h.rd σ _ _ ?_
  obtain ⟨rfl, rfl⟩ := asgO_some e
  refine ⟨upd_same, ps, rfl, hp15, ?_⟩
  rw [upd_upd]
  exact q F _ _ (Ex.refl F) (ok.setO (o := .dk (mergeD [] ds)) hP ⟨mergeK [] ps, upd_same, kv_merge (h.kv g.K F) .nil⟩)
/-- x = {}, keys whole numbers or texts -/
theorem qs_newDk0 (i : Nat) {x : Str} {p p2 : Pos} (hN : X.N.Nodup) (hi : X.N[i]? = some x := by rfl) (hx : Loc X.env.scope x := by first | exact Or.inl rfl | exact Or.inr rfl)
    (hs : swapsWith (.Dict [] [] p2) (some (.Name x p)) pos.line X.env = pure false := by rfl) (hf : X.fn x = true ∨ X.env.scope.names.lookup x = some .local := by first | exact .inl rfl | exact .inr rfl) :
    QS X EW (.Assign [.Name x p] (.Dict [] [] p2) pos) (tAsg tDNewK (gName i)) (asgO i (.dk [])) := by
  refine ⟨ps_set hN hi hx pe_dnewK hs hf, fun g F H σ ρ hK ok r ρ' e D q => ?_⟩
  intro P hP
  obtain ⟨rfl, rfl⟩ := asgO_some e
  exact q F _ _ (Ex.refl F) (ok.setO (o := .dk []) hP ⟨[], upd_same, .nil⟩)
/-- d[k] = e -/
def dputA (i : Nat) (d : D) (u : Vw) : MS := fun ρ => match keyAt u ρ with
  | none => none
  | some k => match ρ[i]? with
    | some (.own (.dk kvs)) => if kvs.length < BIG then some (.nx, ρ.set i (.own (.dk (putD kvs k d)))) else none
    | some (.par (.dk kvs)) => if kvs.length < BIG then some (.nx, ρ.set i (.par (.dk (putD kvs k d)))) else none
    | _ => none
def mDPut (i : Nat) (mk ma : M Vw) : MS := mThen ma fun w => mThen (frc w) fun d => isOwnS i (mThen mk fun u => dputA i d u)
theorem qs_dput (i : Nat) {x : Str} {k e : Expr} {tk te : TE} {mk ma : M Vw} {p p2 : Pos} (hu : X.A.units + 1 < cLine) (h : QE X EW e te ma) (hk : QE X EW k tk mk) (hN : X.N[i]? = some x := by rfl) (hv : Vis X.env.scope x := by first | exact Or.inl rfl | exact Or.inr (Or.inl rfl) | exact Or.inr (Or.inr rfl)) (hd : (x == ("__debug__" : Str)) = false := by decide)
    (hcd : (x == ("__classdict__" : Str)) = false := by decide) (hs : swapsWith e (some (.Subscript (.Name x p) k p2)) pos.line X.env = pure false := by rfl) :
    QS X EW (.Assign [.Subscript (.Name x p) k p2] e pos) (sDPut (tVar i) tk te) (mDPut i mk ma) := by
  refine ⟨ps_dput hu (pe_var hN hv hd hcd) hk.pe h.pe hs, ?_⟩
  refine then_sm (R := VwOk) (k := fun D σ v H1 => tVar i σ H1 fun x H2 => tk σ H2 fun y H3 => ∃ a H4, x = .ref a ∧ DPut H3 a y v H4 ∧ D.nx σ H4) h.sm fun g F H σ ρ v w hK ok hy r ρ' e D q => ?_
  obtain ⟨d, F1, ρ1, ex1, ok1, hd1, e1⟩ := frcS ok hy e
  obtain ⟨e2, l, hv⟩ := isOwnS_at ok1 e1
  refine ⟨.ref l, hv, ?_⟩
  unfold mThen at e2
  cases hm : mk ρ1 with
  | none => rw [hm] at e2; cases e2
  | some p =>
    obtain ⟨r1, ρ2⟩ := p
    rw [hm] at e2
    cases r1 with
    | er c =>
      cases e2
      exact hk.sm g F1 H σ ρ1 hK ok1 _ _ hm _ fun F' H' ex ok' => q F' H' σ (ex1.trans ex) ok'
    | ok u =>
      refine hk.sm g F1 H σ ρ1 hK ok1 _ _ hm _ fun F2 H2 ex2 ok2 y hy => ?_
      have e2 : dputA i d u ρ2 = some (r, ρ') := e2
      unfold dputA at e2
      cases h1 : keyAt u ρ2 with
      | none => rw [h1] at e2; cases e2
      | some k =>
        rw [h1] at e2
        simp only at e2
        have hkey : y = kV k := by
          unfold keyAt at h1
          cases hr : rdD u ρ2 with
          | none => rw [hr] at h1; cases h1
          | some kd =>
            rw [hr] at h1
            exact key_ok (rdD_ok ok2 hy hr) h1
        subst hkey
        cases hsl : ρ2[i]? with
        | none => rw [hsl] at e2; cases e2
        | some s =>
          rw [hsl] at e2
          have so := ok2.sl i s _ hsl hv
          cases s with
          | un => cases e2
          | dat d => cases e2
          | own o =>
            cases o with
            | lst ds => cases e2
            | dk kvs =>
              simp only at e2
              split at e2
              · rename_i hz
                cases e2
                obtain ⟨l', z1, _, ⟨ws, h3, h4⟩, _⟩ := so
                cases z1
                exact ⟨l, _, rfl, DPut.k h3 (by rw [kv_len h4]; exact big_lt (Nat.le_of_lt hz)), q F2 _ σ (ex1.trans ex2) (ok2.mutO hsl hv (.inl ⟨_, rfl, rfl⟩) ⟨_, upd_same, kv_put (dpE ex2 _ _ hd1) h4⟩)⟩
              · cases e2
          | par o =>
            cases o with
            | lst ds => cases e2
            | dk kvs =>
              simp only at e2
              split at e2
              · rename_i hz
                cases e2
                obtain ⟨l', z1, _, ⟨ws, h3, h4⟩, _⟩ := so
                cases z1
                exact ⟨l, _, rfl, DPut.k h3 (by rw [kv_len h4]; exact big_lt (Nat.le_of_lt hz)), q F2 _ σ (ex1.trans ex2) (ok2.mutO hsl hv (.inr ⟨_, rfl, rfl⟩) ⟨_, upd_same, kv_put (dpE ex2 _ _ hd1) h4⟩)⟩
              · cases e2
end
end Dat
namespace Dat
open PySem L2 PyProof.Rows PySem.Spec
/-! ### sets of whole numbers or texts (after the kit's sets of ints) -/
def KeyE (w : World) (k : Key) (e : Int × Value) : Prop := keyIs k e.2 = true ∧ e.1 = keyH w k
theorem keyE_one {w : World} {k j : Key} {e : Int × Value} (h : KeyE w k e) (q : keyIs j e.2 = true) : j = k := (mixKind default w).inj e.2 j k q h.1
theorem key_scans {k : Key} {v : Value} (h : keyIs k v = true) : v.scannable = true := by
  rcases keyIs_shape h with ⟨i, t, rfl, rfl⟩ | ⟨x, t, rfl, rfl⟩ <;> rfl
/-- the set at a holds just these keys, each once -/
def SetX (w : World) (h : Heap) (a : Addr) (ks : List Key) : Prop :=
  ∃ o es ep t, h.get? a = some o ∧ o.ExactSet ∧ o.data = .set es ep t ∧ (∃ js : List Key, Paired (KeyE w) js es.toList ∧ js.Perm ks) ∧ ks.Nodup ∧
    es.size < scanBound ∧ t.fits es.size = true ∧ Ris t.place.toList ∧ (w.params.followText "set-order" = true ∨ t.led = true)
theorem paired_mem {α β : Type} {F : α → β → Prop} : ∀ {xs : List α} {ys : List β}, Paired F xs ys → ∀ y ∈ ys, ∃ x ∈ xs, F x y
  | _, _, .nil, y, h => by cases h
  | _, _, .cons r t, y, h => by
    rcases List.mem_cons.mp h with rfl | h
    · exact ⟨_, List.mem_cons_self, r⟩
    · obtain ⟨x, h1, h2⟩ := paired_mem t y h
      exact ⟨x, List.mem_cons_of_mem _ h1, h2⟩
theorem paired_mem' {α β : Type} {F : α → β → Prop} : ∀ {xs : List α} {ys : List β}, Paired F xs ys → ∀ x ∈ xs, ∃ y ∈ ys, F x y
  | _, _, .nil, y, h => by cases h
  | _, _, .cons r t, y, h => by
    rcases List.mem_cons.mp h with rfl | h
    · exact ⟨_, List.mem_cons_self, r⟩
    · obtain ⟨x, h1, h2⟩ := paired_mem' t y h
      exact ⟨x, List.mem_cons_of_mem _ h1, h2⟩
/-- the other list in another order -/
theorem paired_perm {α β : Type} {F : α → β → Prop} {ys zs : List β} (p : ys.Perm zs) : ∀ {xs : List α}, Paired F xs ys → ∃ ws, ws.Perm xs ∧ Paired F ws zs := by
  induction p with
  | nil => exact fun h => ⟨_, .refl _, h⟩
  | cons x _ ih =>
    intro xs h
    cases h with
    | cons r t =>
      obtain ⟨ws, h1, h2⟩ := ih t
      exact ⟨_ :: ws, h1.cons _, .cons r h2⟩
  | swap x y l =>
    intro xs h
    cases h with
    | cons r t =>
      cases t with
      | cons r2 t2 => exact ⟨_ :: _ :: _, .swap _ _ _, .cons r2 (.cons r t2)⟩
  | trans _ _ ih1 ih2 =>
    intro xs h
    obtain ⟨ws, h1, h2⟩ := ih1 h
    obtain ⟨us, h3, h4⟩ := ih2 h2
    exact ⟨us, h3.trans h1, h4⟩
theorem paired_len {α β : Type} {F : α → β → Prop} : ∀ {xs : List α} {ys : List β}, Paired F xs ys → xs.length = ys.length
  | _, _, .nil => rfl
  | _, _, .cons _ t => by rw [List.length_cons, List.length_cons, paired_len t]
section
variable {P : Program} {w : World} {A : Around} {E : Value → Shared → Prop} {s : Shared} {a : Addr} {ks : List Key}
theorem elemsX {js : List Key} {es : List (Int × Value)} (h : Paired (KeyE w) js es) : ElemsOf (mixKind P w) es := fun e he => by
  obtain ⟨k, _, h1, h2⟩ := paired_mem h e he
  exact ⟨⟨k, h1, h2⟩, key_scans h1⟩
theorem setX_size {h : Heap} (R : SetX w h a ks) : ∀ o es ep t, h.get? a = some o → o.data = .set es ep t → es.size = ks.length := fun o es ep t ho hd => by
  obtain ⟨o', es', ep', t', ho', _, hd', ⟨js, h1, h2⟩, _⟩ := R
  rw [ho] at ho'; cases ho'
  rw [hd] at hd'; cases hd'
  rw [← h2.length_eq, paired_len h1, Array.length_toList]
theorem SetX.keep {h h' : Heap} (R : SetX w h a ks) (k : ∀ o, h.get? a = some o → h'.get? a = some o) : SetX w h' a ks := by
  obtain ⟨o, es, ep, t, ho, r⟩ := R
  exact ⟨o, es, ep, t, k o ho, r⟩
theorem tailX {g : Bool → Sem Unit} (hg : ∀ (b : Bool) (s₁ : Shared) (Q' : Unit → Shared → Prop), Q' () s₁ → wpAny (model P w) A (g b) Q' E s₁)
    {o : Obj} {es : Array (Int × Value)} {ep : Nat} {t : SetTable} (ho : s.heap.get? a = some o) (hex : o.ExactSet) (hd : o.data = .set es ep t)
    {es1 : Array (Int × Value)} {t2 : SetTable} {js : List Key} (g1 : Paired (KeyE w) js es1.toList) (p1 : js.Perm ks) (nd : ks.Nodup) (hb1 : es1.size < scanBound) (hf2 : t2.fits es1.size = true) (hr : Ris t2.place.toList)
    (hl : w.params.followText "set-order" = true ∨ t2.led = true) {wasDummy : Bool} {R : Option Bool → Shared → Prop} (hR : ∀ h', Heap.SameBut a s.heap h' → SetX w h' a ks → R (some true) { s with heap := h' }) :
    wpAny (model P w) A (do
        storeSet a es1 t2
        if (!wasDummy && t2.tooFull) = true then do
            g (relayAll t2 es1 (SetTable.grown es1.size)).2.2
            storeSet a (relayAll t2 es1 (SetTable.grown es1.size)).1 (relayAll t2 es1 (SetTable.grown es1.size)).2.1
            pure (some true)
          else pure (some true)) R E s := by
  refine wpAny_bind (wpAny_storeSet_of ho hd ?_ (fits_of_scanBound hb1))
  have o1 := store_at (es' := es1) (t' := t2) ho hd
  have b1 := Heap.SameBut.update s.heap a (Obj.putSet es1 t2)
  split
  · have q1 := relayAll_perm t2 es1 (SetTable.grown es1.size)
    have q2 := relayAll_fits t2 es1 (SetTable.grown es1.size)
    have q3 := relayAll_ris t2 es1 (SetTable.grown es1.size)
    have q4 := relayAll_led t2 es1 (SetTable.grown es1.size)
    generalize relayAll t2 es1 (SetTable.grown es1.size) = Z at q1 q2 q3 q4 ⊢
    obtain ⟨es2, t3, gave⟩ := Z
    dsimp only at q1 q2 q3 q4 ⊢
    have z1 : es2.size = es1.size := by rw [← Array.length_toList, q1.length_eq, Array.length_toList]
    have z2 : es2.size < scanBound := by rw [z1]; exact hb1
    refine wpAny_bind (hg _ _ _ ?_)
    refine wpAny_bind (wpAny_storeSet_of o1 rfl ?_ (fits_of_scanBound z2))
    have o2 := store_at (es' := es2) (t' := t3) o1 rfl
    obtain ⟨ls, l1, l2⟩ := paired_perm q1.symm g1
    exact wpAny_pure (hR _ (b1.trans (Heap.SameBut.update _ a _)) ⟨_, es2, _, t3, o2, hex, rfl, ⟨ls, l2, l1.trans p1⟩, nd, z2, q2, q3, hl.imp id fun z => by rw [q4]; exact z⟩)
  · exact wpAny_pure (hR _ b1 ⟨_, es1, _, t2, o1, hex, rfl, ⟨js, g1, p1⟩, nd, hb1, hf2, hr, hl⟩)
/-- the key k into the keys so far -/
def addK (ks : List Key) (k : Key) : List Key := if (ks.any fun j => decide (j = k)) = true then ks else ks ++ [k]
theorem any_key (ks : List Key) (k : Key) : (ks.any fun j => decide (j = k)) = true ↔ k ∈ ks := by
  rw [List.any_eq_true]
  constructor
  · rintro ⟨j, h1, h2⟩
    have := of_decide_eq_true h2
    subst this; exact h1
  · intro h; exact ⟨k, h, decide_eq_true rfl⟩
theorem addHX {k : Key} {v : Value} (hk : keyIs k v = true) {Q : Bool → Shared → Prop} (R : SetX w s.heap a ks) (room : ks.length + 1 < scanBound)
    (hQ : ∀ b h', Heap.SameBut a s.heap h' → SetX w h' a (addK ks k) → Q b { s with heap := h' }) : wpAny (model P w) A (setAddHashed a v (keyH w k)) Q E s := by
  have hz := fun o es ep t h1 h2 => setX_size R o es ep t h1 h2
  have R0 := R
  obtain ⟨o, es, ep, t, ho, hex, hd, ⟨js, g, pj⟩, nd, hb, hf, hr, hl⟩ := R
  have hn := hz o es ep t ho hd
  have hkey : (mixKind P w).is k v = true := hk
  have hsc : v.scannable = true := key_scans hk
  have hel : ElemsOf (mixKind P w) es.toList := elemsX g
  show wpAny (model P w) A (setAddHashed a v ((mixKind P w).hash k)) Q E s
  unfold setAddHashed setAddHashedIn
  refine wpAny_holding (wpAny_bind (wpAny_setState_of ho hd hf ?_))
  dsimp only
  rw [byScan_of hsc hb hel]
  simp only [↓reduceIte]
  unfold setAddByScan
  refine wpAny_bind ?_
  refine wpAny_bind (wpAny_rule ?_)
  refine wpAny_bind (wpAny_setScan_of hkey ho hd hf hel ?_)
  cases hfi : List.findIdx? (fun e => (mixKind P w).is k e.2) es.toList with
  | some j =>
    dsimp only
    obtain ⟨hj, pj', _⟩ := List.findIdx?_eq_some_iff_getElem.mp hfi
    have hin : k ∈ ks := by
      obtain ⟨k', h1, h2⟩ := paired_mem g es.toList[j] (List.getElem_mem hj)
      have e : k = k' := keyE_one h2 pj'
      rw [e]; exact pj.mem_iff.mp h1
    refine wpAny_pure (wpAny_pure (hQ _ s.heap (Heap.SameBut.refl a s.heap) ?_))
    unfold addK
    rw [if_pos ((any_key ks k).mpr hin)]
    exact R0
  | none =>
    dsimp only
    have hnk : k ∉ ks := fun z => by
      obtain ⟨e, he, q⟩ := paired_mem' g k (pj.mem_iff.mpr z)
      have c := List.findIdx?_eq_none_iff.mp hfi e he
      have q1 : (mixKind P w).is k e.2 = true := q.1
      rw [q1] at c; cases c
    have ea : addK ks k = ks ++ [k] := by unfold addK; rw [if_neg fun c => hnk ((any_key ks k).mp c)]
    have hgw : ∀ (b : Bool) {s₁ : Shared} {Q' : Unit → Shared → Prop}, Q' () s₁ → wpAny (model P w) A (match b with | true => rule "set.scan.the-table-gave-way" | false => pure ()) Q' E s₁ :=
      fun b s₁ Q' q => by cases b <;> first | exact wpAny_pure q | exact wpAny_rule q
    have q1 := layNew_perm t es ((mixKind P w).hash k) v
    have q2 := layNew_fits t es ((mixKind P w).hash k) v
    have q3 := layNew_ris t es ((mixKind P w).hash k) v hr
    have q4 := layNew_led t es ((mixKind P w).hash k) v
    generalize layNew t es ((mixKind P w).hash k) v = Z at q1 q2 q3 q4 ⊢
    obtain ⟨es1, t1, wasDummy, gave⟩ := Z
    dsimp only at q1 q2 q3 q4 ⊢
    rw [Array.toList_push] at q1
    have q5 : es1.toList.Perm (((mixKind P w).hash k, v) :: es.toList) := q1.trans (List.perm_append_singleton _ _)
    obtain ⟨ls, l1, l2⟩ := paired_perm q5.symm (.cons ⟨hk, rfl⟩ g : Paired (KeyE w) (k :: js) (((mixKind P w).hash k, v) :: es.toList))
    have pk : ls.Perm (ks ++ [k]) := l1.trans ((pj.cons k).trans (List.perm_append_singleton k ks).symm)
    have nd1 : (ks ++ [k]).Nodup := (List.perm_append_singleton k ks).nodup_iff.mpr (List.nodup_cons.mpr ⟨hnk, nd⟩)
    have hsz : es1.size = ks.length + 1 := by rw [← Array.length_toList, q5.length_eq, List.length_cons, Array.length_toList, hn]
    have hb1 : es1.size < scanBound := by rw [hsz]; exact room
    have hled : w.params.followText "set-order" = true ∨ t1.led = true := hl.imp id fun z => by rw [q4]; exact z
    rw [ea] at hQ
    refine wpAny_bind (hgw _ ?_)
    split
    · refine wpAny_bind ?_
      rw [hashByValue_scannable 8 hsc]
      refine wpAny_pure ?_
      refine tailX ?_ ho hex hd l2 pk nd1 hb1 ?_ ?_ ?_ ?_
      · intro b s₁ Q' q; cases b <;> first | exact wpAny_pure q | exact wpAny_rule q
      · first | (split <;> first | exact q2 | exact SetTable.fits_plain_off q2) | exact q2
      · first | (split <;> exact q3) | exact q3
      · first | (split <;> exact hled) | exact hled
      · intro h' sb r; dsimp only; exact wpAny_pure (hQ _ h' sb r)
    · refine wpAny_bind (wpAny_pure ?_)
      simp only [↓reduceIte]
      refine tailX ?_ ho hex hd l2 pk nd1 hb1 q2 q3 hled ?_
      · intro b s₁ Q' q; cases b <;> first | exact wpAny_pure q | exact wpAny_rule q
      · intro h' sb r; dsimp only; exact wpAny_pure (hQ _ h' sb r)
theorem addK_len (ks : List Key) (k : Key) : (addK ks k).length ≤ ks.length + 1 := by
  unfold addK
  split
  · omega
  · simp
theorem fold_len : ∀ (ks ls : List Key), (ls.foldl addK ks).length ≤ ks.length + ls.length
  | ks, [] => by simp
  | ks, l :: ls => by
    have h1 := fold_len (addK ks l) ls
    have h2 := addK_len ks l
    rw [List.foldl_cons, List.length_cons]
    omega
theorem loopX {I : Addr} {fp wr : List Addr} {G : Array GenState → Array GenState → Prop} {n : Nat} {Pv : Nat → Value → Prop} {St : Nat → Shared → Prop} {R : Result → Shared → Prop}
    (W : WalksS P w A.in1 I fp wr G n Pv St) (S : Addr) (hSf : S ∉ fp) (ns : List Key) (hn : n = ns.length) (hb : ns.length + 1 < scanBound) (hval : ∀ i v, Pv i v → ∃ k, ns[i]? = some k ∧ keyIs k v = true) :
    ∀ (k i : Nat) (s : Shared), n - i = k → i ≤ n → St i s → SetX w s.heap S ((ns.take i).foldl addK []) →
      (∀ s', Moved (S :: wr) G s s' → SetX w s'.heap S (ns.foldl addK []) → R (.ok (.ret .none)) s') →
      codeAny (model P w) A (.builtin "set.update.loop" ⟨[.ref S, .ref I], []⟩) R s := by
  have hSw : S ∉ wr := fun h => hSf (W.sub _ h)
  have hsub : ∀ b ∈ wr, b ∈ S :: wr := fun b hb => List.mem_cons_of_mem _ hb
  intro k
  induction k with
  | zero =>
    intro i s hk' hi hst hS hR
    have hin : i = n := by omega
    subst hin
    refine codeAny_builtin PyProof.Rows.F.entry_set_update_loop ?_
    rw [Around.under_plainId PyProof.Rows.F.plain_set_update_loop _]
    show wpAny _ A.in1 (pyNext (.ref I) >>= _) _ _ s
    refine wpAny_bind (W.done s _ _ hst fun s' hm => ?_)
    show wpAny _ A.in1 (ret Value.none) _ _ s'
    have e : ns.take i = ns := List.take_of_length_le (by omega)
    rw [e] at hS
    exact wpAny_pure (hR s' (hm.mono hsub) (hS.keep fun o e => hm.heap S o hSw e))
  | succ k ih =>
    intro i s hk' hi hst hS hR
    have hlt : i < n := by omega
    refine codeAny_builtin PyProof.Rows.F.entry_set_update_loop ?_
    rw [Around.under_plainId PyProof.Rows.F.plain_set_update_loop _]
    show wpAny _ A.in1 (pyNext (.ref I) >>= _) _ _ s
    refine wpAny_bind (W.item i s _ _ hlt hst fun v s' hP hst' hm => ?_)
    obtain ⟨z, hz, hkz⟩ := hval i v hP
    have hS' : SetX w s'.heap S ((ns.take i).foldl addK []) := hS.keep fun o e => hm.heap S o hSw e
    show wpAny _ A.in1 (holding [v] (setAdd S v) >>= _) _ _ s'
    refine wpAny_bind (wpAny_holding ?_)
    unfold setAdd
    refine wpAny_holding ?_
    refine wpAny_bind ((mixKind P w).pyHash (k := z) hkz ?_)
    have hlen : ((ns.take i).foldl addK []).length + 1 < scanBound := by
      have h1 := fold_len [] (ns.take i)
      rw [List.length_take] at h1
      simp only [List.length_nil] at h1
      omega
    refine addHX (s := { s' with toks := s'.toks + 1 }) hkz hS' hlen fun b h' hsb hS2 => ?_
    have hS3 : SetX w h' S ((ns.take (i + 1)).foldl addK []) := by
      rw [List.take_add_one, hz, List.foldl_append]
      exact hS2
    refine wpAny_pure ⟨plainId_quiet PyProof.Rows.F.plain_set_update_loop _, ih (i + 1) _ (by omega) hlt (W.frame _ s' _ _ hst' (Nat.le_succ _) fun b hb o e => ?_) hS3 fun s'' hm'' hS'' => ?_⟩
    · rw [hsb.2 b (fun h : b = S => hSf (by rw [← h]; exact hb))]; exact e
    · refine hR s'' (Moved.trans W.gtrans ((hm.mono hsub).then_heap (Nat.le_succ _) fun b o hb e => ?_) hm'') hS''
      rw [hsb.2 b (fun h : b = S => hb (by rw [h]; exact List.mem_cons_self))]; exact e
abbrev freshSet (w : World) : Obj := { cls := .type "set", dict := none, data := .set #[] 0 (.fresh 0 0 (!w.params.followText "set-order")) }
theorem newX {h : Heap} (ho : h.get? a = some (freshSet w)) : SetX w h a [] :=
  ⟨_, #[], 0, _, ho, ⟨rfl, rfl, rfl⟩, rfl, ⟨[], .nil, .refl _⟩, .nil, (by decide), (by rfl), List.Pairwise.nil, by
    show _ ∨ (!w.params.followText "set-order") = true
    cases w.params.followText "set-order"
    · exact .inr rfl
    · exact .inl rfl⟩
set_option maxHeartbeats 8000000 in
/-- set(l) of a list -/
theorem setOfListX {l : Addr} {items : Array Value} (ns : List Key) {Q : Value → Shared → Prop} (hh : A.handled = none) (hl : s.heap.IsList l items) (hit : Paired (fun k v => keyIs k v = true) ns items.toList) (hb : ns.length + 1 < scanBound)
    (h : ∀ (h' : Heap) (tk : Nat), SetX w h' s.heap.objs.size (ns.foldl addK []) → (∀ b o, s.heap.get? b = some o → h'.get? b = some o) → Q (.ref s.heap.objs.size) { s with heap := h', toks := tk }) :
    wpAny (model P w) A (call (.type "set") [.ref l]) Q E s := by
  have hisz : items.size = ns.length := by
    have q := paired_len hit
    rw [Array.length_toList] at q
    exact q.symm
  obtain ⟨c, tl, hmro⟩ := PySem.F.called_set.mro
  have hmade := PySem.F.called_set.made
  have hsub := PySem.F.called_set.sub
  refine wpAny_call (codeAny_of_tree ?_)
  show wpAny _ _ (callAny (.type "set") _) _ _ _
  refine wpAny_pure ⟨Code.quiet_builtin _ (by decide +kernel), codeAny_builtin PySem.F.entry_type_call ?_⟩
  rw [Around.under_plain (weight_type_call_type "set" [.ref l] []) rfl]
  have h1 := PySem.F.called_set.notType
  have h2 := PySem.F.called_set.canCreate
  have hct := PySem.F.typeCall_set_1 (.ref l)
  repeat (any_goals (first | assumption | wp_step))
  refine codeAny_mono (code_set_led1 (.ref l) (E := E) (Q₁ := fun obj s₁ => obj = .ref s.heap.objs.size ∧ s₁ = { s with heap := s.heap.push (freshSet w) }) ⟨rfl, rfl⟩) fun r s₁ hr => ?_
  cases r with
  | error e => exact hr
  | ok fl =>
    cases fl with
    | ret obj =>
      obtain ⟨rfl, rfl⟩ := hr
      have hS : (s.heap.push (freshSet w)).get? s.heap.objs.size = some (freshSet w) := Heap.get?_push_size _ rfl
      have hT : Shared.TypeIs { s with heap := s.heap.push (freshSet w) } (.ref s.heap.objs.size) "set" := ⟨_, hS, rfl⟩
      have hli := PySem.F.called_set.init.lookup
      have hbi := PySem.F.called_set.init.bind (.ref s.heap.objs.size)
      repeat (any_goals (first | assumption | wp_step))
      refine codeAny_mono (codeAny_call_builtin (R := wants (fun r s₂ => r = .none ∧ ∃ h' tk, s₂ = { s with heap := h', toks := tk } ∧ SetX w h' s.heap.objs.size (ns.foldl addK []) ∧
          (∀ b o, s.heap.get? b = some o → h'.get? b = some o)) E) PySem.F.called_set.init.plain PySem.F.entry_set_init (check_set_init_1 hT ?_)) fun r₂ s₂ hr₂ => ?_
      · obtain ⟨ol, hol, hcl, nl, hdl⟩ := hl
        obtain ⟨ocls, odict, odata, oslots⟩ := ol
        simp only at hcl hdl
        subst hcl; subst hdl
        have hol' : (s.heap.push (freshSet w)).get? l = some { cls := .type "list", dict := odict, data := .seq items nl, slots := oslots } := Heap.get?_push_of_some _ hol
        have hsls := PySem.F.sub_list_set
        have hslf := PySem.F.sub_list_frozenset
        have hne : (Value.type "list" == Value.type "dict") = false := by decide
        have hl1 : (s.heap.push (freshSet w)).IsList l items := ⟨_, hol', rfl, nl, rfl⟩
        unfold Builtin.«set.__init__» noKeywords Builtin.Frozenset.updateFrom
        generalize hPI : pyIter = PI
        wp_walk
        subst hPI
        refine wpAny_pyIter_list hl1 ?_
        refine wpAny_bind (wpAny_runValue ?_)
        have hlS : l < s.heap.objs.size := Heap.lt_size hol
        have hh3 : A.in1.in1.in1.handled = none := by simp [hh]
        have hneI : l ≠ (s.heap.push (freshSet w)).objs.size := by
          rw [Heap.size_push]; exact Nat.ne_of_lt (Nat.lt_succ_of_lt hlS)
        have hSf : s.heap.objs.size ∉ [(s.heap.push (freshSet w)).objs.size, l] := by
          rw [Heap.size_push]; simp only [List.mem_cons, List.mem_singleton, List.not_mem_nil, or_false, not_or]
          exact ⟨Nat.ne_of_lt (Nat.lt_succ_self _), Nat.ne_of_gt hlS⟩
        have hval : ∀ (i : Nat) (v : Value), items[i]? = some v → ∃ k, ns[i]? = some k ∧ keyIs k v = true := fun i v hv => by
          have hi : i < ns.length := by rw [← hisz]; exact (Array.getElem?_eq_some_iff.mp hv).1
          obtain ⟨b, e1, e2⟩ := paired_get hit (List.getElem?_eq_getElem hi)
          rw [Array.getElem?_toList, hv] at e1
          cases e1
          exact ⟨_, List.getElem?_eq_getElem hi, e2⟩
        refine loopX ((Walks.list hh3 _ l hneI items).toS) s.heap.objs.size hSf ns hisz hb hval (items.size - 0) 0 _ (by omega) (Nat.zero_le _) ⟨⟨_, Heap.get?_push_size _ rfl, rfl, rfl⟩, (hl1.push _)⟩ ?hS0 ?hR
        case hS0 => exact newX (Heap.get?_push_of_some _ hS)
        case hR =>
          intro s' hm hS'
          obtain ⟨h', g2, d', tk', os'⟩ := s'
          have eg : g2 = s.gens := hm.gens
          have ed : d' = s.drawn := hm.drawn
          have eo : os' = s.os := hm.os
          subst eg; subst ed; subst eo
          show wpAny _ _ _ _ _ _
          refine wpAny_pure ?_
          show wpAny _ _ (ret Value.none) _ _ _
          refine wpAny_pure ⟨rfl, h', tk', rfl, hS', fun b o e => ?_⟩
          have hb0 : b < s.heap.objs.size := Heap.lt_size e
          have hb1 : b ≠ s.heap.objs.size := Nat.ne_of_lt hb0
          have hb2 : b ≠ (s.heap.push (freshSet w)).objs.size := by
            rw [Heap.size_push]; exact Nat.ne_of_lt (Nat.lt_succ_of_lt hb0)
          exact hm.heap b o (by simp only [List.mem_cons, List.mem_singleton, List.not_mem_nil, or_false, not_or]; exact ⟨hb1, hb2⟩) (Heap.get?_push_of_some _ (Heap.get?_push_of_some _ e))
      · cases r₂ with
        | error e => exact hr₂
        | ok fl₂ =>
          cases fl₂ with
          | ret r =>
            obtain ⟨rfl, h', tk, rfl, hS', hk'⟩ := hr₂
            repeat (any_goals (first | assumption | wp_step))
            exact h _ _ hS' hk'
          | _ => exact hr₂.elim
    | _ => exact hr.elim
end
end Dat
namespace Dat
open PySem L2 PyProof.Rows PySem.Spec
/-! ### texts in order -/
def leS (a b : Str) : Bool := !ltCps b.cps.toList a.cps.toList
theorem leS_le {a b : Str} : leS a b = true ↔ a.cps.toList ≤ b.cps.toList := by
  unfold leS
  rw [ltCps_eq]
  simp [List.not_lt]
theorem leS_total (a b : Str) : leS a b = true ∨ leS b a = true := by
  rw [leS_le, leS_le]; exact List.le_total _ _
theorem leS_trans {a b c : Str} (h : leS a b = true) (k : leS b c = true) : leS a c = true := by
  rw [leS_le] at *; exact List.le_trans h k
theorem leS_anti (a b : Str) (h : leS a b = true) (k : leS b a = true) : a = b := by
  rw [leS_le] at *
  exact Str.ext' (Array.toList_inj.mp (List.le_antisymm h k))
def insS (n : Str) : List Str → List Str
  | [] => [n]
  | m :: r => if leS n m = true then n :: m :: r else m :: insS n r
def sortS : List Str → List Str
  | [] => []
  | n :: r => insS n (sortS r)
theorem insS_perm (n : Str) : ∀ r, (insS n r).Perm (n :: r)
  | [] => .refl _
  | m :: r => by
    unfold insS
    split
    · exact .refl _
    · exact ((insS_perm n r).cons m).trans (.swap n m r)
theorem sortS_perm : ∀ r, (sortS r).Perm r
  | [] => .refl _
  | n :: r => (insS_perm n _).trans ((sortS_perm r).cons n)
theorem insS_le (n : Str) : ∀ r : List Str, r.Pairwise (fun a b => leS a b = true) → (insS n r).Pairwise (fun a b => leS a b = true)
  | [], _ => by unfold insS; exact List.pairwise_singleton _ _
  | m :: r, h => by
    have h' := List.pairwise_cons.mp h
    unfold insS
    split
    · rename_i hn
      refine List.pairwise_cons.mpr ⟨fun y hy => ?_, h⟩
      rcases List.mem_cons.mp hy with rfl | hy
      · exact hn
      · exact leS_trans hn (h'.1 y hy)
    · rename_i hn
      refine List.pairwise_cons.mpr ⟨fun y hy => ?_, insS_le n r h'.2⟩
      rcases List.mem_cons.mp ((insS_perm n r).mem_iff.mp hy) with rfl | hy
      · rcases leS_total y m with h1 | h1
        · exact absurd h1 hn
        · exact h1
      · exact h'.1 y hy
theorem sortS_le : ∀ r, (sortS r).Pairwise (fun a b => leS a b = true)
  | [] => List.Pairwise.nil
  | n :: r => insS_le n _ (sortS_le r)
theorem sortS_eq {ns ms : List Str} (p : ns.Perm ms) (h : ns.Pairwise (fun a b => leS a b = true)) : ns = sortS ms :=
  perm_le_eq (le := fun a b => leS a b = true) leS_anti (p.trans (sortS_perm ms).symm) h (sortS_le ms)
theorem risingS_pair : ∀ (l : List Str) (x : Str), risingS x l = true → (x :: l).Pairwise (fun a b => leS a b = true)
  | [], x, _ => List.pairwise_singleton _ _
  | y :: r, x, h => by
    have h : (!ltCps y.cps.toList x.cps.toList && risingS y r) = true := h
    rw [Bool.and_eq_true] at h
    have h1 : leS x y = true := h.1
    have h2 := risingS_pair r y h.2
    refine List.pairwise_cons.mpr ⟨fun z hz => ?_, h2⟩
    rcases List.mem_cons.mp hz with rfl | hz
    · exact h1
    · exact leS_trans h1 ((List.pairwise_cons.mp h2).1 z hz)
theorem sortedS_pair : ∀ (l : List Str), sortedS l = true → l.Pairwise (fun a b => leS a b = true)
  | [], _ => List.Pairwise.nil
  | x :: r, h => risingS_pair r x h
/-- a list of texts -/
def strsD : List D → Option (List Str)
  | [] => some []
  | .str i :: r => (strsD r).map (i :: ·)
  | _ :: _ => none
theorem strsD_some : ∀ {ds : List D} {ns : List Str}, strsD ds = some ns → ds = ns.map PyData.str
  | [], ns, h => by cases h; rfl
  | .str i :: r, ns, h => by
    have h : (strsD r).map (i :: ·) = some ns := h
    cases q : strsD r with
    | none => rw [q] at h; cases h
    | some ms =>
      rw [q] at h
      cases h
      rw [strsD_some q]; rfl
  | .none :: _, _, h => by cases h
  | .bool _ :: _, _, h => by cases h
  | .int _ :: _, _, h => by cases h
  | .list _ :: _, _, h => by cases h
  | .tuple _ :: _, _, h => by cases h
  | .dict _ :: _, _, h => by cases h
theorem strsD_map : ∀ ns : List Str, strsD (ns.map PyData.str) = some ns
  | [] => rfl
  | n :: ns => by
    show (strsD (ns.map PyData.str)).map (n :: ·) = some (n :: ns)
    rw [strsD_map ns]; rfl
section
variable {K : PySem.W.Frag}
theorem vals_strs_of {F : Hp} : ∀ {ns : List Str} {vs : List V}, DpAll K F vs (ns.map PyData.str) → vs = ns.map V.str
  | [], _, h => by cases h; rfl
  | n :: ns, _, h => by
    cases h with
    | cons h1 h2 => cases h1; rw [vals_strs_of h2]; rfl
theorem dps_strs {F : Hp} : ∀ (ns : List Str), DpAll K F (ns.map V.str) (ns.map PyData.str)
  | [] => .nil
  | n :: ns => .cons (.str n) (dps_strs ns)
/-- sorted(xs): whole numbers, or fewer than 64 texts -/
def fSort : D → Option D
  | .list ds => match intsD ds with
    | some ns => some (.list ((sortI ns).map PyData.int))
    | none => match strsD ds with
      | some ss => if ss.length < 64 then some (.list ((sortS ss).map PyData.str)) else none
      | none => none
  | _ => none
theorem cs_sort : Call1S K (fun xs H Q => rSortedI K xs H Q ∨ rSortedS K xs H Q) fSort := by
  rintro g F H σ ρ x a d z rfl ok ha h1 h3 Q q
  cases d with
  | list ds =>
    unfold fSort at h3
    simp only at h3
    cases q2 : intsD ds with
    | some ns =>
      refine .inl (cs_sortI (K := g.K) g F H σ ρ x a (.list ds) z rfl ok ha h1 ?_ Q q)
      rw [q2] at h3
      show ((intsD ds).map fun ns => PyData.list ((sortI ns).map PyData.int)) = some z
      rw [q2]; exact h3
    | none =>
      rw [q2] at h3
      simp only at h3
      cases q3 : strsD ds with
      | none => rw [q3] at h3; cases h3
      | some ss =>
        rw [q3] at h3
        simp only at h3
        split at h3
        · rename_i h64
          cases h3
          cases strsD_some q3
          obtain ⟨p, us, rfl, s1, d1⟩ := rdD_list ok ha h1
          rw [vals_strs_of d1] at s1
          refine .inr ⟨p, ss, rfl, s1, h64, fun ns' P hp hs hP => ?_⟩
          obtain ⟨ex, ok2⟩ := ok.newD (o := .lst (ns'.map V.str)) hP
          rw [sortS_eq hp (sortedS_pair _ hs)] at ex ok2 ⊢
          exact q _ _ _ ex ok2 (.lst (.inl (.inl upd_same)) (dps_strs _))
        · cases h3
  | none => cases h3
  | bool _ => cases h3
  | int _ => cases h3
  | str _ => cases h3
  | tuple _ => cases h3
  | dict _ => cases h3
end
/-! ### sorted(set(xs)) -/
section
variable {X : Cx} {EW : EWT} {pos : Pos}
/-- two calls of built-ins, one in the other -/
theorem qe_callBT {a : Expr} {ta : TE} {ma : M Vw} {id T : String} {x y : Str} {p p2 q : Pos} {r r2 : List V → Hp → VK → Prop} {f : D → Option D} (hc : CallR X (.builtin id) r) (hc2 : CallR X (.type T) r2)
    (hr : Call1S X.K (fun xs H Q => r2 xs H fun v H1 => r [v] H1 Q) f) (hg : Gl X x) (hm : X.mg x = none) (hv : bootBuiltins x = some (.builtin id)) (hg2 : Gl X y) (hm2 : X.mg y = none) (hv2 : bootBuiltins y = some (.type T)) (ha : QE X EW a ta ma)
    (hn : x ≠ "__name__" := by decide) (hdb : (x == ("__debug__" : Str)) = false := by decide) (hn2 : y ≠ "__name__" := by decide) (hdb2 : (y == ("__debug__" : Str)) = false := by decide) (he : starEach [a] X.env = (false, eval a X.env) :: starEach [] X.env := by rfl)
    (he2 : starEach [.Call (.Name y p2) [a] [] q] X.env = (false, eval (.Call (.Name y p2) [a] [] q) X.env) :: starEach [] X.env := by rfl) : QE X EW (.Call (.Name x p) [.Call (.Name y p2) [a] [] q] [] pos) (tCB r (tCons (tCB r2 (tCons ta tNil)) tNil)) (mOp1 f ma) := by
  refine ⟨pe_callB hc hg hm hv (pa_cons (pe_callTy hc2 hg2 hm2 hv2 (pa_cons ha.pe pa_nil he) hn2 hdb2 he rfl) pa_nil he2) hn hdb he2 rfl, fun g F H σ ρ hK ok => ?_⟩
  refine At.bind (k := fun x H1 Q => r2 [x] H1 fun v H1 => r [v] H1 Q) (ha.sm g F H σ ρ hK ok) fun F1 H1 ρ1 x a e1 ok1 hx => app1_at ok1 hx fun d z h1 h2 Q q => hr g F1 H1 σ ρ1 x a d z hK ok1 hx h1 h2 Q q
end
def SetXO (w : World) (a : Addr) (ks : List Key) : HO := .ext fun h => SetX w h a ks
section
variable {X : Cx}
theorem setXO_new {w : World} {P : Program} {H : Hp} {h : Heap} {a : Addr} {ks : List Key} (R : SetX w h a ks) : ObjOk P w H h a (SetXO w a ks) := by
  have ⟨o, _, _, _, ho, _⟩ := R
  exact ⟨R, ⟨o, ho⟩, fun h1 h2 p k => SetX.keep p k⟩
theorem keys_of_vals (P : Program) (w : World) : ∀ {ks : List Key} {us : List Value}, Vals (ks.map kV) us → Paired (fun k v => keyIs k v = true) ks us
  | [], _, .nil => .nil
  | k :: ks, _, .cons r t => .cons (kV_is (P := P) (w := w) r) (keys_of_vals P w t)
/-- set(xs), a list of fewer than 64 whole numbers and texts -/
def rSetX (K : PySem.W.Frag) (w : World) : List V → Hp → VK → Prop := fun xs H Q => ∃ (l : Addr) (ks : List Key), xs = [V.ref l] ∧ SqL K H l (ks.map kV) ∧ ks.length < 64 ∧
  ∀ a, H a = none → Q (.ref a) (upd H a (SetXO w a (ks.foldl addK [])))
theorem cr_setX (hc : X.calm = true) : CallR X (.type "set") (rSetX X.K X.w) := by
  intro pins s σ H xs us Q I r h
  obtain ⟨l, ks, rfl, hl, hf, q⟩ := h
  rw [Vals.ref1 r]
  obtain ⟨its, rv, pl, hz⟩ := I.list hl
  have hn : H s.heap.objs.size = none := I.hok.fresh (Nat.le_refl _)
  have sb : ks.length + 1 < scanBound := Nat.lt_trans (Nat.succ_lt_succ hf) (by decide)
  refine setOfListX ks (I.ok.hd hc) pl.isList (by simpa using keys_of_vals X.prog X.w rv) sb fun h' tk R k => ?_
  exact ⟨.ref s.heap.objs.size, upd H s.heap.objs.size (SetXO X.w s.heap.objs.size (ks.foldl addK [])), I.laid (t' := tk) k (Nat.le_refl _) (setXO_new R), rfl, q _ hn⟩
theorem map_perm {α β : Type} {f : α → β} {ns : List α} {ls : List β} (p : ls.Perm (ns.map f)) : ∃ ms : List α, ms.Perm ns ∧ ls = ms.map f := by
  have h0 : ∀ ns : List α, Paired (fun n k => k = f n) ns (ns.map f) := fun ns => by
    induction ns with
    | nil => exact .nil
    | cons n ns ih => exact .cons rfl ih
  obtain ⟨ms, h1, h2⟩ := paired_perm p.symm (h0 ns)
  refine ⟨ms, h1, ?_⟩
  clear h1 p
  induction h2 with
  | nil => rfl
  | cons r _ ih => rw [List.map_cons, ← r, ← ih]
theorem ints_keys : ∀ {ns : List Int} {vs : List Value}, Paired (fun k v => keyIs k v = true) (ns.map Sum.inl) vs → IntsAre vs ns
  | [], _, .nil => .nil
  | n :: ns, _, .cons r t => by
    rcases keyIs_shape r with ⟨i, t', e, rfl⟩ | ⟨x, t', e, rfl⟩
    · cases e
      exact .cons _ _ (ints_keys t)
    · cases e
theorem strs_keys : ∀ {ns : List Str} {vs : List Value}, Paired (fun k v => keyIs k v = true) (ns.map Sum.inr) vs → StrsAre vs ns
  | [], _, .nil => .nil
  | n :: ns, _, .cons r t => by
    rcases keyIs_shape r with ⟨i, t', e, rfl⟩ | ⟨x, t', e, rfl⟩
    · cases e
    · cases e
      exact .cons _ _ (strs_keys t)
theorem paired_snd {w : World} : ∀ {js : List Key} {es : List (Int × Value)}, Paired (KeyE w) js es → Paired (fun k v => keyIs k v = true) js (es.map (·.2))
  | _, _, .nil => .nil
  | _, _, .cons r t => .cons r.1 (paired_snd t)
section
variable {P : Program} {w : World} {A : Around} {E : Value → Shared → Prop} {s : Shared} {a : Addr}
theorem sortedXI {ns : List Int} {Q : Value → Shared → Prop} (R : SetX w s.heap a (ns.map Sum.inl)) (hh : A.handled = none) (h64 : ns.length < 64)
    (hQ : ∀ s' p (out : Array Value) (c : Nat) (ns' : List Int), (∀ b o, s.heap.get? b = some o → s'.heap.get? b = some o) → s'.gens = s.gens → s'.os = s.os → s.heap.objs.size ≤ p →
      s'.heap.get? p = some (seqObj "list" out c) → IntsAre out.toList ns' → ns'.Perm ns → ns'.Pairwise (· ≤ ·) → Q (.ref p) s') :
    wpAny (model P w) A (call (.builtin "sorted") [.ref a]) Q E s := by
  obtain ⟨o, es, ep, t, ho, hex, hd, ⟨js, pj, pm0⟩, nd, hb, hf, hr, hl⟩ := R
  refine Calls.call_function_entry kind_sorted plain_sorted entry_sorted (args_sorted1 _) ?_
  unfold Builtin.«sorted»
  refine wpAny_bind (m := checkCount "sorted" 1 1 _) (wpAny_pure ?_)
  refine wpAny_bind (collect_set (A := A.in1) hh ⟨o, ho, hex.1, hd⟩ hf hb hr hl fun s1 vs k1 hz g1 o1 pm => ?_)
  obtain ⟨ls, pl, pv⟩ := paired_perm pm.symm (paired_snd pj)
  obtain ⟨ms, pms, rfl⟩ := map_perm (pl.trans pm0)
  have hI : IntsAre vs ms := ints_keys pv
  have hvl : vs.length = ns.length := by
    have e := paired_len pv
    rw [List.length_map, pms.length_eq] at e
    exact e.symm
  refine wpAny_bind (wpAny_newList ?_ (by rw [hvl, sizeLine_eq]; omega))
  have hoL : (s1.heap.push (seqObj "list" vs.toArray 0)).get? s1.heap.objs.size = some (seqObj "list" vs.toArray 0) := Heap.get?_push_size _ rfl
  refine wpAny_bind (wpAny_holding (wpAny_call_entry slot_list_sort ⟨_, hoL, rfl⟩ entry_list_sort (list_sort_tree hoL hI (by rw [hvl]; exact h64) fun out ns' a1 a2 a3 => ⟨_, rfl, ?_⟩) (args_list_sort _)))
  obtain ⟨c, hc⟩ := sortedHeap_at (vs := vs) (out := out) hoL
  refine wpAny_pure ⟨_, rfl, hQ _ s1.heap.objs.size out c ns' (fun b u e => ?_) g1 o1 hz hc a1 (a2.trans pms) a3⟩
  have q := k1 b u e
  have hlt := Heap.lt_size q
  show (sortedHeap (s1.heap.push (seqObj "list" vs.toArray 0)) s1.heap.objs.size vs out).get? b = some u
  rw [sortedHeap_old (Nat.ne_of_lt hlt) (by rw [size_push']; exact Nat.lt_succ_of_lt hlt)]
  exact Heap.get?_push_of_some _ q
theorem sortedXS {ns : List Str} {Q : Value → Shared → Prop} (R : SetX w s.heap a (ns.map Sum.inr)) (hh : A.handled = none) (h64 : ns.length < 64)
    (hQ : ∀ s' p (out : Array Value) (c : Nat) (ns' : List Str), (∀ b o, s.heap.get? b = some o → s'.heap.get? b = some o) → s'.gens = s.gens → s'.os = s.os → s.heap.objs.size ≤ p →
      s'.heap.get? p = some (seqObj "list" out c) → StrsAre out.toList ns' → ns'.Perm ns → sortedS ns' = true → Q (.ref p) s') :
    wpAny (model P w) A (call (.builtin "sorted") [.ref a]) Q E s := by
  obtain ⟨o, es, ep, t, ho, hex, hd, ⟨js, pj, pm0⟩, nd, hb, hf, hr, hl⟩ := R
  refine Calls.call_function_entry kind_sorted plain_sorted entry_sorted (args_sorted1 _) ?_
  unfold Builtin.«sorted»
  refine wpAny_bind (m := checkCount "sorted" 1 1 _) (wpAny_pure ?_)
  refine wpAny_bind (collect_set (A := A.in1) hh ⟨o, ho, hex.1, hd⟩ hf hb hr hl fun s1 vs k1 hz g1 o1 pm => ?_)
  obtain ⟨ls, pl, pv⟩ := paired_perm pm.symm (paired_snd pj)
  obtain ⟨ms, pms, rfl⟩ := map_perm (pl.trans pm0)
  have hS : StrsAre vs ms := strs_keys pv
  have hvl : vs.length = ns.length := by
    have e := paired_len pv
    rw [List.length_map, pms.length_eq] at e
    exact e.symm
  refine wpAny_bind (wpAny_newList ?_ (by rw [hvl, sizeLine_eq]; omega))
  have hoL : (s1.heap.push (seqObj "list" vs.toArray 0)).get? s1.heap.objs.size = some (seqObj "list" vs.toArray 0) := Heap.get?_push_size _ rfl
  refine wpAny_bind (wpAny_holding (wpAny_call_entry slot_list_sort ⟨_, hoL, rfl⟩ entry_list_sort
    (list_sort_treeK strKind_oneLt hoL hS.keysOf (fun v₁ v₂ rest e => keyKind_strs (by rw [← e]; exact hS)) (by rw [hvl]; exact h64) fun st' hp hs => ⟨_, rfl, ?_⟩) (args_list_sort _)))
  obtain ⟨ys, g1', g2, g3⟩ := sorted_out_str hS hp hs
  obtain ⟨c, hc⟩ := sortedHeap_at (vs := vs) (out := (arrOf st').map (·.2)) hoL
  refine wpAny_pure ⟨_, rfl, hQ _ s1.heap.objs.size _ c ys (fun b u e => ?_) g1 o1 hz hc g1' (g2.trans pms) g3⟩
  have q := k1 b u e
  have hlt := Heap.lt_size q
  show (sortedHeap (s1.heap.push (seqObj "list" vs.toArray 0)) s1.heap.objs.size vs _).get? b = some u
  rw [sortedHeap_old (Nat.ne_of_lt hlt) (by rw [size_push']; exact Nat.lt_succ_of_lt hlt)]
  exact Heap.get?_push_of_some _ q
end
def rSortXI (w : World) : List V → Hp → VK → Prop := fun vs H Q => ∃ (a : Addr) (ns : List Int), vs = [V.ref a] ∧ H a = some (SetXO w a (ns.map Sum.inl)) ∧ ns.length < 64 ∧
  ∀ (ns' : List Int) (p : Addr), ns'.Perm ns → ns'.Pairwise (· ≤ ·) → H p = none → Q (.ref p) (upd H p (.lst (ns'.map V.int)))
def rSortXS (w : World) : List V → Hp → VK → Prop := fun vs H Q => ∃ (a : Addr) (ns : List Str), vs = [V.ref a] ∧ H a = some (SetXO w a (ns.map Sum.inr)) ∧ ns.length < 64 ∧
  ∀ (ns' : List Str) (p : Addr), ns'.Perm ns → sortedS ns' = true → H p = none → Q (.ref p) (upd H p (.lst (ns'.map V.str)))
theorem cr_sortXI (hc : X.calm = true) : CallR X (.builtin "sorted") (rSortXI X.w) := by
  intro pins s σ H vs us Q I r h
  obtain ⟨a, ns, rfl, ha, h64, q⟩ := h
  have R : SetX X.w s.heap a (ns.map Sum.inl) := (I.hok a _ ha).1
  rw [Vals.ref1 r]
  refine sortedXI R (I.ok.hd hc) h64 fun s' p out c ns' k g o hp hg hi pm hs => ?_
  have hlen : (ns'.map V.int).length ≤ sizeLine := by rw [List.length_map, pm.length_eq, sizeLine_eq]; omega
  have hn : H p = none := I.hok.fresh hp
  have J : Inv X pins σ (upd H p (.lst (ns'.map V.int))) { s with heap := s'.heap, gens := s'.gens, drawn := s'.drawn, toks := s'.toks } :=
    I.call (ch := []) (Un.laid k hp hn) (I.hok.laid k hp ⟨hlen, out.toList, c, vals_of_ints hi, hg⟩) (by rw [g]; exact I.bare) (fun _ z => nomatch z)
  have e : s' = { s with heap := s'.heap, gens := s'.gens, drawn := s'.drawn, toks := s'.toks } := by
    cases s'
    cases s
    cases o
    rfl
  rw [e]
  exact ⟨.ref p, _, J, rfl, q ns' p pm hs hn⟩
theorem cr_sortXS (hc : X.calm = true) : CallR X (.builtin "sorted") (rSortXS X.w) := by
  intro pins s σ H vs us Q I r h
  obtain ⟨a, ns, rfl, ha, h64, q⟩ := h
  have R : SetX X.w s.heap a (ns.map Sum.inr) := (I.hok a _ ha).1
  rw [Vals.ref1 r]
  refine sortedXS R (I.ok.hd hc) h64 fun s' p out c ns' k g o hp hg hi pm hs => ?_
  have hlen : (ns'.map V.str).length ≤ sizeLine := by rw [List.length_map, pm.length_eq, sizeLine_eq]; omega
  have hn : H p = none := I.hok.fresh hp
  have J : Inv X pins σ (upd H p (.lst (ns'.map V.str))) { s with heap := s'.heap, gens := s'.gens, drawn := s'.drawn, toks := s'.toks } :=
    I.call (ch := []) (Un.laid k hp hn) (I.hok.laid k hp ⟨hlen, out.toList, c, vals_of_strs hi, hg⟩) (by rw [g]; exact I.bare) (fun _ z => nomatch z)
  have e : s' = { s with heap := s'.heap, gens := s'.gens, drawn := s'.drawn, toks := s'.toks } := by
    cases s'
    cases s
    cases o
    rfl
  rw [e]
  exact ⟨.ref p, _, J, rfl, q ns' p pm hs hn⟩
end
/-- each once, in the first place's order -/
def addG {α : Type} [DecidableEq α] (ks : List α) (k : α) : List α := if (ks.any fun j => decide (j = k)) = true then ks else ks ++ [k]
def dedup {α : Type} [DecidableEq α] (ks : List α) : List α := ks.foldl addG []
theorem addG_mem {α : Type} [DecidableEq α] (ks : List α) (k x : α) : x ∈ addG ks k ↔ x ∈ ks ∨ x = k := by
  unfold addG
  split
  · rename_i h
    obtain ⟨j, h1, h2⟩ := List.any_eq_true.mp h
    have h2 := of_decide_eq_true h2
    subst h2
    exact ⟨.inl, fun h => h.elim id fun e => e ▸ h1⟩
  · rw [List.mem_append, List.mem_singleton]
theorem addG_nodup {α : Type} [DecidableEq α] {ks : List α} (k : α) (h : ks.Nodup) : (addG ks k).Nodup := by
  unfold addG
  split
  · exact h
  · rename_i hn
    refine (List.perm_append_singleton k ks).nodup_iff.mpr (List.nodup_cons.mpr ⟨fun z => hn ?_, h⟩)
    exact List.any_eq_true.mpr ⟨k, z, decide_eq_true rfl⟩
theorem foldG_mem {α : Type} [DecidableEq α] : ∀ (ls ks : List α) (x : α), x ∈ ls.foldl addG ks ↔ x ∈ ks ∨ x ∈ ls
  | [], ks, x => by simp
  | l :: ls, ks, x => by
    rw [List.foldl_cons, foldG_mem ls, addG_mem, List.mem_cons]
    exact or_assoc
theorem foldG_nodup {α : Type} [DecidableEq α] : ∀ (ls ks : List α), ks.Nodup → (ls.foldl addG ks).Nodup
  | [], _, h => h
  | l :: ls, ks, h => foldG_nodup ls _ (addG_nodup l h)
theorem foldG_len {α : Type} [DecidableEq α] : ∀ (ls ks : List α), (ls.foldl addG ks).length ≤ ks.length + ls.length
  | [], ks => by simp
  | l :: ls, ks => by
    have h1 := foldG_len ls (addG ks l)
    have h2 : (addG ks l).length ≤ ks.length + 1 := by
      unfold addG
      split
      · omega
      · simp
    rw [List.foldl_cons, List.length_cons]
    omega
theorem dedup_mem {α : Type} [DecidableEq α] (ls : List α) (x : α) : x ∈ dedup ls ↔ x ∈ ls := by
  unfold dedup
  rw [foldG_mem]
  simp
theorem dedup_nodup {α : Type} [DecidableEq α] (ls : List α) : (dedup ls).Nodup := foldG_nodup ls [] .nil
theorem dedup_len {α : Type} [DecidableEq α] (ls : List α) : (dedup ls).length ≤ ls.length := by
  have := foldG_len ls ([] : List α)
  unfold dedup
  simpa using this
theorem addK_map {α : Type} [DecidableEq α] {f : α → Key} (inj : ∀ a b, f a = f b → a = b) (ks : List α) (k : α) : addK (ks.map f) (f k) = (addG ks k).map f := by
  unfold addK addG
  have e : ((ks.map f).any fun j => decide (j = f k)) = (ks.any fun j => decide (j = k)) := by
    rw [List.any_map]
    congr 1
    funext j
    show decide (f j = f k) = decide (j = k)
    rw [decide_eq_decide]
    exact ⟨inj j k, fun h => by rw [h]⟩
  rw [e]
  split
  · rfl
  · rw [List.map_append]; rfl
theorem foldK_map {α : Type} [DecidableEq α] {f : α → Key} (inj : ∀ a b, f a = f b → a = b) : ∀ (ls ks : List α), (ls.map f).foldl addK (ks.map f) = (ls.foldl addG ks).map f
  | [], ks => rfl
  | l :: ls, ks => by rw [List.map_cons, List.foldl_cons, List.foldl_cons, addK_map inj, foldK_map inj ls]
/-- sorted(set(xs)) of fewer than 64 whole numbers, or as few texts -/
def fSortSet : D → Option D
  | .list ds => match intsD ds with
    | some ns => if ns.length < 64 then some (.list ((sortI (dedup ns)).map PyData.int)) else none
    | none => match strsD ds with
      | some ss => if ss.length < 64 then some (.list ((sortS (dedup ss)).map PyData.str)) else none
      | none => none
  | _ => none
theorem cs_sortSet {K : PySem.W.Frag} {w : World} : Call1S K (fun xs H Q => rSetX K w xs H fun v H1 => rSortXI w [v] H1 Q ∨ rSortXS w [v] H1 Q) fSortSet := by
  rintro g F H σ ρ x a d z rfl ok ha h1 h3 Q q
  cases d with
  | list ds =>
    unfold fSortSet at h3
    simp only at h3
    obtain ⟨p, us, rfl, s1, d1⟩ := rdD_list ok ha h1
    cases q2 : intsD ds with
    | some ns =>
      rw [q2] at h3
      simp only at h3
      split at h3
      · rename_i h64
        cases h3
        cases intsD_some q2
        rw [vals_ints_of d1] at s1
        refine ⟨p, ns.map Sum.inl, rfl, by rw [List.map_map]; exact s1, by rw [List.length_map]; exact h64, fun b hb => ?_⟩
        have e := foldK_map (f := (Sum.inl : Int → Key)) (fun a b h => Sum.inl.inj h) ns []
        rw [List.map_nil] at e
        rw [e]
        refine .inl ⟨b, ns.foldl addG [], rfl, upd_same, Nat.lt_of_le_of_lt (dedup_len ns) h64, fun ns' P hp hs hP => ?_⟩
        have ok1 := ok.newH (o := SetXO w b ((ns.foldl addG []).map Sum.inl)) hb
        obtain ⟨ex, ok2⟩ := ok1.newD (o := .lst (ns'.map V.int)) hP
        rw [sortI_eq hp hs] at ex ok2 ⊢
        exact q _ _ _ ex ok2 (.lst (.inl (.inl upd_same)) (dps_ints _))
      · cases h3
    | none =>
      rw [q2] at h3
      simp only at h3
      cases q3 : strsD ds with
      | none => rw [q3] at h3; cases h3
      | some ss =>
        rw [q3] at h3
        simp only at h3
        split at h3
        · rename_i h64
          cases h3
          cases strsD_some q3
          rw [vals_strs_of d1] at s1
          refine ⟨p, ss.map Sum.inr, rfl, by rw [List.map_map]; exact s1, by rw [List.length_map]; exact h64, fun b hb => ?_⟩
          have e := foldK_map (f := (Sum.inr : Str → Key)) (fun a b h => Sum.inr.inj h) ss []
          rw [List.map_nil] at e
          rw [e]
          refine .inr ⟨b, ss.foldl addG [], rfl, upd_same, Nat.lt_of_le_of_lt (dedup_len ss) h64, fun ns' P hp hs hP => ?_⟩
          have ok1 := ok.newH (o := SetXO w b ((ss.foldl addG []).map Sum.inr)) hb
          obtain ⟨ex, ok2⟩ := ok1.newD (o := .lst (ns'.map V.str)) hP
          rw [sortS_eq hp (sortedS_pair _ hs)] at ex ok2 ⊢
          exact q _ _ _ ex ok2 (.lst (.inl (.inl upd_same)) (dps_strs _))
        · cases h3
  | none => cases h3
  | bool _ => cases h3
  | int _ => cases h3
  | str _ => cases h3
  | tuple _ => cases h3
  | dict _ => cases h3
/-! ### sorted(set(xs)) of pairs of small whole numbers -/
def lexP (p q : Int × Int) : Bool := decide (p.1 < q.1) || (decide (p.1 = q.1) && decide (p.2 ≤ q.2))
theorem lexP_iff {p q : Int × Int} : lexP p q = true ↔ p.1 < q.1 ∨ (p.1 = q.1 ∧ p.2 ≤ q.2) := by simp [lexP]
theorem lexP_anti (a b : Int × Int) (h : lexP a b = true) (k : lexP b a = true) : a = b := by
  rw [lexP_iff] at h k
  obtain ⟨a1, a2⟩ := a
  obtain ⟨b1, b2⟩ := b
  simp only at h k
  have e1 : a1 = b1 := by omega
  have e2 : a2 = b2 := by omega
  rw [e1, e2]
def insP (n : Int × Int) : List (Int × Int) → List (Int × Int)
  | [] => [n]
  | m :: r => if lexP n m = true then n :: m :: r else m :: insP n r
def sortP : List (Int × Int) → List (Int × Int)
  | [] => []
  | n :: r => insP n (sortP r)
theorem insP_perm (n : Int × Int) : ∀ r, (insP n r).Perm (n :: r)
  | [] => .refl _
  | m :: r => by
    unfold insP
    split
    · exact .refl _
    · exact ((insP_perm n r).cons m).trans (.swap n m r)
theorem sortP_perm : ∀ r, (sortP r).Perm r
  | [] => .refl _
  | n :: r => (insP_perm n _).trans ((sortP_perm r).cons n)
theorem insP_le (n : Int × Int) : ∀ r : List (Int × Int), r.Pairwise (fun a b => lexP a b = true) → (insP n r).Pairwise (fun a b => lexP a b = true)
  | [], _ => by unfold insP; exact List.pairwise_singleton _ _
  | m :: r, h => by
    have h' := List.pairwise_cons.mp h
    unfold insP
    split
    · rename_i hn
      refine List.pairwise_cons.mpr ⟨fun y hy => ?_, h⟩
      rcases List.mem_cons.mp hy with rfl | hy
      · exact hn
      · have h2 := h'.1 y hy
        rw [lexP_iff] at *
        omega
    · rename_i hn
      refine List.pairwise_cons.mpr ⟨fun y hy => ?_, insP_le n r h'.2⟩
      rcases List.mem_cons.mp ((insP_perm n r).mem_iff.mp hy) with rfl | hy
      · rw [lexP_iff] at *
        omega
      · exact h'.1 y hy
theorem sortP_le : ∀ r, (sortP r).Pairwise (fun a b => lexP a b = true)
  | [] => List.Pairwise.nil
  | n :: r => insP_le n _ (sortP_le r)
theorem sortP_eq {ns ms : List (Int × Int)} (p : ns.Perm ms) (h : ns.Pairwise (fun a b => lexP a b = true)) : ns = sortP ms :=
  perm_le_eq (le := fun a b => lexP a b = true) lexP_anti (p.trans (sortP_perm ms).symm) h (sortP_le ms)
def pairD (p : Int × Int) : D := .tuple [.int p.1, .int p.2]
def pairsD : List D → Option (List (Int × Int))
  | [] => some []
  | .tuple [.int i, .int j] :: r => (pairsD r).map ((i, j) :: ·)
  | _ :: _ => none
theorem pairsD_some {ds : List D} : ∀ {ns : List (Int × Int)}, pairsD ds = some ns → ds = ns.map pairD := by
  induction ds with
  | nil => intro ns h; cases h; rfl
  | cons d r ih =>
    intro ns h
    unfold pairsD at h
    split at h
    · rename_i e; cases e
    · rename_i i j r' e
      cases e
      cases q : pairsD r with
      | none => rw [q] at h; cases h
      | some ms =>
        rw [q] at h
        cases h
        rw [ih q]; rfl
    · cases h
theorem pairsD_map : ∀ ns : List (Int × Int), pairsD (ns.map pairD) = some ns
  | [] => rfl
  | n :: ns => by
    show (pairsD (ns.map pairD)).map ((n.1, n.2) :: ·) = some (n :: ns)
    rw [pairsD_map ns]; rfl
def okP (p : Int × Int) : Bool := decide (0 ≤ p.1) && decide (p.1 < 64) && decide (0 ≤ p.2) && decide (p.2 < 64)
def fSortSetP : D → Option D
  | .list ds => match pairsD ds with
    | some ns => if (decide (ns.length < 64) && ns.all okP) = true then some (.list ((sortP (dedup ns)).map pairD)) else none
    | none => none
  | _ => none
theorem pairs_of {K : PySem.W.Frag} {F : Hp} : ∀ {ns : List (Int × Int)} {vs : List V}, DpAll K F vs (ns.map pairD) → ∃ ks : List (Addr × List Int), vs = ks.map (fun p => V.ref p.1) ∧ ks.map (·.2) = ns.map (fun p => [p.1, p.2]) ∧ ∀ p ∈ ks, SqT K F p.1 (p.2.map V.int)
  | [], _, h => by cases h; exact ⟨[], rfl, rfl, fun p h => nomatch h⟩
  | n :: ns, _, h => by
    cases h with
    | cons h1 h2 =>
      obtain ⟨ks, e1, e2, e3⟩ := pairs_of h2
      cases h1 with
      | tup hs hd =>
        rename_i b vs
        have e0 : vs = [V.int n.1, V.int n.2] := vals_ints_of (ns := [n.1, n.2]) hd
        subst e0
        refine ⟨(b, [n.1, n.2]) :: ks, by rw [e1]; rfl, by rw [List.map_cons, e2]; rfl, fun p hp => ?_⟩
        rcases List.mem_cons.mp hp with rfl | hp
        · exact hs
        · exact e3 p hp
theorem pairs_to {K : PySem.W.Frag} {F : Hp} : ∀ {ks : List (Addr × List Int)} {ns : List (Int × Int)}, ks.map (·.2) = ns.map (fun p => [p.1, p.2]) → (∀ p ∈ ks, SqT K F p.1 (p.2.map V.int)) → DpAll K F (ks.map fun p => V.ref p.1) (ns.map pairD)
  | [], [], _, _ => .nil
  | [], _ :: _, h, _ => by cases h
  | _ :: _, [], h, _ => by cases h
  | k :: ks, n :: ns, h, f => by
    rw [List.map_cons, List.map_cons] at h
    injection h with h1 h2
    refine .cons (.tup ?_ (dps_ints [n.1, n.2])) (pairs_to h2 fun p hp => f p (List.mem_cons_of_mem _ hp))
    have := f k List.mem_cons_self
    rw [h1] at this
    exact this
theorem two_inj {p q : Int × Int} (h : [p.1, p.2] = [q.1, q.2]) : p = q := by
  injection h with h1 h2
  injection h2 with h3 _
  exact Prod.ext h1 h3
theorem nodup_map_inj {α β : Type} {f : α → β} : ∀ {l : List α}, (l.map f).Nodup → l.Nodup
  | [], _ => .nil
  | x :: l, h => by
    rw [List.map_cons, List.nodup_cons] at h
    exact List.nodup_cons.mpr ⟨fun z => h.1 (List.mem_map_of_mem z), nodup_map_inj h.2⟩
theorem map_of_mem {α β : Type} {f : α → β} : ∀ {l : List β}, (∀ y ∈ l, ∃ x, y = f x) → ∃ xs : List α, l = xs.map f
  | [], _ => ⟨[], rfl⟩
  | y :: l, h => by
    obtain ⟨x, rfl⟩ := h y List.mem_cons_self
    obtain ⟨xs, e⟩ := map_of_mem fun z hz => h z (List.mem_cons_of_mem _ hz)
    exact ⟨x :: xs, by rw [e]; rfl⟩
theorem cs_sortSetP {K : PySem.W.Frag} {P : Program} {w : World} : Call1S K (fun xs H Q => rSetOfT K P w xs H fun v H1 => rSortedT K P w [v] H1 Q) fSortSetP := by
  rintro g F H σ ρ x a d z rfl ok ha h1 h3 Q q
  cases d with
  | list ds =>
    unfold fSortSetP at h3
    simp only at h3
    obtain ⟨l, us, rfl, s1, d1⟩ := rdD_list ok ha h1
    cases q2 : pairsD ds with
    | some ns =>
      rw [q2] at h3
      simp only at h3
      split at h3
      · rename_i hc
        rw [Bool.and_eq_true] at hc
        have h64 := of_decide_eq_true hc.1
        have hok := List.all_eq_true.mp hc.2
        cases h3
        cases pairsD_some q2
        obtain ⟨ks, e1, e2, e3⟩ := pairs_of d1
        subst e1
        have hkl : ks.length = ns.length := by
          have e := congrArg List.length e2
          rwa [List.length_map, List.length_map] at e
        have hsh : ∀ p ∈ ks, ∃ n ∈ ns, p.2 = [n.1, n.2] := fun p hp => by
          have m : p.2 ∈ ns.map (fun p => [p.1, p.2]) := by rw [← e2]; exact List.mem_map_of_mem hp
          obtain ⟨n, hn, e⟩ := List.mem_map.mp m
          exact ⟨n, hn, e.symm⟩
        have hH : ∀ p ∈ ks, SqT g.K H p.1 (p.2.map V.int) := fun p hp => sqtE ok.ff (e3 p hp)
        refine ⟨l, ks, rfl, s1, hH, by omega, fun b L hb hL1 hL2 => ?_⟩
        have ok1 := ok.newH (o := SetTO P w b L) hb
        refine ⟨b, L, 2, 64, rfl, upd_same, fun p hp => sqtE (Ex.new hb) (hH p (hL1 p hp)), by omega, fun p hp => ?_, fun L' p pm nd lt pw hP => ?_⟩
        · obtain ⟨n, hn, e⟩ := hsh p (hL1 p hp)
          have o := hok n hn
          unfold okP at o
          simp only [Bool.and_eq_true, decide_eq_true_eq] at o
          rw [e]
          refine ⟨rfl, fun m hm => ?_⟩
          rcases List.mem_cons.mp hm with rfl | hm
          · omega
          · rw [List.mem_singleton] at hm
            subst hm
            omega
        · have hL' : ∀ p ∈ L', p ∈ ks := fun p hp => hL1 p (pm.mem_iff.mp hp)
          obtain ⟨xs, ex⟩ := map_of_mem (f := fun p : Int × Int => [p.1, p.2]) (l := L'.map (·.2)) fun y hy => by
            obtain ⟨p, hp, rfl⟩ := List.mem_map.mp hy
            obtain ⟨n, _, e⟩ := hsh p (hL' p hp)
            exact ⟨n, e⟩
          have hmem : ∀ n, n ∈ xs ↔ n ∈ dedup ns := fun n => by
            rw [dedup_mem]
            constructor
            · intro hn
              have m : [n.1, n.2] ∈ L'.map (·.2) := by rw [ex]; exact List.mem_map_of_mem (f := fun p : Int × Int => [p.1, p.2]) hn
              obtain ⟨p, hp, e⟩ := List.mem_map.mp m
              obtain ⟨n', hn', e'⟩ := hsh p (hL' p hp)
              have := two_inj (e.symm.trans e')
              rw [this]; exact hn'
            · intro hn
              have m : [n.1, n.2] ∈ ks.map (·.2) := by rw [e2]; exact List.mem_map_of_mem (f := fun p : Int × Int => [p.1, p.2]) hn
              obtain ⟨p, hp, e⟩ := List.mem_map.mp m
              have m2 : p.2 ∈ L'.map (·.2) := ((pm.map (·.2)).mem_iff).mpr (hL2 p hp)
              rw [ex] at m2
              obtain ⟨n', hn', e'⟩ := List.mem_map.mp m2
              have : n' = n := two_inj (e'.trans e)
              rw [← this]; exact hn'
          have ndx : xs.Nodup := nodup_map_inj (f := fun p : Int × Int => [p.1, p.2]) (by rw [← ex]; exact nd)
          have pmx : xs.Perm (dedup ns) := (List.perm_ext_iff_of_nodup ndx (dedup_nodup ns)).mpr hmem
          have pwx : xs.Pairwise (fun a b => lexP a b = true) := by
            have h0 : (L'.map (·.2)).Pairwise fun q r => TS.code 64 q ≤ TS.code 64 r := List.pairwise_map.mpr pw
            rw [ex] at h0
            have h0 := List.pairwise_map.mp h0
            have bd : ∀ n ∈ xs, TS.Bd 64 [n.1, n.2] := fun n hn => by
              have o := hok n ((dedup_mem ns n).mp ((hmem n).mp hn))
              unfold okP at o
              simp only [Bool.and_eq_true, decide_eq_true_eq] at o
              intro m hm
              rcases List.mem_cons.mp hm with rfl | hm
              · omega
              · rw [List.mem_singleton] at hm
                subst hm
                omega
            exact h0.imp_of_mem fun {a b} ha hb h => lexP_iff.mpr (code_lex (bd a ha) (bd b hb) h)
          have exs := sortP_eq pmx pwx
          obtain ⟨ex1, ok2⟩ := ok1.newD (o := .lst (L'.map fun q => V.ref q.1)) hP
          refine q _ _ _ ex1 ok2 (.lst (.inl (.inl upd_same)) ?_)
          rw [← exs]
          exact pairs_to ex fun p hp => sqtE ex1 (e3 p (hL' p hp))
      · cases h3
    | none => rw [q2] at h3; cases h3
  | none => cases h3
  | bool _ => cases h3
  | int _ => cases h3
  | str _ => cases h3
  | tuple _ => cases h3
  | dict _ => cases h3
end Dat
namespace Dat
open PySem L2 PyProof.Rows PySem.Spec
section
variable {X : Cx} {EW : EWT} {K : PySem.W.Frag} {pos : Pos}
/-! ### + of whole numbers, texts, tuples, lists -/
theorem Op2S.or {r r' : R2} {f f' g : D → D → Option D} (h : Op2S K r f) (h' : Op2S K r' f') (hg : ∀ d e z, g d e = some z → f d e = some z ∨ f' d e = some z) : Op2S K (fun x y H Q => r x y H Q ∨ r' x y H Q) g := by
  intro G F H σ ρ x y a b d e z hK ok ha hb h1 h2 h3 Q q
  rcases hg d e z h3 with h4 | h4
  · exact .inl (h G F H σ ρ x y a b d e z hK ok ha hb h1 h2 h4 Q q)
  · exact .inr (h' G F H σ ρ x y a b d e z hK ok ha hb h1 h2 h4 Q q)
def fP1 : D → D → Option D := fun d e => match fAdd d e with
  | some z => some z
  | none => fAddS d e
def fP2 : D → D → Option D := fun d e => match fP1 d e with
  | some z => some z
  | none => fAddT d e
def fPlus : D → D → Option D := fun d e => match fP2 d e with
  | some z => some z
  | none => fAddL d e
theorem two_or {f f' : D → D → Option D} {d e z : D} (h : (match f d e with | some z => some z | none => f' d e) = some z) : f d e = some z ∨ f' d e = some z := by
  cases q : f d e with
  | none => rw [q] at h; exact .inr h
  | some u => rw [q] at h; exact .inl h
abbrev rPlus (K : PySem.W.Frag) : R2 := fun x y H Q => ((rI0 (fun i j => .int (i + j)) x y H Q ∨ (∃ i j, x = .str i ∧ y = .str j ∧ i.length + j.length ≤ sizeLine ∧ Q (.str (i ++ j)) H)) ∨ rCatA K x y H Q) ∨ rCatL K x y H Q
theorem op_plus : OpR X (binaryOp .Add) (rPlus X.K) := ((op_add.or op_add_str).or op_catA).or op_catL
theorem os_plus : Op2S K (rPlus K) fPlus :=
  Op2S.or (Op2S.or (Op2S.or os_add os_addS (g := fP1) fun d e z h => two_or h) os_addT (g := fP2) fun d e z h => two_or h) os_addL fun d e z h => two_or h
/-! ### in: a list of data, a tuple of flat data -/
def flatD : D → Bool
  | .none => true
  | .bool _ => true
  | .int _ => true
  | .str _ => true
  | _ => false
theorem flat_ok {F : Hp} {x : V} {d : D} (h : Dp K F x d) (f : flatD d = true) : flatV x = true ∧ ∀ y e, Dp K F y e → flatD e = true → eqV y x = PyData.eqv e d := by
  cases d with
  | none =>
    cases h
    refine ⟨rfl, fun y e hy fe => ?_⟩
    cases e <;> first | (cases hy; rfl) | cases fe
  | bool b =>
    cases h
    refine ⟨rfl, fun y e hy fe => ?_⟩
    cases e <;> first | (cases hy; rfl) | cases fe
  | int b =>
    cases h
    refine ⟨rfl, fun y e hy fe => ?_⟩
    cases e <;> first | (cases hy; rfl) | cases fe
  | str b =>
    cases h
    refine ⟨rfl, fun y e hy fe => ?_⟩
    cases e <;> first | (cases hy; rfl) | cases fe
  | list _ => cases f
  | tuple _ => cases f
  | dict _ => cases f
theorem flats_ok {F : Hp} {x : V} {d : D} (h : Dp K F x d) (f : flatD d = true) : ∀ {vs : List V} {ds : List D}, DpAll K F vs ds → ds.all flatD = true → vs.all flatV = true ∧ inV x vs = ds.any fun z => PyData.eqv z d
  | _, _, .nil, _ => ⟨rfl, rfl⟩
  | v :: vs, e :: ds, .cons hv ht, fa => by
    rw [List.all_cons, Bool.and_eq_true] at fa
    obtain ⟨i1, i2⟩ := flats_ok h f ht fa.2
    refine ⟨by rw [List.all_cons, (flat_ok hv fa.1).1, i1]; rfl, ?_⟩
    unfold inV at i2 ⊢
    rw [List.any_cons, List.any_cons, i2, (flat_ok h f).2 v e hv fa.1]
def fInT : D → D → Option D := fun d e => match e with
  | .tuple ds => if flatD d = true ∧ ds.all flatD = true then some (.bool (ds.any fun z => PyData.eqv z d)) else none
  | _ => none
def fNotInT : D → D → Option D := fun d e => match e with
  | .tuple ds => if flatD d = true ∧ ds.all flatD = true then some (.bool (!ds.any fun z => PyData.eqv z d)) else none
  | _ => none
theorem os_inT : Op2S K (rIn K false) fInT := Op2S.flat fun H x y d e z hx hy hz => by
  cases e with
  | tuple ds =>
    have hz : (if flatD d = true ∧ ds.all flatD = true then some (PyData.bool (ds.any fun z => PyData.eqv z d)) else none) = some z := hz
    split at hz
    · rename_i c
      cases hz
      cases hy with
      | tup hs hd =>
        obtain ⟨i1, i2⟩ := flats_ok hx c.1 hd c.2
        exact ⟨_, fun _ => .bl _, fun Q q => ⟨_, _, rfl, .inr hs, (flat_ok hx c.1).1, i1, by rw [if_neg (by decide), i2]; exact q⟩⟩
    · cases hz
  | none => cases hz
  | bool _ => cases hz
  | int _ => cases hz
  | str _ => cases hz
  | list _ => cases hz
  | dict _ => cases hz
theorem os_notInT : Op2S K (rIn K true) fNotInT := Op2S.flat fun H x y d e z hx hy hz => by
  cases e with
  | tuple ds =>
    have hz : (if flatD d = true ∧ ds.all flatD = true then some (PyData.bool (!ds.any fun z => PyData.eqv z d)) else none) = some z := hz
    split at hz
    · rename_i c
      cases hz
      cases hy with
      | tup hs hd =>
        obtain ⟨i1, i2⟩ := flats_ok hx c.1 hd c.2
        exact ⟨_, fun _ => .bl _, fun Q q => ⟨_, _, rfl, .inr hs, (flat_ok hx c.1).1, i1, by rw [if_pos rfl, i2]; exact q⟩⟩
    · cases hz
  | none => cases hz
  | bool _ => cases hz
  | int _ => cases hz
  | str _ => cases hz
  | list _ => cases hz
  | dict _ => cases hz
def fInS : D → D → Option D := fun d e => match fIn d e with
  | some z => some z
  | none => fInT d e
def fNotInS : D → D → Option D := fun d e => match fNotIn d e with
  | some z => some z
  | none => fNotInT d e
abbrev rInS (K : PySem.W.Frag) : R2 := fun x y H Q => rInD K x y H Q ∨ rIn K false x y H Q
abbrev rNotInS (K : PySem.W.Frag) : R2 := fun x y H Q => rNotInD K x y H Q ∨ rIn K true x y H Q
theorem op_inS' (hu : X.A.units + 65 < cLine) : OpR X (compareOp .In) (rInS X.K) := (op_inD hu).or op_in_seq
theorem op_notInS' (hu : X.A.units + 65 < cLine) : OpR X (compareOp .NotIn) (rNotInS X.K) := (op_notInD hu).or op_notIn_seq
theorem os_inS : Op2S K (rInS K) fInS := Op2S.or os_in os_inT fun d e z h => two_or h
theorem os_notInS : Op2S K (rNotInS K) fNotInS := Op2S.or os_notIn os_notInT fun d e z h => two_or h
/-! ### one value -/
def fNeg : D → Option D
  | .int i => some (.int (-i))
  | _ => none
theorem us_neg : Op1S K (rU fun i => .int (-i)) fNeg := by
  rintro g F H σ ρ x a d z rfl ok ha h1 h3 Q q
  cases d with
  | int i =>
    cases h3
    cases rdD_ok ok ha h1
    exact ⟨i, rfl, q _ F H (Ex.refl F) ok (.int _)⟩
  | none => cases h3
  | bool _ => cases h3
  | str _ => cases h3
  | list _ => cases h3
  | tuple _ => cases h3
  | dict _ => cases h3
end
/-! ### what a caller needs of a def -/
def CalD (P : Program) (w : World) (K : PySem.W.Frag) (mg : Str → Option Value) (base : Heap) (k : Nat) (x : Str) (ps : List Str) (sp : Sp) : Prop :=
  ∃ f fd, FnOk P w K mg base CX0 k f fd ps sp ∧ mg x = some (.ref f) ∧ PySem.W.keepIn K (.ref f) = true ∧ Binds K fd ps []
/-- the def stands in the frame -/
structure Def1 (K : PySem.W.Frag) (mg : Str → Option Value) (x : Str) (st : Stmt) (ps : List Str) (f : Addr) (fd : FuncData) : Prop where
  fn : Fun K x x st f fd
  mgf : mg x = some (.ref f)
  kp : PySem.W.keepIn K (.ref f) = true
  bd : Binds K fd ps []
section
variable {X : Cx} {EW : EWT} {pos : Pos}
theorem qe_callD {k : Nat} {ps : List Str} {fm : List D → Option D} {x : Str} {p : Pos} {e : Expr} {es : List Expr} {ta : TA} {ma : M (List Vw)} (C : CalD X.prog X.w X.K X.mg X.base k x ps (spP X.K fm)) (hr : Room k X.A)
    (ha : QA X EW (e :: es) ta ma) (hg : Gl X x := by rfl) (hdb : (x == ("__debug__" : Str)) = false := by decide) (he : starEach (e :: es) X.env = (false, eval e X.env) :: starEach es X.env := by rfl) (hpl : (backTo pos (starEach es X.env)).any (·.1) = false := by rfl) :
    QE X EW (.Call (.Name x p) (e :: es) [] pos) (tCall (spP X.K fm) [] E0 ta) (mCall fm ma) := by
  obtain ⟨f, fd, h1, h2, h3, h4⟩ := C
  exact qe_call h1 hr h2 h3 h4 ha hg hdb he hpl
theorem qe_callBD {k : Nat} {ps : List Str} {fm : O → List D → Option (D × O)} {x : Str} {p : Pos} {e : Expr} {es : List Expr} {ta : TA} {ma : M (List Vw)} (C : CalD X.prog X.w X.K X.mg X.base k x ps (spB X.K fm)) (hr : Room k X.A)
    (ha : QA X EW (e :: es) ta ma) (hg : Gl X x := by rfl) (hdb : (x == ("__debug__" : Str)) = false := by decide) (he : starEach (e :: es) X.env = (false, eval e X.env) :: starEach es X.env := by rfl) (hpl : (backTo pos (starEach es X.env)).any (·.1) = false := by rfl) :
    QE X EW (.Call (.Name x p) (e :: es) [] pos) (tCall (spB X.K fm) [] E0 ta) (mCallB fm ma) := by
  obtain ⟨f, fd, h1, h2, h3, h4⟩ := C
  exact qe_callB h1 hr h2 h3 h4 ha hg hdb he hpl
end
section
variable {P : Program} {w : World} {K : PySem.W.Frag} {mg : Str → Option Value} {base : Heap}
theorem calP {x : Str} {st : Stmt} {f : Addr} {fd : FuncData} {N ps : List Str} {k : Nat} {ms : MS} (F : Def1 K mg x st ps f fd) (S : FnScope N ps (defScope st)) (hN : ps.length ≤ N.length)
    (hbody : ∀ (cdv : Value) (A : Around) (outer : List Env) (s : Shared) (H : Hp) (E : XK), Room k (A.deeper (envOfC x (defScope st) s.heap.objs.size f cdv)) →
      ∃ t, QSs (cxOf CX0 P w K mg base N x (defScope st) f cdv A outer s H E).nox EW0 (defBody st) t ms) : CalD P w K mg base (k + 1) x ps (spP K (runP ps.length N.length ms)) :=
  ⟨f, fd, fnP F.fn S hN hbody, F.mgf, F.kp, F.bd⟩
theorem calB {x : Str} {st : Stmt} {f : Addr} {fd : FuncData} {N ps : List Str} {k : Nat} {ms : MS} (F : Def1 K mg x st ps f fd) (S : FnScope N ps (defScope st)) (hN : ps.length ≤ N.length)
    (hbody : ∀ (cdv : Value) (A : Around) (outer : List Env) (s : Shared) (H : Hp) (E : XK), Room k (A.deeper (envOfC x (defScope st) s.heap.objs.size f cdv)) →
      ∃ t, QSs (cxOf CX0 P w K mg base N x (defScope st) f cdv A outer s H E).nox EW0 (defBody st) t ms) : CalD P w K mg base (k + 1) x ps (spB K (runB ps.length N.length ms)) :=
  ⟨f, fd, fnB F.fn S hN hbody, F.mgf, F.kp, F.bd⟩
theorem CalD.room {A : Around} {k k' : Nat} (h : k ≤ k') (r : Room k' A) : Room k A := r.mono h
end
end Dat
namespace Dat
open PySem L2 PyProof.Rows PySem.Spec
/-! ### a def that gives back a new list, the caller's own -/
def spO (K : PySem.W.Frag) (f : List D → Option (List D)) : Sp := fun vs H Q _ => ∃ F ds ys, Ex F H ∧ DpAll K F vs ds ∧ f ds = some ys ∧
  ∀ l us F' H', Grow F H F' H' → F' l = none → H l = none → H' l = some (.lst us) → DpAll K F' us ys → Q (.ref l) H'
def runO (n N : Nat) (ma : M (List Vw)) (ds : List D) : Option (List D) := if ds.length = n then (match mBind ma frcs (ds.map Sl.dat ++ List.replicate (N - n) .un) with
  | some (.ok ys, _) => if ys.length ≤ BIG then some ys else none
  | _ => none) else none
theorem Ok.setO2 {g : Gh} {F H : Hp} {σ : L2.St} {ρ : List Sl} (k1 : Ok g F H σ ρ) {i : Nat} {p : Addr} {o : O} (hF : F p = none) (h0 : g.H0 p = none) (ho : OOk g.K F H p o)
    (ne : ∀ (j : Nat) (s : Sl) (l : Addr), ρ[j]? = some s → isOwn s = true → σ[j]? = some (some (.ref l)) → l ≠ p) : Ok g F H (σ.set i (some (.ref p))) (ρ.set i (.own o)) := by
  refine ⟨k1.ff, k1.gf, k1.gh, k1.nw, k1.th, by simp [k1.len], fun j s ov q r => ?_, fun a b s t l q r hs ht w z => ?_⟩
  · rcases get_set q with ⟨rfl, rfl, _⟩ | ⟨h1, h2⟩
    · rcases get_set r with ⟨_, rfl, _⟩ | ⟨h3, _⟩
      · exact ⟨p, rfl, hF, ho, h0⟩
      · exact absurd rfl h3
    · rcases get_set r with ⟨h3, _⟩ | ⟨_, h4⟩
      · exact absurd h3 h1
      · exact k1.sl j s ov h2 h4
  · rcases get_set q with ⟨rfl, rfl, _⟩ | ⟨h1, h2⟩
    · rcases get_set w with ⟨_, e, _⟩ | ⟨h3, _⟩
      · cases e
        rcases get_set r with ⟨rfl, _⟩ | ⟨h3, h4⟩
        · rfl
        · rcases get_set z with ⟨h5, _⟩ | ⟨_, h5⟩
          · exact absurd h5 h3
          · exact absurd rfl (ne b t p h4 ht h5)
      · exact absurd rfl h3
    · rcases get_set w with ⟨h5, _⟩ | ⟨_, h5⟩
      · exact absurd h5 h1
      · rcases get_set r with ⟨rfl, _⟩ | ⟨h3, h4⟩
        · rcases get_set z with ⟨_, e, _⟩ | ⟨h6, _⟩
          · cases e
            exact absurd rfl (ne a s p h2 hs h5)
          · exact absurd rfl h6
        · rcases get_set z with ⟨h6, _⟩ | ⟨_, h6⟩
          · exact absurd h6 h3
          · exact k1.dis a b s t l h2 h4 hs ht h5 h6
section
variable {P : Program} {w : World} {K : PySem.W.Frag} {mg : Str → Option Value} {base : Heap}
theorem calO {x : Str} {st : Stmt} {f : Addr} {fd : FuncData} {N ps : List Str} {k : Nat} {es : List Expr} {p1 p2 : Pos} {ma : M (List Vw)} (F : Def1 K mg x st ps f fd) (S : FnScope N ps (defScope st)) (hN : ps.length ≤ N.length)
    (hst : defBody st = [.Return (some (.List es p1)) p2])
    (hbody : ∀ (cdv : Value) (A : Around) (outer : List Env) (s : Shared) (H : Hp) (E : XK), Room k (A.deeper (envOfC x (defScope st) s.heap.objs.size f cdv)) →
      ∃ ta, QA (cxOf CX0 P w K mg base N x (defScope st) f cdv A outer s H E).nox EW0 es ta ma) : CalD P w K mg base (k + 1) x ps (spO K (runO ps.length N.length ma)) := by
  refine ⟨f, fd, ?_, F.mgf, F.kp, F.bd⟩
  refine F.fn.ok S (fun vs H Q E h => ?_) (fun cdv A outer s H vs Q E hr h => ?_)
  · obtain ⟨F0, ds, d, _, h2, h3, _⟩ := h
    unfold runO at h3
    split at h3
    · rename_i hl
      rw [dps_len h2, hl]
    · cases h3
  · obtain ⟨F0, ds, d, e0, h2, h3, q⟩ := h
    unfold runO at h3
    split at h3
    · rename_i hl
      obtain ⟨ta, hq⟩ := hbody cdv A outer s H E hr
      refine ⟨tRet (tLst ta), by rw [hst]; exact pss_one (ps_ret (pe_lst hq.pa)), ?_⟩
      have ok := start_ok (N := N) e0 h2 hl hN
      cases hm : mBind ma frcs (ds.map Sl.dat ++ List.replicate (N.length - ps.length) .un) with
      | none => rw [hm] at h3; cases h3
      | some p =>
        obtain ⟨r, ρ'⟩ := p
        rw [hm] at h3
        cases r with
        | er c => cases h3
        | ok ys =>
          simp only at h3
          split at h3
          · rename_i hz
            cases h3
            refine (At.bind (EW := EW0) (R2 := fun (F : Hp) (a : List V) (b : List D) => DpAll K F a b) (k := fun xs H1 (Q : List V → Hp → Prop) => Q xs H1) (hq.sm _ F0 H _ _ rfl ok) fun F1 H1 ρ1 vs1 ws e1 ok1 hx => ?_) (.ok d) ρ' hm (fun xs H1 => xs.length ≤ sizeLine ∧ ∀ p, H1 p = none → Q (.ref p) (upd H1 p (.lst xs))) fun F2 H2 ex ok2 a ha => ?_
            · intro r ρ' e Q q
              obtain ⟨ds, F2, rfl, e2, ok2, q1⟩ := frcs_ok ok1 hx e
              exact q F2 H1 e2 ok2 _ q1
            · refine ⟨big_le (by rw [dps_len ha]; exact hz), fun p hp => ?_⟩
              have ok3 := ok2.newH (o := .lst a) hp
              exact q p a F2 _ ⟨ex, ok3.ff, fun a o z => ok3.gh a o (fun _ z => nomatch z) z, ok3.nw⟩ (ok2.ff.free hp) (ok2.fresh hp) upd_same ha
          · cases h3
    · cases h3
end
section
variable {X : Cx} {EW : EWT} {pos : Pos}
def mSetOc (i : Nat) (f : List D → Option (List D)) (ma : M (List Vw)) : MS := mThen ma fun ws => mThen (frcs ws) fun ds => match f ds with
  | some ys => asgO i (.lst ys)
  | none => fun _ => none
theorem qs_setOc {k : Nat} {ps : List Str} {fm : List D → Option (List D)} (i : Nat) {x y : Str} {p pos' : Pos} {e : Expr} {es : List Expr} {ta : TA} {ma : M (List Vw)} (C : CalD X.prog X.w X.K X.mg X.base k x ps (spO X.K fm)) (hr : Room k X.A) (hN : X.N.Nodup)
    (ha : QA X EW (e :: es) ta ma) (hg : Gl X x := by rfl) (hdb : (x == ("__debug__" : Str)) = false := by decide) (he : starEach (e :: es) X.env = (false, eval e X.env) :: starEach es X.env := by rfl) (hpl : ∀ cpos, (backTo cpos (starEach es X.env)).any (·.1) = false := by intro _; rfl)
    (hi : X.N[i]? = some y := by rfl) (hx : Loc X.env.scope y := by first | exact Or.inl rfl | exact Or.inr rfl) {cpos : Pos} (hs : swapsWith (.Call (.Name x p) (e :: es) [] cpos) (some (.Name y pos')) pos.line X.env = pure false := by rfl)
    (hf : X.fn y = true ∨ X.env.scope.names.lookup y = some .local := by first | exact .inl rfl | exact .inr rfl) : QS X EW (.Assign [.Name y pos'] (.Call (.Name x p) (e :: es) [] cpos) pos) (tAsg (tCall (spO X.K fm) [] E0 ta) (gName i)) (mSetOc i fm ma) := by
  obtain ⟨f, fd, hF, hm, hk, hb⟩ := C
  refine ⟨ps_set hN hi hx (pe_call hF hr hg hm hk hb .nil pass0 ha.pa hdb he (hpl cpos)) hs hf, ?_⟩
  refine then_sm (R := VwsOk) (k := fun D σ vs H1 => spO X.K fm (vs ++ []) H1 (fun v H2 => D.nx (σ.set i (some v)) H2) E0) ha.sm fun g F H σ ρ xs ws hK ok hab r ρ' e D q => ?_
  unfold mThen at e
  cases h1 : frcs ws ρ with
  | none => rw [h1] at e; cases e
  | some p =>
    obtain ⟨r1, ρ1⟩ := p
    obtain ⟨ds, F1, rfl, e1, ok1, q1⟩ := frcs_ok ok hab h1
    rw [h1] at e
    simp only at e
    cases h2 : fm ds with
    | none => rw [h2] at e; cases e
    | some ys =>
      rw [h2] at e
      obtain ⟨rfl, rfl⟩ := asgO_some e
      rw [List.append_nil, ← hK]
      refine ⟨F1, ds, ys, ok1.ff, q1, h2, fun l us F' H' gr fl hl hl' hus => ?_⟩
      have ok2 := ok1.call gr
      refine q F' H' _ (e1.trans gr.ff) (ok2.setO2 fl (ok1.fresh hl) ⟨us, hl', hus⟩ fun j s l' a b c z => ?_)
      subst z
      have hsl := ok1.sl j s _ a c
      cases s with
      | un => cases b
      | dat d => cases b
      | own o =>
        obtain ⟨l2, z1, z2, z3, z4⟩ := hsl
        cases z1
        obtain ⟨u, hu⟩ := oo_some z3
        rw [hl] at hu; cases hu
      | par o =>
        obtain ⟨l2, z1, z2, z3, z4⟩ := hsl
        cases z1
        obtain ⟨u, hu⟩ := oo_some z3
        rw [hl] at hu; cases hu
end
end Dat
namespace Dat
open PySem L2
theorem bb_len : bootBuiltins "len" = some (.builtin "len") := by decide +kernel
theorem bb_abs : bootBuiltins "abs" = some (.builtin "abs") := by decide +kernel
theorem bb_max : bootBuiltins "max" = some (.builtin "max") := by decide +kernel
theorem bb_sorted : bootBuiltins "sorted" = some (.builtin "sorted") := by decide +kernel
theorem bb_int : bootBuiltins "int" = some (.type "int") := by decide +kernel
theorem bb_str : bootBuiltins "str" = some (.type "str") := by decide +kernel
theorem bb_tuple : bootBuiltins "tuple" = some (.type "tuple") := by decide +kernel
theorem bb_list : bootBuiltins "list" = some (.type "list") := by decide +kernel
theorem bb_set : bootBuiltins "set" = some (.type "set") := by decide +kernel
theorem bb_bool : bootBuiltins "bool" = some (.type "bool") := by decide +kernel
theorem u1 {k : Nat} {A : Around} (hr : Room k A) : A.units + 1 < cLine := by have := hr.un; omega
theorem u65 {k : Nat} {A : Around} (hr : Room k A) : A.units + 65 < cLine := by have := hr.un; omega
theorem u64 {k : Nat} {A : Around} (hr : Room k A) : A.units + 64 < cLine := by have := hr.un; omega
/-! ### the rules with the frame named: for the inside of a comprehension -/
section
variable {X : Cx} {EW : EWT} {pos : Pos} {K : PySem.W.Frag}
theorem k_plus (hK : X.K = K) : OpR X (binaryOp .Add) (rPlus K) := hK ▸ op_plus
theorem k_eq (hK : X.K = K) (hu : X.A.units + 64 < cLine) : OpR X (compareOp .Eq) (rEqD K) := hK ▸ op_eqD hu
theorem k_ne (hK : X.K = K) (hu : X.A.units + 64 < cLine) : OpR X (compareOp .NotEq) (rNeD K) := hK ▸ op_neD hu
theorem k_in (hK : X.K = K) (hu : X.A.units + 65 < cLine) : OpR X (compareOp .In) (rInS K) := hK ▸ op_inS' hu
theorem k_notIn (hK : X.K = K) (hu : X.A.units + 65 < cLine) : OpR X (compareOp .NotIn) (rNotInS K) := hK ▸ op_notInS' hu
theorem k_ix (hK : X.K = K) : IxR X (rIx K) := hK ▸ ix_seq
theorem k_len (hK : X.K = K) : CallR X (.builtin "len") (fun xs H Q => ∃ x n, xs = [x] ∧ LenV K x H n ∧ Q (.int n) H) := hK ▸ call_len
theorem k_tuple (hK : X.K = K) : CallR X (.type "tuple") (fun xs H Q => ∃ p ys, xs = [.ref p] ∧ ((SqL K H p ys ∧ ∀ l, H l = none → Q (.ref l) (upd H l (.tup ys))) ∨ (SqT K H p ys ∧ Q (.ref p) H))) := hK ▸ call_tuple_of
theorem k_list (hK : X.K = K) : CallR X (.type "list") (fun xs H Q => ∃ p ys, xs = [.ref p] ∧ (SqL K H p ys ∨ SqT K H p ys) ∧ ∀ l, H l = none → Q (.ref l) (upd H l (.lst ys))) := hK ▸ call_list_of
theorem k_max (hK : X.K = K) (hc : X.calm = true) : CallR X (.builtin "max") (rMax K) := hK ▸ cr_max hc
theorem k_sort (hK : X.K = K) : CallR X (.builtin "sorted") (fun xs H Q => rSortedI K xs H Q ∨ rSortedS K xs H Q) := hK ▸ cr_sortedI.or cr_sortedS
theorem qe_callDk (hK : X.K = K) {k : Nat} {ps : List Str} {fm : List D → Option D} {x : Str} {p : Pos} {e : Expr} {es : List Expr} {ta : TA} {ma : M (List Vw)} (C : CalD X.prog X.w X.K X.mg X.base k x ps (spP K fm)) (hr : Room k X.A)
    (ha : QA X EW (e :: es) ta ma) (hg : Gl X x := by rfl) (hdb : (x == ("__debug__" : Str)) = false := by decide) (he : starEach (e :: es) X.env = (false, eval e X.env) :: starEach es X.env := by rfl) (hpl : (backTo pos (starEach es X.env)).any (·.1) = false := by rfl) :
    QE X EW (.Call (.Name x p) (e :: es) [] pos) (tCall (spP K fm) [] E0 ta) (mCall fm ma) := by
  subst hK
  exact qe_callD C hr ha hg hdb he hpl
theorem qe_callBDk (hK : X.K = K) {k : Nat} {ps : List Str} {fm : O → List D → Option (D × O)} {x : Str} {p : Pos} {e : Expr} {es : List Expr} {ta : TA} {ma : M (List Vw)} (C : CalD X.prog X.w X.K X.mg X.base k x ps (spB K fm)) (hr : Room k X.A)
    (ha : QA X EW (e :: es) ta ma) (hg : Gl X x := by rfl) (hdb : (x == ("__debug__" : Str)) = false := by decide) (he : starEach (e :: es) X.env = (false, eval e X.env) :: starEach es X.env := by rfl) (hpl : (backTo pos (starEach es X.env)).any (·.1) = false := by rfl) :
    QE X EW (.Call (.Name x p) (e :: es) [] pos) (tCall (spB K fm) [] E0 ta) (mCallB fm ma) := by
  subst hK
  exact qe_callBD C hr ha hg hdb he hpl
theorem qg_tupk (hK : X.K = K) {es : List Expr} {k : Nat} {t : TGs} {n : Nat} {vars : List Nat} {m : GMs} (hc : X.calm = true) (h : QGs X es t vars m)
    (hn : (assignEach es X.env).length = n := by rfl) (hst : (assignEach es X.env).findIdx? (·.1) = none := by rfl) : QG X (.Tuple es k pos) (gTup K n t) vars (gmTup n m) := by
  subst hK
  exact qg_tup hc h hn hst
theorem qi_listk (hK : X.K = K) {tg l : Expr} {tl : TE} {ma : M Vw} (h : QE X EW l tl ma) : QI X EW tg l (iList K tl) (mSeqL ma) := by
  subst hK
  exact qi_list h
theorem qi_tupk (hK : X.K = K) {tg l : Expr} {tl : TE} {ma : M Vw} (h : QE X EW l tl ma) : QI X EW tg l (iTup K tl) (mSeqT ma) := by
  subst hK
  exact qi_tup h
theorem qe_isik (hK : X.K = K) {T : String} {x : Str} {f : D → Bool} (hi : IsiOk T f) {e : Expr} {te : TE} {ma : M Vw} {p p2 : Pos} (hg : Gl X "isinstance") (hm : X.mg "isinstance" = none) (hg2 : Gl X x) (hm2 : X.mg x = none) (hv2 : bootBuiltins x = some (.type T)) (h : QE X EW e te ma)
    (hn : x ≠ "__name__" := by decide) (hd : (x == ("__debug__" : Str)) = false := by decide)
    (he : starEach [e, .Name x p2] X.env = (false, eval e X.env) :: starEach [.Name x p2] X.env := by rfl) (he2 : starEach [.Name x p2] X.env = (false, eval (.Name x p2) X.env) :: starEach [] X.env := by rfl) (hpl : (backTo pos (starEach [.Name x p2] X.env)).any (·.1) = false := by rfl) :
    QE X EW (.Call (.Name "isinstance" p) [e, .Name x p2] [] pos) (tCB (rIsi K) (tCons te (tCons (tC (.ty T)) tNil))) (mOp1 (fIsi f) ma) := by
  subst hK
  exact qe_isi hi hg hm hg2 hm2 hv2 h hn hd he he2 hpl
end
end Dat
namespace Dat
open PySem L2
/-! ### one turn of a loop, of a comprehension -/
def stepS (gm : GM) (body : MS) (d : D) : MS := fun ρ => match gm d ρ with
  | none => none
  | some ρ1 => body ρ1
theorem loopS_fold {α β : Type} {gm : GM} {body : MS} {enc : α → D} (I : Nat → β → List Sl → Prop) (f : β → α → β) (xs : List α) :
    ∀ (k : Nat) (b : β) (ρ : List Sl), (∀ n x, xs[n]? = some x → ∀ b ρ, I (k + n) b ρ → ∃ r ρ2, stepS gm body (enc x) ρ = some (r, ρ2) ∧ (r = .nx ∨ r = .ct) ∧ I (k + n + 1) (f b x) ρ2) → I k b ρ →
      ∃ ρ', loopS gm body (xs.map enc) ρ = some (.nx, ρ') ∧ I (k + xs.length) (xs.foldl f b) ρ' := by
  induction xs with
  | nil => exact fun k b ρ _ h => ⟨ρ, rfl, h⟩
  | cons x xs ih =>
    intro k b ρ h hI
    obtain ⟨r, ρ2, e, hr, h2⟩ := h 0 x rfl b ρ hI
    obtain ⟨ρ', e', h'⟩ := ih (k + 1) (f b x) ρ2 (fun n y hy b ρ hI => by
      have := h (n + 1) y (by simpa using hy) b ρ (by rw [show k + (n + 1) = k + 1 + n by omega]; exact hI)
      rw [show k + (n + 1) + 1 = k + 1 + n + 1 by omega] at this
      exact this) h2
    refine ⟨ρ', ?_, ?_⟩
    · rw [List.map_cons]
      unfold loopS
      unfold stepS at e
      cases q : gm (enc x) ρ with
      | none => rw [q] at e; cases e
      | some ρ1 =>
        rw [q] at e
        simp only at e ⊢
        rw [e]
        rcases hr with rfl | rfl <;> exact e'
    · rw [List.length_cons, List.foldl_cons, show k + (xs.length + 1) = k + 1 + xs.length by omega]; exact h'
theorem mFor_fold {α β : Type} {mi : M (List D)} {gm : GM} {body : MS} {enc : α → D} (I : Nat → β → List Sl → Prop) (f : β → α → β) (xs : List α) {b : β} {ρ ρ0 : List Sl} (hi : mi ρ = some (.ok (xs.map enc), ρ0))
    (h : ∀ n x, xs[n]? = some x → ∀ b ρ, I n b ρ → ∃ r ρ2, stepS gm body (enc x) ρ = some (r, ρ2) ∧ (r = .nx ∨ r = .ct) ∧ I (n + 1) (f b x) ρ2) (h0 : I 0 b ρ0) :
      ∃ ρ', mFor mi gm body ρ = some (.nx, ρ') ∧ I xs.length (xs.foldl f b) ρ' := by
  obtain ⟨ρ', e, h'⟩ := loopS_fold (gm := gm) (body := body) (enc := enc) I f xs 0 b ρ0 (fun n x hx b ρ hI => by rw [Nat.zero_add] at *; exact h n x hx b ρ hI) h0
  refine ⟨ρ', ?_, by rw [Nat.zero_add] at h'; exact h'⟩
  unfold mFor mThen
  rw [hi]
  exact e
def stepC (gm : GM) (mt : M Bool) (me : M Vw) (vs : List Nat) (d : D) (ρ : List Sl) : Option (Option D × List Sl) := match gm d ρ with
  | none => none
  | some ρ1 => match mt ρ1 with
    | some (.ok true, ρ2) => (match mBind me frc ρ2 with
      | some (.ok y, ρ3) => some (some y, wipeS ρ3 vs)
      | _ => none)
    | some (.ok false, ρ2) => some (none, wipeS ρ2 vs)
    | _ => none
theorem loopC_step {gm : GM} {mt : M Bool} {me : M Vw} {vs : List Nat} {d : D} {ds : List D} {ρ ρ2 : List Sl} {acc : List D} {y : Option D} (h : stepC gm mt me vs d ρ = some (y, ρ2)) (hl : acc.length < BIG) :
    loopC gm mt me vs (d :: ds) ρ acc = loopC gm mt me vs ds ρ2 (acc ++ y.toList) := by
  unfold stepC at h
  rw [loopC]
  cases q : gm d ρ with
  | none => rw [q] at h; cases h
  | some ρ1 =>
    rw [q] at h
    simp only at h ⊢
    cases q2 : mt ρ1 with
    | none => rw [q2] at h; cases h
    | some p =>
      obtain ⟨r, ρ3⟩ := p
      rw [q2] at h
      cases r with
      | er c => cases h
      | ok b =>
        cases b with
        | false =>
          cases h
          simp
        | true =>
          simp only at h ⊢
          cases q3 : mBind me frc ρ3 with
          | none => rw [q3] at h; cases h
          | some p =>
            obtain ⟨r, ρ4⟩ := p
            rw [q3] at h
            cases r with
            | er c => cases h
            | ok y' =>
              cases h
              simp only
              rw [if_pos hl]; rfl
theorem loopC_fold {α : Type} {gm : GM} {mt : M Bool} {me : M Vw} {vs : List Nat} {enc : α → D} (I : Nat → List D → List Sl → Prop) (xs : List α) :
    ∀ (k : Nat) (acc : List D) (ρ : List Sl), acc.length + xs.length ≤ BIG → (∀ n x, xs[n]? = some x → ∀ acc ρ, I (k + n) acc ρ → ∃ y ρ2, stepC gm mt me vs (enc x) ρ = some (y, ρ2) ∧ I (k + n + 1) (acc ++ y.toList) ρ2) → I k acc ρ →
      ∃ acc' ρ', loopC gm mt me vs (xs.map enc) ρ acc = some (acc', ρ') ∧ I (k + xs.length) acc' ρ' := by
  induction xs with
  | nil => exact fun k acc ρ _ _ h => ⟨acc, ρ, rfl, h⟩
  | cons x xs ih =>
    intro k acc ρ hl h hI
    rw [List.length_cons] at hl
    obtain ⟨y, ρ2, e, h2⟩ := h 0 x rfl acc ρ hI
    have hy : y.toList.length ≤ 1 := by cases y <;> simp
    obtain ⟨acc', ρ', e', h'⟩ := ih (k + 1) (acc ++ y.toList) ρ2 (by rw [List.length_append]; omega) (fun n z hz acc ρ hI => by
      have := h (n + 1) z (by simpa using hz) acc ρ (by rw [show k + (n + 1) = k + 1 + n by omega]; exact hI)
      rw [show k + (n + 1) + 1 = k + 1 + n + 1 by omega] at this
      exact this) h2
    refine ⟨acc', ρ', ?_, ?_⟩
    · rw [List.map_cons, loopC_step e (by omega)]; exact e'
    · rw [List.length_cons, show k + (xs.length + 1) = k + 1 + xs.length by omega]; exact h'
theorem mLc_fold {α : Type} {mi : M (List D)} {gm : GM} {mt : M Bool} {me : M Vw} {vs : List Nat} {enc : α → D} (I : Nat → List D → List Sl → Prop) (xs : List α) {ρ ρ0 : List Sl} (hi : mi ρ = some (.ok (xs.map enc), ρ0)) (hl : xs.length ≤ BIG)
    (h : ∀ n x, xs[n]? = some x → ∀ acc ρ, I n acc ρ → ∃ y ρ2, stepC gm mt me vs (enc x) ρ = some (y, ρ2) ∧ I (n + 1) (acc ++ y.toList) ρ2) (h0 : I 0 [] (wipeS ρ0 vs)) :
      ∃ acc' ρ', mLc mi gm mt me vs ρ = some (.ok (.dat (.list acc')), wipeS ρ' vs) ∧ I xs.length acc' ρ' := by
  obtain ⟨acc', ρ', e, h'⟩ := loopC_fold (gm := gm) (mt := mt) (me := me) (vs := vs) (enc := enc) I xs 0 [] (wipeS ρ0 vs) (by simpa using hl) (fun n x hx b ρ hI => by rw [Nat.zero_add] at *; exact h n x hx b ρ hI) h0
  refine ⟨acc', ρ', ?_, by rw [Nat.zero_add] at h'; exact h'⟩
  unfold mLc mBind
  rw [hi]
  simp only
  unfold compL
  rw [e]; rfl
/-- one that leaves all else as it was -/
theorem mLc_pure {α : Type} {mi : M (List D)} {gm : GM} {mt : M Bool} {me : M Vw} {vs : List Nat} {enc : α → D} (ψ : α → Option D) (xs : List α) {ρ ρ0 : List Sl} (hi : mi ρ = some (.ok (xs.map enc), ρ0)) (hl : xs.length ≤ BIG)
    (h : ∀ x ∈ xs, stepC gm mt me vs (enc x) (wipeS ρ0 vs) = some (ψ x, wipeS ρ0 vs)) :
      mLc mi gm mt me vs ρ = some (.ok (.dat (.list (xs.filterMap ψ))), wipeS (wipeS ρ0 vs) vs) := by
  obtain ⟨acc, ρ', e, rfl, h2⟩ := mLc_fold (gm := gm) (mt := mt) (me := me) (vs := vs) (enc := enc) (fun n acc ρ => ρ = wipeS ρ0 vs ∧ acc = (xs.take n).filterMap ψ) xs hi hl (fun n x hx acc ρ hI => by
    obtain ⟨rfl, rfl⟩ := hI
    refine ⟨ψ x, _, h x (List.mem_of_getElem? hx), rfl, ?_⟩
    rw [List.take_add_one, hx, List.filterMap_append]
    cases q : ψ x <;> simp [q]) ⟨rfl, rfl⟩
  rw [e, h2, List.take_length]
/-- a slot that is no parameter's -/
def np : Sl → Bool
  | .par _ => false
  | _ => true
def npAt (i : Nat) (ρ : List Sl) : Bool := match ρ[i]? with
  | some s => np s
  | none => false
theorem asgD_np {i : Nat} {d : D} {ρ : List Sl} (h : npAt i ρ = true) : asgD i d ρ = some (ρ.set i (.dat d)) := by
  unfold npAt at h
  unfold asgD
  cases q : ρ[i]? with
  | none => rw [q] at h; cases h
  | some s => rw [q] at h; cases s <;> first | rfl | cases h
theorem asgO_np {i : Nat} {o : O} {ρ : List Sl} (h : npAt i ρ = true) : asgO i o ρ = some (.nx, ρ.set i (.own o)) := by
  unfold npAt at h
  unfold asgO
  cases q : ρ[i]? with
  | none => rw [q] at h; cases h
  | some s => rw [q] at h; cases s <;> first | rfl | cases h
theorem np_un : np .un = true := rfl
theorem np_dat (d : D) : np (.dat d) = true := rfl
theorem np_own (o : O) : np (.own o) = true := rfl
end Dat
namespace Dat
open PySem L2
theorem mBind_ok {α β : Type} {m : M α} {f : α → M β} {a : α} {ρ ρ1 : List Sl} (h : m ρ = some (.ok a, ρ1)) : mBind m f ρ = f a ρ1 := by
  unfold mBind; rw [h]
theorem asI_ok {w : Vw} {j : Int} {ρ : List Sl} (h : rdD w ρ = some (.int j)) : asI w ρ = some (.ok j, ρ) := by
  unfold asI; rw [h]
theorem mRng1_ok {ma : M Vw} {w : Vw} {j : Int} {ρ ρ1 : List Sl} (h : ma ρ = some (.ok w, ρ1)) (hw : rdD w ρ1 = some (.int j)) : mRng1 ma ρ = rngI 0 j ρ1 := by
  unfold mRng1
  rw [mBind_ok h, mBind_ok (asI_ok hw)]
theorem rng_ok {n : Nat} (h : n ≤ 1000) {j : Int} (hj : j = (n : Int)) (ρ : List Sl) : rngI 0 j ρ = some (.ok ((List.range n).map fun (i : Nat) => .int (0 + (i : Int))), ρ) := by
  subst hj
  unfold rngI Dat.upTo
  rw [if_pos (by omega)]
  simp
theorem mRng1_at {ma : M Vw} {w : Vw} {j : Int} {n : Nat} {ρ ρ1 : List Sl} (h : ma ρ = some (.ok w, ρ1)) (hw : rdD w ρ1 = some (.int j)) (hn : n ≤ 1000) (hj : j = (n : Int)) : mRng1 ma ρ = some (.ok ((List.range n).map fun (i : Nat) => .int (0 + (i : Int))), ρ1) := by
  rw [mRng1_ok h hw, rng_ok hn hj]
theorem le_big {n : Nat} (h : n ≤ 1000) : n ≤ BIG := Nat.le_trans h (by decide)
end Dat
namespace Dat
open PySem L2
theorem mSeq_ok {m n : MS} {ρ ρ1 : List Sl} (h : m ρ = some (.nx, ρ1)) : mSeq m n ρ = n ρ1 := by
  unfold mSeq; rw [h]
theorem mAsg_ok {ma : M Vw} {gm : GM} {d : D} {ρ ρ1 ρ2 : List Sl} (h : ma ρ = some (.ok (.dat d), ρ1)) (hg : gm d ρ1 = some ρ2) : mAsg ma gm ρ = some (.nx, ρ2) := by
  unfold mAsg mThen
  rw [h]
  show mThen (frc (.dat d)) (asgS gm) ρ1 = _
  unfold mThen frc
  show asgS gm d ρ1 = _
  unfold asgS
  rw [hg]
theorem mOp2_ok {f : D → D → Option D} {ma mb : M Vw} {a b : Vw} {d e z : D} {ρ ρ1 ρ2 : List Sl} (ha : ma ρ = some (.ok a, ρ1)) (hb : mb ρ1 = some (.ok b, ρ2)) (h1 : rdD a ρ2 = some d) (h2 : rdD b ρ2 = some e) (hf : f d e = some z) : mOp2 f ma mb ρ = some (.ok (.dat z), ρ2) := by
  unfold mOp2
  rw [mBind_ok ha, mBind_ok hb]
  unfold app2
  simp only [h1, h2, hf]
theorem mOp1_ok {f : D → Option D} {ma : M Vw} {a : Vw} {d z : D} {ρ ρ1 : List Sl} (ha : ma ρ = some (.ok a, ρ1)) (h1 : rdD a ρ1 = some d) (hf : f d = some z) : mOp1 f ma ρ = some (.ok (.dat z), ρ1) := by
  unfold mOp1
  rw [mBind_ok ha]
  unfold app1
  simp only [h1, hf]
theorem mRetS_ok {ma : M Vw} {d : D} {ρ ρ1 : List Sl} (h : ma ρ = some (.ok (.dat d), ρ1)) : mRetS ma ρ = some (.rt d, ρ1) := by
  unfold mRetS mThen
  rw [h]
  rfl
theorem mIfS_ok {mt : M Bool} {b : Bool} {m n : MS} {ρ ρ1 : List Sl} (h : mt ρ = some (.ok b, ρ1)) : mIfS mt m n ρ = if b = true then m ρ1 else n ρ1 := by
  unfold mIfS mThen
  rw [h]
  cases b <;> rfl
theorem mAsB_ok {ma : M Vw} {w : Vw} {b : Bool} {ρ ρ1 : List Sl} (h : ma ρ = some (.ok w, ρ1)) (hw : rdD w ρ1 = some (.bool b)) : mAsB ma ρ = some (.ok b, ρ1) := by
  unfold mAsB
  rw [mBind_ok h]
  unfold asB
  rw [hw]
end Dat
namespace Dat
open PySem L2
theorem mIf_ok {mt : M Bool} {b : Bool} {m n : M Vw} {ρ ρ1 : List Sl} (h : mt ρ = some (.ok b, ρ1)) : mIf mt m n ρ = if b = true then m ρ1 else n ρ1 := by
  unfold mIf
  rw [mBind_ok h]
  cases b <;> rfl
theorem mAnd_ok {m n : M Bool} {b : Bool} {ρ ρ1 : List Sl} (h : m ρ = some (.ok b, ρ1)) : mAnd m n ρ = if b = true then n ρ1 else some (.ok false, ρ1) := by
  unfold mAnd
  rw [mBind_ok h]
  cases b <;> rfl
theorem mOr_ok {m n : M Bool} {b : Bool} {ρ ρ1 : List Sl} (h : m ρ = some (.ok b, ρ1)) : mOr m n ρ = if b = true then some (.ok true, ρ1) else n ρ1 := by
  unfold mOr
  rw [mBind_ok h]
  cases b <;> rfl
theorem mNot_ok {m : M Bool} {b : Bool} {ρ ρ1 : List Sl} (h : m ρ = some (.ok b, ρ1)) : mNot m ρ = some (.ok (!b), ρ1) := by
  unfold mNot
  rw [mBind_ok h]
  rfl
theorem mTru_ok {ma : M Vw} {w : Vw} {d : D} {b : Bool} {ρ ρ1 : List Sl} (h : ma ρ = some (.ok w, ρ1)) (hw : rdD w ρ1 = some d) (hb : truD d = some b) : mTru ma ρ = some (.ok b, ρ1) := by
  unfold mTru
  rw [mBind_ok h]
  unfold tru
  rw [hw]
  simp only [hb]
theorem mCallB_par {f : O → List D → Option (D × O)} {ma : M (List Vw)} {ds : List D} {o o' : O} {d : D} {ρ : List Sl} (h0 : ρ[0]? = some (.par o)) (hma : mBind ma frcs ρ = some (.ok ds, ρ)) (hf : f o ds = some (d, o')) : mCallB f (mCons (mVar 0) ma) ρ = some (.ok (.dat d), ρ.set 0 (.par o')) := by
  have h1 : mVar 0 ρ = some (.ok (.loc 0), ρ) := by unfold mVar; rw [h0]
  cases q : ma ρ with
  | none => unfold mBind at hma; rw [q] at hma; cases hma
  | some p =>
    obtain ⟨r, ρ1⟩ := p
    cases r with
    | er c => unfold mBind at hma; rw [q] at hma; cases hma
    | ok ws =>
      rw [mBind_ok q] at hma
      have e : mCons (mVar 0) ma ρ = some (.ok (.loc 0 :: ws), ρ1) := by
        unfold mCons
        rw [mBind_ok h1, mBind_ok q]
        rfl
      unfold mCallB
      rw [mBind_ok e]
      show mBind (frcs ws) _ ρ1 = _
      rw [mBind_ok hma]
      simp only [h0, hf]
theorem mAppend_own {i : Nat} {ma : M Vw} {d : D} {ds0 ds : List D} {ρ ρ1 : List Sl} (h0 : ρ[i]? = some (.own (.lst ds0))) (h : ma ρ = some (.ok (.dat d), ρ1)) (h1 : ρ1[i]? = some (.own (.lst ds))) (hl : ds.length < BIG) : mAppend i ma ρ = some (.nx, ρ1.set i (.own (.lst (ds ++ [d])))) := by
  unfold mAppend isOL
  rw [h0]
  simp only
  unfold mThen
  rw [h]
  simp only [frc]
  unfold ownL pushL
  rw [h1]
  simp only [hl, ↓reduceIte]
theorem mDGet_own {i : Nat} {mk : M Vw} {w : Vw} {k : Key} {d kd : D} {kvs : List (Key × D)} {ρ : List Sl} (h0 : ρ[i]? = some (.own (.dk kvs))) (h : mk ρ = some (.ok w, ρ)) (hw : rdD w ρ = some kd) (hk : toKey kd = some k) (hv : valD kvs k = some d) : mDGet i mk ρ = some (.ok (.dat d), ρ) := by
  unfold mDGet isOwnS
  rw [h0]
  simp only
  rw [mBind_ok h]
  unfold dgetA keyAt dkAt
  rw [hw]
  simp only [Option.bind_some, hk, h0, hv]
end Dat
namespace Dat
open PySem L2 PySem.Spec PyProof.Rows
/-! ### a def's promise at places told by a property of the surroundings (guards, finer depths) -/
structure FnX (P : Program) (w : World) (K : PySem.W.Frag) (mg : Str → Option Value) (base : Heap) (CX : CXT) (R : Around → Prop) (f : Addr) (fd : FuncData) (ps : List Str) (sp : Sp) : Prop where
  len : ∀ vs H Q E, sp vs H Q E → vs.length = ps.length
  run : ∀ (A : Around) (out : List Env) (s : Shared) (H : Hp) (gs : Args) (us : List Value) (vs : List V) (Q : VK) (E : XK),
    R A → Env0 P w K mg base A out s H → BindsTo s fd gs (ps.zip us) → Vals vs us → sp vs H Q E → codeAny (model P w) A (.call (.ref f) gs) (CR CX out P w H s Q E) s
theorem FnX.of {P : Program} {w : World} {K : PySem.W.Frag} {mg : Str → Option Value} {base : Heap} {CX : CXT} {k : Nat} {f : Addr} {fd : FuncData} {ps : List Str} {sp : Sp} (F : FnOk P w K mg base CX k f fd ps sp) : FnX P w K mg base CX (Room k) f fd ps sp :=
  ⟨F.len, fun A out s H gs us vs Q E hr a b c d => F.run A out s H gs us vs Q E hr a b c d⟩
theorem FnX.mono {P : Program} {w : World} {K : PySem.W.Frag} {mg : Str → Option Value} {base : Heap} {CX : CXT} {R R' : Around → Prop} {f : Addr} {fd : FuncData} {ps : List Str} {sp : Sp} (F : FnX P w K mg base CX R f fd ps sp) (h : ∀ A, R' A → R A) : FnX P w K mg base CX R' f fd ps sp :=
  ⟨F.len, fun A out s H gs us vs Q E hr a b c d => F.run A out s H gs us vs Q E (h A hr) a b c d⟩
section
variable {X : Cx} {CX : CXT} {R : Around → Prop} {f : Addr} {fd : FuncData} {ps : List Str} {sp : Sp} {E : XK}
theorem run_fx {pins : List (Addr × Obj)} {σ : L2.St} {H : Hp} {s : Shared} {Q : VK} {us : List Value} {vs : List V} (F : FnX X.prog X.w X.K X.mg X.base CX R f fd ps sp) (hr : R X.A) (hb : Binds X.K fd ps []) (hx : Passes CX X E)
    (I : Inv X pins σ H s) (r : Vals vs us) (h : sp vs H Q E) : wpAny (model X.prog X.w) X.A (call (.ref f) us) (EP X pins σ Q) X.xe s := by
  have hl : (us ++ []).length = ps.length := by rw [List.append_nil, ← r.length]; exact F.len _ _ _ _ h
  have hbb := hb s us I.kIn hl
  rw [List.append_nil] at hbb
  have go := F.run X.A X.stack s H ⟨us, []⟩ us vs Q E hr I.env0 hbb r h
  refine wpAny_call (codeAny_mono go ?_)
  rintro (e | fl) s' hq
  · exact hx pins σ H s e s' I hq
  · cases fl with
    | ret u => exact I.after hq
    | next => exact False.elim hq
    | brk => exact False.elim hq
    | cont => exact False.elim hq
theorem pe_callX {x : Str} {p pos : Pos} {e : Expr} {es : List Expr} {t : TA} (F : FnX X.prog X.w X.K X.mg X.base CX R f fd ps sp) (hr : R X.A) (hg : Gl X x) (hm : X.mg x = some (.ref f)) (hk : PySem.W.keepIn X.K (.ref f) = true) (hb : Binds X.K fd ps []) (hx : Passes CX X E)
    (ha : PA X (e :: es) t) (hdb : (x == ("__debug__" : Str)) = false := by decide) (he : starEach (e :: es) X.env = (false, eval e X.env) :: starEach es X.env := by rfl) (hpl : (backTo pos (starEach es X.env)).any (·.1) = false := by rfl) :
    PE X (.Call (.Name x p) (e :: es) [] pos) (tCall sp [] E t) := by
  refine ⟨fun pins s σ H Q I h => wpAny_Call_Name_kw (ld_glob I hg hm ?_ hdb)⟩
  have arg := thn (ha.run pos pins s σ H _ I h) fun us s1 ⟨vs, H1, I1, r, q⟩ => (show X.K.In s1.heap ∧ _ from ⟨I1.kIn, by
    have q : sp (vs ++ []) H1 Q E := q
    rw [List.append_nil] at q
    exact run_fx F hr hb hx I1 r q⟩)
  exact PySem.W.callWith_K (h₀ := X.base) I.ok.mod.kin hk arg he hpl
end
section
variable {P : Program} {w : World} {K : PySem.W.Frag} {mg : Str → Option Value} {base : Heap} {CX : CXT}
/-- what any surroundings of a def must have -/
structure RBase (A : Around) : Prop where
  hd : A.handled = none
  dp : A.depth < recursionLimit
theorem fx_of {x qual : Str} {st : Stmt} {f : Addr} {fd : FuncData} {N ps : List Str} {R : Around → Prop} {sp : Sp} (F : Fun K x qual st f fd) (S : FnScope N ps (defScope st)) (hR : ∀ A, R A → RBase A) (len : ∀ vs H Q E, sp vs H Q E → vs.length = ps.length)
    (hbody : ∀ (cdv : Value) (A : Around) (out : List Env) (s : Shared) (H : Hp) (vs : List V) (Q : VK) (E : XK), R A → sp vs H Q E →
      ∃ t, PSs (cxOf CX P w K mg base N qual (defScope st) f cdv A out s H E) (defBody st) t ∧ t { nx := fun _ H' => Q .non H', rt := Q } (L2.start N vs) H) : FnX P w K mg base CX R f fd ps sp := by
  obtain ⟨oc, od, kV, doc, pm, an, cdv, ct, osl, rfl, lk, hcd⟩ := F.ex
  refine ⟨len, ?_⟩
  intro A out s H gs us vs Q E hr e0 hb r hsp
  obtain ⟨hh, hdp⟩ := hR A hr
  have hl := len _ _ _ _ hsp
  have keep : ∀ b o, base.get? b = some o → s.heap.get? b = some o := fun b o e => (e0.bs b o e).1
  have KX : K.In s.heap := e0.mod.kin.keeps keep
  have lim : s.heap.NoLimit := e0.mod.nolimit.keeps keep
  have kinds : ∀ y ∈ ps.zip us, (defScope st).names.lookup y.1 = some .local ∨ ((defScope st).names.lookup y.1 = some .cell ∧ ((cellsFrom (s.heap.objs.size + 1) (defScope st).names []).lookup y.1).isSome = true) := by
    rintro ⟨n, v⟩ hy
    exact (S.par n (List.of_mem_zip hy).1).imp id fun q => ⟨q, PySem.W.cellsFrom_some _ _ _ (.inl q)⟩
  obtain ⟨t, ht, hq⟩ := hbody cdv A out s H vs Q E hr hsp
  refine codeAny_call_function hdp (KX _ _ lk) rfl S.co S.gen rfl (PySem.W.codeRec_of KX hcd) (hb _ _ _ _ (wpAny_newFunctionEnv_cells S.kind kinds ?_))
  rintro env he s1 x
  subst he
  refine ⟨lim.keeps x.toInCall.keep, codeAny_func (wpAny_mono (ht.run [] s1 (L2.start N vs) H _ (inv_start S hh e0 hl r x) hq) ?_ fun _ _ z => z)⟩
  intro fl s' hs
  cases fl with
  | next =>
    obtain ⟨σ', H', J, q⟩ := hs
    exact ⟨.non, H', J.os, J.bare, J.base, J.hok, rfl, q⟩
  | brk => exact hs.elim fun _ z => z.elim fun _ y => y.2.elim
  | cont => exact hs.elim fun _ z => z.elim fun _ y => y.2.elim
  | ret u =>
    obtain ⟨v, σ', H', J, rv, q⟩ := hs
    exact ⟨v, H', J.os, J.bare, J.base, J.hok, rv, q⟩
end
end Dat
namespace Dat
open PySem L2 PySem.Spec PyProof.Rows
section
variable {P : Program} {w : World} {K : PySem.W.Frag} {mg mb : Str → Option Value} {CX : CXT} {R : Around → Prop} {fa a : Addr} {fd : FuncData} {x : Str} {sp : Sp} {s₁ : Shared} {vs : List Value} {ns : List Int}
/-- what the outermost call gives back -/
abbrev TopR (s₁ : Shared) (r : Result) (s' : Shared) : Prop := r = .ok (.ret (.bool true)) ∧ OldK s₁.heap s'.heap ∧ s'.os = s₁.os ∧ AllBare s'.gens
theorem top_core (KX : K.In s₁.heap) (hns : s₁.heap.Ns mainGlobals mg) (hb : s₁.heap.Ns builtinsNs mb) (hbb : ∀ x : Str, x ≠ "__name__" → mb x = bootBuiltins x) (hlim : s₁.heap.NoLimit) (hg : s₁.gens = #[])
    (ha : s₁.heap.get? a = some { cls := .type "list", data := .seq vs.toArray }) (hr : R callerA) (F : ∀ base : Heap, K.In base → base.Ns mainGlobals mg → FnX P w K mg base CX R fa fd [x] sp)
    (hbind : ∀ (s : Shared) (u : Value), BindsTo s fd ⟨[u], []⟩ [(x, u)]) (hCX : ∀ H e s', CX [] H s₁ (fun _ _ _ => False) e s' → False) (H : Hp) (hO : Only H) (hsp : sp [.ref a] H (fun v _ => v = .bl true) fun _ _ _ => False)
    (hok : HOk P w H s₁.heap) (hA : ∀ b, H b ≠ none → b = a) (hK : H a ≠ none → K.lookup a = none) : codeAny (model P w) callerA (.call (.ref fa) ⟨[.ref a], []⟩) (TopR s₁) s₁ := by
  have free : ∀ {b : Addr} {o : Obj} {es : Array DictEntry} {ep : Nat}, s₁.heap.get? b = some o → o.data = .dict es ep → H b = none := by
    intro b o es ep e d
    refine Option.eq_none_iff_forall_ne_some.mpr fun u hu => ?_
    have e' := hA b (by rw [hu]; simp)
    subst e'
    rw [ha] at e
    cases e
    exact nomatch (show Data.seq vs.toArray _ = Data.dict es ep from d)
  have space : ∀ {b : Addr} {m : Str → Option Value}, s₁.heap.Ns b m → (hidT s₁.heap H).Ns b m := by
    rintro b m ⟨o, es, ep, e, d, r⟩
    exact ⟨o, es, ep, hidT_get e (free e d), d, r⟩
  have KB : K.In (hidT s₁.heap H) := by
    intro b o e
    refine hidT_get (KX b o e) (Option.eq_none_iff_forall_ne_some.mpr fun u hu => ?_)
    have e' := hA b (by rw [hu]; simp)
    subst e'
    rw [hK (by rw [hu]; simp)] at e
    cases e
  obtain ⟨mc, l1, l2⟩ := hlim
  have MB : Mod K mg (hidT s₁.heap H) := ⟨KB, space hns, ⟨mb, space hb, hbb⟩, ⟨mc, space l1, l2⟩⟩
  have none_in : ∀ b : Addr, b ∉ ([] : List Addr) := fun b z => nomatch z
  have e0 : Env0 P w K mg (hidT s₁.heap H) callerA [] s₁ H := ⟨rfl, MB, fun b o e => of_hidT e, Nat.le_of_eq (hidT_size _ _), trivial, fun b z => absurd z (none_in b), hok, .of_eq hg⟩
  have go := (F _ KB (space hns)).run callerA [] s₁ H ⟨[.ref a], []⟩ [.ref a] [.ref a] _ _ hr e0 (hbind s₁ (.ref a)) (.cons rfl .nil) hsp
  refine codeAny_mono go ?_
  rintro (e | fl) s' h
  · exact (hCX H e s' h).elim
  · cases fl with
    | next => exact False.elim h
    | brk => exact False.elim h
    | cont => exact False.elim h
    | ret u =>
      obtain ⟨v, H', os, bare, un, hok', r', rfl⟩ := h
      cases r'
      refine ⟨rfl, OldK.of_keep ?_, os, bare⟩
      intro b o e
      cases q : H b with
      | none => exact un.keep b o e q (none_in b) (none_in b)
      | some u =>
        rcases hO b with z | ⟨ob, xs, z⟩
        · rw [q] at z; cases z
        · have f1 := (hok b _ z).1
          have f2 := (hok' b _ (un.frzs b ob _ z)).1
          rw [e] at f1
          cases f1
          exact f2
theorem top_call (KX : K.In s₁.heap) (hns : s₁.heap.Ns mainGlobals mg) (hb : s₁.heap.Ns builtinsNs mb) (hbb : ∀ x : Str, x ≠ "__name__" → mb x = bootBuiltins x) (hlim : s₁.heap.NoLimit) (hg : s₁.gens = #[])
    (ha : s₁.heap.get? a = some { cls := .type "list", data := .seq vs.toArray }) (hi : IntsAre vs ns) (hl : ns.length ≤ sizeLine) (hr : R callerA) (F : ∀ base : Heap, K.In base → base.Ns mainGlobals mg → FnX P w K mg base CX R fa fd [x] sp)
    (hbind : ∀ (s : Shared) (u : Value), BindsTo s fd ⟨[u], []⟩ [(x, u)]) (hCX : ∀ H e s', CX [] H s₁ (fun _ _ _ => False) e s' → False)
    (hsp : ∀ H : Hp, Only H → SqL K H a (ns.map V.int) → sp [.ref a] H (fun v _ => v = .bl true) fun _ _ _ => False) : codeAny (model P w) callerA (.call (.ref fa) ⟨[.ref a], []⟩) (TopR s₁) s₁ := by
  have rv := vals_ints hi
  have go := top_core (P := P) (w := w) (CX := CX) KX hns hb hbb hlim hg ha hr F hbind hCX
  cases hk : K.lookup a with
  | some o =>
    have e := KX a o hk
    rw [ha] at e
    cases e
    have only : Only (fun _ => none) := fun _ => .inl rfl
    have seq : SqL K (fun _ => none) a (ns.map V.int) := .inr ⟨_, vs.toArray, _, hk, rfl, rfl, rfl, by rw [List.size_toArray, hi.length]; exact hl, by simpa using rv⟩
    exact go _ only (hsp _ only seq) (fun b u z => nomatch z) (fun b z => absurd rfl z) fun z => absurd rfl z
  | none =>
    let H : Hp := fun b => if b = a then some (.frz { cls := .type "list", data := .seq vs.toArray } (.lst (ns.map V.int))) else none
    have at_a : H a = some (.frz { cls := .type "list", data := .seq vs.toArray } (.lst (ns.map V.int))) := if_pos rfl
    have off : ∀ b, b ≠ a → H b = none := fun b h => if_neg h
    have only : Only H := fun b => by
      by_cases h : b = a
      · subst h; exact .inr ⟨_, _, at_a⟩
      · exact .inl (off b h)
    refine go H only (hsp H only (.inl (.inr ⟨_, at_a⟩))) (fun b u z => ?_) (fun b z => ?_) fun _ => hk
    · by_cases h : b = a
      · subst h
        rw [at_a] at z
        cases z
        exact ⟨ha, by rw [List.length_map]; exact hl, vs, _, rv, ha⟩
      · rw [off b h] at z; cases z
    · exact Classical.byContradiction fun h => z (off b h)
end
/-- the goal that k_head leaves, for a promise at the outermost surroundings alone -/
theorem walk_ofX {l : PySem.W.OpenLaw} {n : Nat} {q : Program} {loose : List Str} {XP : (Str → Option Value) → Heap → Prop} {YP : World → Heap → Prop} {d : DefRec} {K : Params → PySem.W.Frag} {CX : World → CXT} {sp : World → Sp} {x : Str} {R : Around → Prop}
    (hn : l.most = some n) (hn2 : n ≤ sizeLine) (hdf : d.params.defaults = []) (hr : R callerA) (hY : ∀ (w : World) (h : Heap), YP w h → (K w.params).In h)
    (F : ∀ (w : World) (mg : Str → Option Value) (fa : Addr) (h : Heap), (K w.params).In h → h.Ns mainGlobals mg → mg d.name = some (.ref fa) →
      ∃ fd : FuncData, (∀ (s : Shared) (u : Value), BindsTo s fd ⟨[u], []⟩ [(x, u)]) ∧ ∀ base : Heap, (K w.params).In base → base.Ns mainGlobals mg → FnX l.prog w (K w.params) mg base (CX w) R fa fd [x] (sp w))
    (hsp : ∀ (w : World) (H : Hp) (a : Addr) (ns : List Int), ns.length ≤ n → Only H → SqL (K w.params) H a (ns.map V.int) → sp w [.ref a] H (fun v _ => v = .bl true) fun _ _ _ => False)
    (hCX : ∀ (w : World) (H : Hp) (s : Shared) (e : Value) (s' : Shared), CX w [] H s (fun _ _ _ => False) e s' → False) : PySem.W.WalkO q loose XP YP l.row.toRowW d [] (fun f vs => PySem.call f vs) := by
  refine Att.attach_call hn hdf ?_
  intro w s₀ s₁ mg mb fa o pm cd doc a vs ns G Y ho hd hcd hmg hobj hints hlen hg
  have KX := hY w _ Y
  obtain ⟨fd, hb, hF⟩ := F w mg fa _ KX G.T.g hmg
  exact top_call KX G.T.g G.T.b G.T.builtins G.T.nolimit hg hobj hints (Nat.le_trans hlen hn2) hr hF hb (fun H e s' => hCX w H s₁ e s') fun H hO hS => hsp w H a ns hlen hO hS
end Dat
namespace Dat
open PySem L2 PySem.Spec PyProof.Rows
/-! ### one exception class of the program's own, raised without arguments -/
/-- what the frame tells of the class at C, called x -/
structure XCls (K : PySem.W.Frag) (mg : Str → Option Value) (x : Str) (C : Addr) : Prop where
  mgc : mg x = some (.ref C)
  kp : PySem.W.keepIn K (.ref C) = true
  ex : ∃ (bmB : List Value) (B newId initId : String), ExcBaseFacts B newId initId bmB ∧ PySem.W.excIn K C bmB newId = true
  sub : PySem.W.subIn K (.ref C) (.type "BaseException") = some true
  ty : PySem.W.typeIn K (.ref C) = some (.type "type")
  own : PySem.W.exmOne K (.ref C) (.ref C) = some true
section
variable {X : Cx} {C : Addr}
theorem pmk_own0 {x : Str} {p pos : Pos} (k : XCls X.K X.mg x C) (hg : Gl X x) (hdb : (x == ("__debug__" : Str)) = false := by decide) : PMk X (.Call (.Name x p) [] [] pos) (fun _ H Q => Q (.ref C) none H) := by
  obtain ⟨bmB, B, newId, initId, F, q⟩ := k.ex
  intro pins s σ H Q I h
  refine wpAny_Call_Name_kw (ld_glob I hg k.mgc ?_ hdb)
  refine PySem.W.callWith_K0 I.kIn k.kp ?_
  obtain ⟨bm, N, nm, qn, bs, hdct, sn, sub, ab, col, dd, k0, k1, k2, k3, k5, mN, hC, hN, hni, T⟩ := exc_obj I.kIn q
  refine wpAny_call_exc_subT F T hC hN hni (fun h' e hm => ?_) (Nat.zero_le _)
  exact mk_of I hm (raises_own k.sub k.ty) h (I.hok.gone hm.new)
end
/-- where a raising text stands: W what is wished of exceptions, EW the wish by number -/
structure Rz (X : Cx) (EW : EWT) (C : Addr) (W : WX) : Prop where
  tk : Takes X W
  hW : ∀ σ H, EW 0 H → W (.ref C) none σ H
section
variable {X : Cx} {EW : EWT} {C : Addr} {W : WX} {pos : Pos}
def mRaise : MS := fun ρ => some (.er 0, ρ)
theorem qs_raise {x : Str} {p p2 : Pos} (hc : X.calm = true) (z : Rz X EW C W) (k : XCls X.K X.mg x C) (hg : Gl X x := by rfl) (hdb : (x == ("__debug__" : Str)) = false := by decide) :
    QS X EW (.Raise (some (.Call (.Name x p) [] [] p2)) none pos) (fun _ σ H => W (.ref C) none σ H) mRaise := by
  refine ⟨ps_raise hc z.tk (pmk_own0 k hg hdb), fun g F H σ ρ _ ok r ρ' e D q => ?_⟩
  cases e
  exact z.hW σ H (q F H σ (Ex.refl F) ok)
/-! ### calls of defs that may raise -/
def spR (K : PySem.W.Frag) (C : Addr) (f : List D → Option (Rs D)) : Sp := fun vs H Q E => ∃ F ds r, Ex F H ∧ DpAll K F vs ds ∧ f ds = some r ∧ match r with
  | .ok d => ∀ v F' H', Grow F H F' H' → Dp K F' v d → Q v H'
  | .er _ => ∀ F' H', Grow F H F' H' → E (.ref C) none H'
def runR (n N : Nat) (ms : MS) (ds : List D) : Option (Rs D) := if ds.length = n then (match ms (ds.map Sl.dat ++ List.replicate (N - n) .un) with
  | some (.rt d, _) => some (.ok d)
  | some (.nx, _) => some (.ok .none)
  | some (.er c, _) => some (.er c)
  | _ => none) else none
/-- a caller's wish at a call -/
abbrev eW (W : WX) : XK := fun cls d H => ∀ σ, W cls d σ H
def appR (f : List D → Option (Rs D)) (ws : List Vw) : M Vw := mBind (frcs ws) fun ds ρ => match f ds with
  | some (.ok d) => some (.ok (.dat d), ρ)
  | some (.er _) => some (.er 0, ρ)
  | none => none
def mCallR (f : List D → Option (Rs D)) (ma : M (List Vw)) : M Vw := mBind ma (appR f)
theorem qe_callR {R : Around → Prop} {f : Addr} {fd : FuncData} {ps : List Str} {fm : List D → Option (Rs D)} {x : Str} {p : Pos} {e : Expr} {es : List Expr} {ta : TA} {ma : M (List Vw)} (F : FnX X.prog X.w X.K X.mg X.base (L2.CX X.prog X.w) R f fd ps (spR X.K C fm)) (hr : R X.A) (hm : X.mg x = some (.ref f)) (hk : PySem.W.keepIn X.K (.ref f) = true) (hb : Binds X.K fd ps [])
    (z : Rz X EW C W) (ha : QA X EW (e :: es) ta ma) (hg : Gl X x := by rfl) (hdb : (x == ("__debug__" : Str)) = false := by decide) (he : starEach (e :: es) X.env = (false, eval e X.env) :: starEach es X.env := by rfl) (hpl : (backTo pos (starEach es X.env)).any (·.1) = false := by rfl) :
    QE X EW (.Call (.Name x p) (e :: es) [] pos) (tCall (spR X.K C fm) [] (eW W) ta) (mCallR fm ma) := by
  refine ⟨pe_callX F hr hg hm hk hb (passes_call z.tk fun cls d σ H h => h σ) ha.pa hdb he hpl, fun g F H σ ρ hK ok => ?_⟩
  refine At.bind (k := fun vs H1 (Q : VK) => spR X.K C fm (vs ++ []) H1 Q (eW W)) (ha.sm g F H σ ρ hK ok) fun F1 H1 ρ1 vs ws e1 ok1 hx => ?_
  refine frcs_at ok1 hx fun F2 ρ2 ds e2 ok2 hds => ?_
  intro r ρ' e Q q
  rw [List.append_nil, ← hK]
  cases h1 : fm ds with
  | none => rw [h1] at e; cases e
  | some rr =>
    rw [h1] at e
    cases rr with
    | ok d =>
      cases e
      exact ⟨F2, ds, .ok d, ok2.ff, hds, h1, fun v F' H' gr hv => q F' H' gr.ff (ok2.call gr) v hv⟩
    | er c =>
      cases e
      exact ⟨F2, ds, .er c, ok2.ff, hds, h1, fun F' H' gr σ' => z.hW σ' H' (q F' H' gr.ff (ok2.call gr))⟩
/-! ### try: body, except x: return a constant -/
def mTry (mb : MS) (d : D) : MS := fun ρ => match mb ρ with
  | some (.er _, ρ') => some (.rt d, ρ')
  | r => r
theorem qs_tryC {x : Str} {body : List Stmt} {np pos' p2 : Pos} {ce : Expr} {v : V} {d : D} {tb : WX → TS} {mb : MS} (hs : X.stack = X.env :: X.outer) (hf : X.env.frame = some X.env.locals) (k : XCls X.K X.mg x C) (hg : Gl X x) (tk : Takes X W)
    (hc : ∀ Y : Cx, PE Y ce (tC v)) (hv : ∀ F, Dp X.K F v d)
    (hb : ∀ (EW' : EWT) (W' : WX) (pn : List (Addr × Obj)) (xe : Value → Shared → Prop), Rz (X.tr pn xe) EW' C W' → QSs (X.tr pn xe) EW' body (tb W') mb) (hdb : (x == ("__debug__" : Str)) = false := by decide) :
    QS X EW (.Try body [.ExceptHandler (some (.Name x np)) none [.Return (some ce) p2] pos'] [] [] pos) (fun D σ H => tb (wOnly X.K (.ref C) (fun _ _ _ => tRet (tC v)) W D) D σ H) (mTry mb d) := by
  refine ⟨ps_try_only hs hf ⟨hg, hdb, .inl k.mgc⟩ tk (fun W' pn xe t _ => (hb (fun _ H => ∀ σ, W' (.ref C) none σ H) W' pn xe ⟨t, fun σ H h => h σ⟩).ps) fun a oe cls dd pn _ _ => pss_one (ps_ret (hc _)), ?_⟩
  intro g F H σ ρ hK ok r ρ' e D q
  unfold mTry at e
  cases hm : mb ρ with
  | none => rw [hm] at e; cases e
  | some p =>
    obtain ⟨r1, ρ1⟩ := p
    rw [hm] at e
    have go := (hb (fun _ H' => D.rt v H') (wOnly X.K (.ref C) (fun _ _ _ => tRet (tC v)) W D) [] (fun _ _ => True) ⟨fun _ _ _ => trivial, fun σ H h => ⟨true, k.own, fun _ a _ => h, fun z => nomatch z⟩⟩).sm g F H σ ρ hK ok r1 ρ1 hm D
    cases r1 with
    | er c =>
      cases e
      exact go fun F' H' σ' ex ok' => q F' H' σ' ex ok' v (by rw [hK]; exact hv F')
    | nx => cases e; exact go q
    | bk => cases e; exact go q
    | ct => cases e; exact go q
    | rt d => cases e; exact go q
end
end Dat
namespace Dat
open PySem L2 PySem.Spec PyProof.Rows
/-! ### room for d calls in one another, the guards known -/
structure Rm (d : Nat) (A : Around) : Prop where
  hd : A.handled = none
  gd : A.guards = some []
  dp : A.depth + d + 8 < recursionLimit
  un : A.units + 3 * d + 4200 < cLine
theorem Rm.mono {j k : Nat} {A : Around} (r : Rm k A) (h : j ≤ k) : Rm j A := ⟨r.hd, r.gd, by have := r.dp; omega, by have := r.un; omega⟩
theorem Rm.base {k : Nat} {A : Around} (r : Rm k A) : RBase A := ⟨r.hd, by have := r.dp; omega⟩
theorem Rm.deeper {k : Nat} {A : Around} (r : Rm (k + 1) A) (env : Env) : Rm k (A.deeper env) :=
  ⟨r.hd, r.gd, by have := r.dp; show A.depth + 1 + k + 8 < _; omega, by have := r.un; show A.units + 3 + 3 * k + 4200 < _; omega⟩
theorem v1 {k : Nat} {A : Around} (hr : Rm k A) : A.units + 1 < cLine := by have := hr.un; omega
theorem v64 {k : Nat} {A : Around} (hr : Rm k A) : A.units + 64 < cLine := by have := hr.un; omega
theorem v65 {k : Nat} {A : Around} (hr : Rm k A) : A.units + 65 < cLine := by have := hr.un; omega
def CalX (P : Program) (w : World) (K : PySem.W.Frag) (mg : Str → Option Value) (base : Heap) (CX : CXT) (k : Nat) (x : Str) (ps : List Str) (sp : Sp) : Prop :=
  ∃ f fd, FnX P w K mg base CX (Rm k) f fd ps sp ∧ mg x = some (.ref f) ∧ PySem.W.keepIn K (.ref f) = true ∧ Binds K fd ps []
section
variable {X : Cx} {EW : EWT} {pos : Pos}
theorem qe_callDX {k : Nat} {ps : List Str} {fm : List D → Option D} {x : Str} {p : Pos} {e : Expr} {es : List Expr} {ta : TA} {ma : M (List Vw)} (C : CalX X.prog X.w X.K X.mg X.base CX0 k x ps (spP X.K fm)) (hr : Rm k X.A)
    (ha : QA X EW (e :: es) ta ma) (hg : Gl X x := by rfl) (hdb : (x == ("__debug__" : Str)) = false := by decide) (he : starEach (e :: es) X.env = (false, eval e X.env) :: starEach es X.env := by rfl) (hpl : (backTo pos (starEach es X.env)).any (·.1) = false := by rfl) :
    QE X EW (.Call (.Name x p) (e :: es) [] pos) (tCall (spP X.K fm) [] E0 ta) (mCall fm ma) := by
  obtain ⟨f, fd, F, hm, hk, hb⟩ := C
  refine ⟨pe_callX F hr hg hm hk hb pass0 ha.pa hdb he hpl, fun g F H σ ρ hK ok => ?_⟩
  refine At.bind (k := fun vs H1 (Q : VK) => spP X.K fm (vs ++ []) H1 Q E0) (ha.sm g F H σ ρ hK ok) fun F1 H1 ρ1 vs ws e1 ok1 hx => ?_
  refine frcs_at ok1 hx fun F2 ρ2 ds e2 ok2 hds => ?_
  intro r ρ' e Q q
  unfold mLift at e
  cases h1 : fm ds with
  | none => rw [h1] at e; cases e
  | some d =>
    rw [h1] at e
    cases e
    rw [List.append_nil, ← hK]
    exact ⟨F2, ds, d, ok2.ff, hds, h1, fun v F' H' gr hv => q F' H' gr.ff (ok2.call gr) v hv⟩
theorem qe_callBDX {k : Nat} {ps : List Str} {fm : O → List D → Option (D × O)} {x : Str} {p : Pos} {e : Expr} {es : List Expr} {ta : TA} {ma : M (List Vw)} (C : CalX X.prog X.w X.K X.mg X.base CX0 k x ps (spB X.K fm)) (hr : Rm k X.A)
    (ha : QA X EW (e :: es) ta ma) (hg : Gl X x := by rfl) (hdb : (x == ("__debug__" : Str)) = false := by decide) (he : starEach (e :: es) X.env = (false, eval e X.env) :: starEach es X.env := by rfl) (hpl : (backTo pos (starEach es X.env)).any (·.1) = false := by rfl) :
    QE X EW (.Call (.Name x p) (e :: es) [] pos) (tCall (spB X.K fm) [] E0 ta) (mCallB fm ma) := by
  obtain ⟨f, fd, F, hm, hk, hb⟩ := C
  refine ⟨pe_callX F hr hg hm hk hb pass0 ha.pa hdb he hpl, fun g F H σ ρ hK ok => ?_⟩
  refine At.bind (k := fun vs H1 (Q : VK) => spB X.K fm (vs ++ []) H1 Q E0) (ha.sm g F H σ ρ hK ok) fun F1 H1 ρ1 vs ws e1 ok1 hx => ?_
  cases ws with
  | nil => exact fun r ρ' e Q q => nomatch e
  | cons w0 ws =>
    cases w0 with
    | dat d => exact fun r ρ' e Q q => nomatch e
    | loc i =>
      cases vs with
      | nil => exact hx.elim
      | cons v0 vs =>
        obtain ⟨hv0, hvs⟩ := hx
        refine frcs_at ok1 hvs fun F2 ρ2 ds e2 ok2 hds => ?_
        intro r ρ' e Q q
        rw [List.append_nil, ← hK]
        have hv0 : σ[i]? = some (some v0) := hv0
        cases hs : ρ2[i]? with
        | none => simp only [hs] at e; cases e
        | some s =>
          simp only [hs] at e
          have hsl := ok2.sl i s _ hs hv0
          cases s with
          | un => cases e
          | dat d => cases e
          | own o =>
            obtain ⟨l, z1, z2, z3, z4⟩ := hsl
            cases z1
            simp only at e
            cases h1 : fm o ds with
            | none => simp only [h1] at e; cases e
            | some p =>
              obtain ⟨d, o'⟩ := p
              simp only [h1] at e
              cases e
              exact ⟨F2, l, vs, o, ds, d, o', rfl, ok2.ff, z2, z3, hds, h1, fun v F' H' gr ho hv => q F' H' gr.ff (ok2.callB hs hv0 (.inl ⟨o, rfl, rfl⟩) gr ho) v hv⟩
          | par o =>
            obtain ⟨l, z1, z2, z3, z4⟩ := hsl
            cases z1
            simp only at e
            cases h1 : fm o ds with
            | none => simp only [h1] at e; cases e
            | some p =>
              obtain ⟨d, o'⟩ := p
              simp only [h1] at e
              cases e
              exact ⟨F2, l, vs, o, ds, d, o', rfl, ok2.ff, z2, z3, hds, h1, fun v F' H' gr ho hv => q F' H' gr.ff (ok2.callB hs hv0 (.inr ⟨o, rfl, rfl⟩) gr ho) v hv⟩
theorem qe_callRX {C : Addr} {W : WX} {k : Nat} {ps : List Str} {fm : List D → Option (Rs D)} {x : Str} {p : Pos} {e : Expr} {es : List Expr} {ta : TA} {ma : M (List Vw)} (c : CalX X.prog X.w X.K X.mg X.base (L2.CX X.prog X.w) k x ps (spR X.K C fm)) (hr : Rm k X.A) (z : Rz X EW C W)
    (ha : QA X EW (e :: es) ta ma) (hg : Gl X x := by rfl) (hdb : (x == ("__debug__" : Str)) = false := by decide) (he : starEach (e :: es) X.env = (false, eval e X.env) :: starEach es X.env := by rfl) (hpl : (backTo pos (starEach es X.env)).any (·.1) = false := by rfl) :
    QE X EW (.Call (.Name x p) (e :: es) [] pos) (tCall (spR X.K C fm) [] (eW W) ta) (mCallR fm ma) := by
  obtain ⟨f, fd, F, hm, hk, hb⟩ := c
  exact qe_callR F hr hm hk hb z ha hg hdb he hpl
end
section
variable {P : Program} {w : World} {K : PySem.W.Frag} {mg : Str → Option Value} {base : Heap}
theorem fxP {x : Str} {st : Stmt} {f : Addr} {fd : FuncData} {N ps : List Str} {k : Nat} {ms : MS} (F : Def1 K mg x st ps f fd) (S : FnScope N ps (defScope st)) (hN : ps.length ≤ N.length)
    (hbody : ∀ (cdv : Value) (A : Around) (outer : List Env) (s : Shared) (H : Hp) (E : XK), Rm k (A.deeper (envOfC x (defScope st) s.heap.objs.size f cdv)) →
      ∃ t, QSs (cxOf CX0 P w K mg base N x (defScope st) f cdv A outer s H E).nox EW0 (defBody st) t ms) : FnX P w K mg base CX0 (Rm (k + 1)) f fd ps (spP K (runP ps.length N.length ms)) := by
  refine fx_of F.fn S (fun A h => h.base) (fun vs H Q E h => ?_) (fun cdv A outer s H vs Q E hr h => ?_)
  · obtain ⟨F0, ds, d, _, h2, h3, _⟩ := h
    unfold runP at h3
    split at h3
    · rename_i hl
      rw [dps_len h2, hl]
    · cases h3
  · obtain ⟨F0, ds, d, e0, h2, h3, q⟩ := h
    unfold runP at h3
    split at h3
    · rename_i hl
      obtain ⟨t, hq⟩ := hbody cdv A outer s H E (hr.deeper _)
      refine ⟨t, hq.ps.nox, ?_⟩
      have ok := start_ok (N := N) e0 h2 hl hN
      cases hm : ms (ds.map Sl.dat ++ List.replicate (N.length - ps.length) .un) with
      | none => rw [hm] at h3; cases h3
      | some p =>
        obtain ⟨r, ρ'⟩ := p
        rw [hm] at h3
        refine hq.sm _ F0 H _ _ rfl ok r ρ' hm _ fun F' H' σ' e1 ok1 => ?_
        have gr : Grow F0 H F' H' := ⟨e1, ok1.ff, fun a o z => ok1.gh a o (fun _ z => nomatch z) z, ok1.nw⟩
        cases r with
        | nx => cases h3; exact q .non F' H' gr .non
        | rt d' => cases h3; exact fun v hv => q v F' H' gr hv
        | bk => cases h3
        | ct => cases h3
        | er c => cases h3
    · cases h3
theorem calPX {x : Str} {st : Stmt} {f : Addr} {fd : FuncData} {N ps : List Str} {k : Nat} {ms : MS} (F : Def1 K mg x st ps f fd) (S : FnScope N ps (defScope st)) (hN : ps.length ≤ N.length)
    (hbody : ∀ (cdv : Value) (A : Around) (outer : List Env) (s : Shared) (H : Hp) (E : XK), Rm k (A.deeper (envOfC x (defScope st) s.heap.objs.size f cdv)) →
      ∃ t, QSs (cxOf CX0 P w K mg base N x (defScope st) f cdv A outer s H E).nox EW0 (defBody st) t ms) : CalX P w K mg base CX0 (k + 1) x ps (spP K (runP ps.length N.length ms)) :=
  ⟨f, fd, fxP F S hN hbody, F.mgf, F.kp, F.bd⟩
/-- a def that may raise -/
theorem calRX {C : Addr} {x : Str} {st : Stmt} {f : Addr} {fd : FuncData} {N ps : List Str} {k : Nat} {ms : MS} (F : Def1 K mg x st ps f fd) (S : FnScope N ps (defScope st)) (hN : ps.length ≤ N.length)
    (hbody : ∀ (cdv : Value) (A : Around) (outer : List Env) (s : Shared) (H : Hp) (E : XK), Rm k (A.deeper (envOfC x (defScope st) s.heap.objs.size f cdv)) →
      Rz (cxOf (L2.CX P w) P w K mg base N x (defScope st) f cdv A outer s H E) (fun _ H' => E (.ref C) none H') C (fun cls d _ H' => E cls d H') →
      PassesOwn (model P w) (A.deeper (envOfC x (defScope st) s.heap.objs.size f cdv)) (envOfC x (defScope st) s.heap.objs.size f cdv) (cxOf (L2.CX P w) P w K mg base N x (defScope st) f cdv A outer s H E).xe →
      ∃ t, QSs (cxOf (L2.CX P w) P w K mg base N x (defScope st) f cdv A outer s H E) (fun _ H' => E (.ref C) none H') (defBody st) t ms) : CalX P w K mg base (L2.CX P w) (k + 1) x ps (spR K C (runR ps.length N.length ms)) := by
  refine ⟨f, fd, fx_of F.fn S (fun A h => h.base) (fun vs H Q E h => ?_) (fun cdv A outer s H vs Q E hr h => ?_), F.mgf, F.kp, F.bd⟩
  · obtain ⟨F0, ds, d, _, h2, h3, _⟩ := h
    unfold runR at h3
    split at h3
    · rename_i hl
      rw [dps_len h2, hl]
    · cases h3
  · obtain ⟨F0, ds, rr, e0, h2, h3, q⟩ := h
    unfold runR at h3
    split at h3
    · rename_i hl
      obtain ⟨t, hq⟩ := hbody cdv A outer s H E (hr.deeper _) ⟨takes_of rfl rfl rfl rfl, fun σ H' h => h⟩ (passes_of rfl)
      refine ⟨t, hq.ps, ?_⟩
      have ok := start_ok (N := N) e0 h2 hl hN
      cases hm : ms (ds.map Sl.dat ++ List.replicate (N.length - ps.length) .un) with
      | none => rw [hm] at h3; cases h3
      | some p =>
        obtain ⟨r, ρ'⟩ := p
        rw [hm] at h3
        refine hq.sm _ F0 H _ _ rfl ok r ρ' hm _ fun F' H' σ' e1 ok1 => ?_
        have gr : Grow F0 H F' H' := ⟨e1, ok1.ff, fun a o z => ok1.gh a o (fun _ z => nomatch z) z, ok1.nw⟩
        cases r with
        | nx => cases h3; exact q .non F' H' gr .non
        | rt d' => cases h3; exact fun v hv => q v F' H' gr hv
        | bk => cases h3
        | ct => cases h3
        | er c => cases h3; exact q F' H' gr
    · cases h3
end
end Dat
namespace Dat
open PySem L2 PySem.Spec PyProof.Rows
section
variable {X : Cx} {EW : EWT} {K : PySem.W.Frag} {pos : Pos}
/-! ### signs and their codes -/
def fOrd : D → Option D
  | .str x => if x.length = 1 then some (.int ((x.cps.getD 0 0 : Nat) : Int)) else none
  | _ => none
theorem cs_ord : Call1S K (fun xs H Q => ∃ x, xs = [.str x] ∧ x.length = 1 ∧ Q (.int (x.cps.getD 0 0 : Nat)) H) fOrd := Call1S.flat fun H x d z hx hz => by
  cases d with
  | str s =>
    unfold fOrd at hz
    simp only at hz
    split at hz
    · rename_i c; cases hz; cases hx; exact ⟨_, fun _ => .int _, fun Q q => ⟨s, rfl, c, q⟩⟩
    · cases hz
  | none => cases hz
  | bool _ => cases hz
  | int _ => cases hz
  | list _ => cases hz
  | tuple _ => cases hz
  | dict _ => cases hz
/-- the signs of a text, each a text -/
def signsD (x : Str) : List D := x.cps.toList.map fun c => .str ⟨#[c]⟩
def seqS (w : Vw) : M (List D) := fun ρ => match rdD w ρ with
  | some (.str x) => some (.ok (signsD x), ρ)
  | _ => none
def mSeqS (ma : M Vw) : M (List D) := mBind ma seqS
theorem wk_str {F : Hp} {x : Str} : Wk K F (Its x) (signsD x) := by
  have hl : (signsD x).length = x.cps.size := by simp [signsD]
  refine ⟨fun i H hi _ => by show i < x.cps.size; omega, fun H _ => by show x.cps.size ≤ _; omega, fun i H y H' hi _ yl => ?_⟩
  obtain ⟨rfl, c, hc, rfl⟩ := yl
  refine ⟨.str ⟨#[c]⟩, ?_, .inl ⟨rfl, .str _⟩⟩
  unfold signsD
  rw [List.getElem?_map, Array.getElem?_toList, hc]
  rfl
theorem qi_str {tg l : Expr} {tl : TE} {ma : M Vw} (h : QE X EW l tl ma) : QI X EW tg l (iStr tl) (mSeqS ma) := by
  refine ⟨pi_str h.pe, fun g F H σ ρ hK ok => ?_⟩
  refine At.bind (k := fun v H1 R => ∃ x, v = .str x ∧ R (Its x) H1) (h.sm g F H σ ρ hK ok) fun F1 H1 ρ1 v w e1 ok1 hv => ?_
  intro r ρ' e Q q
  unfold seqS at e
  cases h1 : rdD w ρ1 with
  | none => simp only [h1] at e; cases e
  | some d =>
    simp only [h1] at e
    have hd := rdD_ok ok1 hv h1
    cases d with
    | str x =>
      cases e
      cases hd
      exact ⟨x, rfl, q F1 H1 (Ex.refl F1) ok1 _ wk_str⟩
    | none => cases e
    | bool _ => cases e
    | int _ => cases e
    | list _ => cases e
    | tuple _ => cases e
    | dict _ => cases e
/-! ### a op b op2 c -/
def app2B (f : D → D → Option D) (a b : Vw) : M Bool := fun ρ => match app2 f a b ρ with
  | some (.ok (.dat (.bool k)), ρ') => some (.ok k, ρ')
  | _ => none
def mChain (f f' : D → D → Option D) (ma mb mc : M Vw) : M Bool := mBind ma fun a => mBind mb fun b => mBind (app2B f a b) fun k => if k = true then mBind mc fun c => app2B f' b c else mRet false
theorem app2B_at {g : Gh} {F H : Hp} {σ : L2.St} {ρ : List Sl} {x y : V} {a b : Vw} {r : R2} {f : D → D → Option D} (hr : Op2S g.K r f) (ok : Ok g F H σ ρ) (hx : VwOk g σ F x a) (hy : VwOk g σ F y b) :
    At EW g F H σ (fun _ (v : V) (k : Bool) => v = .bl k) (fun H Q => r x y H Q) (app2B f a b ρ) := by
  intro rr ρ' e Q q
  unfold app2B at e
  cases h0 : app2 f a b ρ with
  | none => rw [h0] at e; cases e
  | some p =>
    obtain ⟨r0, ρ0⟩ := p
    rw [h0] at e
    unfold app2 at h0
    cases h1 : rdD a ρ with
    | none => simp only [h1] at h0; cases h0
    | some d =>
      cases h2 : rdD b ρ with
      | none => simp only [h1, h2] at h0; cases h0
      | some d2 =>
        cases h3 : f d d2 with
        | none => simp only [h1, h2, h3] at h0; cases h0
        | some z =>
          simp only [h1, h2, h3] at h0
          cases h0
          cases z with
          | bool k =>
            cases e
            refine hr g F H σ ρ x y a b d d2 _ rfl ok hx hy h1 h2 h3 Q fun v F' H' ex ok' hv => ?_
            cases hv
            exact q F' H' ex ok' _ rfl
          | none => cases e
          | int _ => cases e
          | str _ => cases e
          | list _ => cases e
          | tuple _ => cases e
          | dict _ => cases e
theorem qt_chain {a b c : Expr} {ta tb tc : TE} {ma mb mc : M Vw} {op op' : CmpOp} {r r' : R2} {f f' : D → D → Option D} (ho : OpR X (compareOp op) r) (hr : Op2S X.K r f) (ho' : OpR X (compareOp op') r') (hr' : Op2S X.K r' f') (ha : QE X EW a ta ma) (hb : QE X EW b tb mb) (hc : QE X EW c tc mc)
    (hm : lastMarks [op, op'] [b, c] = false := by with_unfolding_all rfl) : QT X EW (.Compare a [op, op'] [b, c] pos) (tTest (tChain r r' ta tb tc)) (mChain f f' ma mb mc) := by
  refine ⟨pt_chain ho ho' ha.pe hb.pe hc.pe hm, fun g F H σ ρ hK ok => ?_⟩
  refine At.bind (k := fun x H1 (Q : Bool → Hp → Prop) => tb σ H1 fun y H2 => r x y H2 fun z H3 => ∃ k, z = .bl k ∧ (if k = true then tc σ H3 fun w' H4 => r' y w' H4 fun x H' => ∃ k, x = .bl k ∧ Q k H' else ∃ k', V.bl false = .bl k' ∧ Q k' H3)) (ha.sm g F H σ ρ hK ok) fun F1 H1 ρ1 x av e1 ok1 hx => ?_
  refine At.bind (k := fun y H2 (Q : Bool → Hp → Prop) => r x y H2 fun z H3 => ∃ k, z = .bl k ∧ (if k = true then tc σ H3 fun w' H4 => r' y w' H4 fun x H' => ∃ k, x = .bl k ∧ Q k H' else ∃ k', V.bl false = .bl k' ∧ Q k' H3)) (hb.sm g F1 H1 σ ρ1 hK ok1) fun F2 H2 ρ2 y bv e2 ok2 hy => ?_
  refine At.bind (k := fun z H3 (Q : Bool → Hp → Prop) => ∃ k, z = .bl k ∧ (if k = true then tc σ H3 fun w' H4 => r' y w' H4 fun x H' => ∃ k, x = .bl k ∧ Q k H' else ∃ k', V.bl false = .bl k' ∧ Q k' H3)) (app2B_at (hK ▸ hr) ok2 (hx.mono e2) hy) fun F3 H3 ρ3 z k e3 ok3 hz => ?_
  subst hz
  cases k with
  | false =>
    intro rr ρ' e Q q
    cases e
    exact ⟨false, rfl, by rw [if_neg (by decide)]; exact ⟨false, rfl, q F3 H3 (Ex.refl F3) ok3 _ rfl⟩⟩
  | true =>
    have go : At EW g F3 H3 σ (fun _ (a b : Bool) => a = b) (fun H Q => tc σ H fun w' H4 => r' y w' H4 fun x H' => ∃ k, x = .bl k ∧ Q k H') ((mBind mc fun c => app2B f' bv c) ρ3) := by
      refine At.bind (k := fun w' H4 (Q : Bool → Hp → Prop) => r' y w' H4 fun x H' => ∃ k, x = .bl k ∧ Q k H') (hc.sm g F3 H3 σ ρ3 hK ok3) fun F4 H4 ρ4 w' cv e4 ok4 hw => ?_
      intro rr ρ' e Q q
      refine app2B_at (EW := EW) (hK ▸ hr') ok4 ((hy.mono e3).mono e4) hw rr ρ' e (fun x H' => ∃ k, x = .bl k ∧ Q k H') fun F' H' ex ok' => ?_
      have q' := q F' H' ex ok'
      cases rr with
      | ok b => exact fun a ha => ⟨b, ha, q' b rfl⟩
      | er c => exact q'
    intro rr ρ' e Q q
    exact ⟨true, rfl, by rw [if_pos rfl]; exact go rr ρ' e Q q⟩
/-! ### parts of a list -/
def cutD (ds : List D) (lo hi : Option Int) : List D := (ds.drop (HT.sIx ds.length 0 lo)).take (HT.sIx ds.length ds.length hi - HT.sIx ds.length 0 lo)
theorem dps_cut {F : Hp} {vs : List V} {ds : List D} (h : DpAll K F vs ds) (lo hi : Option Int) : DpAll K F (cutV vs lo hi) (cutD ds lo hi) := by
  unfold cutV cutD
  rw [dps_len h]
  exact dps_take _ (dps_drop _ h)
structure QO (X : Cx) (EW : EWT) (e : Option Expr) (t : TO) (m : M (Option Int)) : Prop where
  po : PO X e t
  sm : ∀ g F H σ ρ, g.K = X.K → Ok g F H σ ρ → At EW g F H σ (fun _ (a b : Option Int) => a = b) (t σ) (m ρ)
theorem qo_none : QO X EW none tNoPart (mRet none) := ⟨po_none, fun g F H σ ρ _ ok => At.ret (a := none) ok rfl fun _ q => q⟩
def mPart (ma : M Vw) : M (Option Int) := mBind ma fun w => mBind (asI w) fun i => mRet (some i)
theorem qo_some {e : Expr} {te : TE} {ma : M Vw} (h : QE X EW e te ma) : QO X EW (some e) (tPart te) (mPart ma) := by
  refine ⟨po_some h.pe, fun g F H σ ρ hK ok => ?_⟩
  refine At.bind (k := fun x H1 (Q : Option Int → Hp → Prop) => ∃ i, x = .int i ∧ Q (some i) H1) (h.sm g F H σ ρ hK ok) fun F1 H1 ρ1 x w e1 ok1 hx => ?_
  refine asI_at ok1 hx fun i hi => ?_
  exact At.ret (a := some i) ok1 rfl fun Q q => ⟨i, hi, q⟩
def cutW (w : Vw) (lo hi : Option Int) : M Vw := fun ρ => match rdD w ρ with
  | some (.list ds) => some (.ok (.dat (.list (cutD ds lo hi))), ρ)
  | _ => none
def mCut (ma : M Vw) (ml mh : M (Option Int)) : M Vw := mBind ma fun w => mBind ml fun lo => mBind mh fun hi => cutW w lo hi
theorem qe_slice {e : Expr} {lo hi : Option Expr} {te : TE} {tl th : TO} {ma : M Vw} {ml mh : M (Option Int)} {p2 : Pos} (he : QE X EW e te ma) (hl : QO X EW lo tl ml) (hh : QO X EW hi th mh) : QE X EW (.Subscript e (.Slice lo hi none p2) pos) (tSl (rSlL X.K) te tl th) (mCut ma ml mh) := by
  refine ⟨pe_slice sl_list he.pe hl.po hh.po, fun g F H σ ρ hK ok => ?_⟩
  refine At.bind (k := fun x H1 (Q : VK) => tl σ H1 fun l H2 => th σ H2 fun u H3 => rSlL X.K x l u H3 Q) (he.sm g F H σ ρ hK ok) fun F1 H1 ρ1 x w e1 ok1 hx => ?_
  refine At.bind (k := fun l H2 (Q : VK) => th σ H2 fun u H3 => rSlL X.K x l u H3 Q) (hl.sm g F1 H1 σ ρ1 hK ok1) fun F2 H2 ρ2 l lo' e2 ok2 h2 => ?_
  subst h2
  refine At.bind (k := fun u H3 (Q : VK) => rSlL X.K x l u H3 Q) (hh.sm g F2 H2 σ ρ2 hK ok2) fun F3 H3 ρ3 u hi' e3 ok3 h3 => ?_
  subst h3
  intro r ρ' e Q q
  unfold cutW at e
  cases h1 : rdD w ρ3 with
  | none => simp only [h1] at e; cases e
  | some d =>
    simp only [h1] at e
    cases d with
    | list ds =>
      cases e
      obtain ⟨a, us, rfl, s1, d1⟩ := rdD_list ok3 ((hx.mono e2).mono e3) h1
      refine ⟨a, us, rfl, hK ▸ s1, fun p hp => ?_⟩
      obtain ⟨ex, ok4⟩ := ok3.newD (o := .lst (cutV us l u)) hp
      exact q _ _ ex ok4 _ (show Dp _ _ _ _ from .lst (.inl (.inl upd_same)) (dpsE ex _ _ (dps_cut d1 l u)))
    | none => cases e
    | bool _ => cases e
    | int _ => cases e
    | str _ => cases e
    | tuple _ => cases e
    | dict _ => cases e
/-! ### a name of the module -/
theorem qe_gint {x : Str} {i : Int} (hg : Gl X x) (h : ∃ t, X.mg x = some (.int i t)) (hd : (x == ("__debug__" : Str)) = false := by decide) : QE X EW (.Name x pos) (tC (.int i)) (mC (.int i)) := by
  obtain ⟨t, h⟩ := h
  exact ⟨pe_glob hg h ⟨t, rfl⟩ hd, sm_C fun _ _ => .int i⟩
theorem qe_gstr {x : Str} {i : Str} (hg : Gl X x) (h : ∃ t, X.mg x = some (.str i t)) (hd : (x == ("__debug__" : Str)) = false := by decide) : QE X EW (.Name x pos) (tC (.str i)) (mC (.str i)) := by
  obtain ⟨t, h⟩ := h
  exact ⟨pe_glob hg h ⟨t, rfl⟩ hd, sm_C fun _ _ => .str i⟩
/-! ### repr of None, lists and tuples -/
def disp : D → Bool
  | .none => true
  | .list _ => true
  | .tuple _ => true
  | .int _ => true
  | .bool _ => true
  | .str _ => true
  | .dict _ => false
def fRepr : D → Option D := fun d => if disp d = true ∧ PyData.canLay0 d = true ∧ PyData.depth d ≤ 4000 ∧ PyData.showable d = true ∧ (PyData.shown d).length ≤ BIG then some (.str (PyData.shown d)) else none
def rRepr (K : PySem.W.Frag) : List V → Hp → VK → Prop := fun xs H Q => ∃ x d, xs = [x] ∧ Dp K H x d ∧ disp d = true ∧ PyData.canLay0 d = true ∧ PyData.depth d ≤ 4000 ∧ PyData.showable d = true ∧ (PyData.shown d).length ≤ sizeLine ∧ Q (.str (PyData.shown d)) H
theorem cr_repr (hg : X.A.guards = some []) (hu : X.A.units + 4100 < cLine) : CallR X (.builtin "repr") (rRepr X.K) := by
  intro pins s σ H xs us Q I r h
  obtain ⟨x, d, rfl, hd, hp, hl, hdp, hs, hz, q⟩ := h
  obtain ⟨u, rfl, rx⟩ := vals1 r
  obtain ⟨as, rd⟩ := L2.Dp.reads I d x u (dpK d x hl hd) rx
  have nd := PyData.noDict_hsm (as := as) (PyData.hasDict_of_canLay d hl)
  have ref : ∀ a, u = .ref a → wpAny (model X.prog X.w) X.A (call (.builtin "repr") [u]) (EP X pins σ Q) X.xe s := by
    rintro a rfl
    exact repr_of_reads' rd hs nd hg (by omega) (fun _ _ e => e) (fun h' u' tk hk => ⟨.str _, H, I.kept hk, ⟨_, rfl⟩, q⟩) hz
  cases d with
  | none =>
    cases hd
    cases rx
    exact P.repr_of_none ⟨.str _, H, I.tok _, ⟨_, rfl⟩, q⟩
  | list ds =>
    cases hd
    exact ref _ rx
  | tuple ds =>
    cases hd
    exact ref _ rx
  | bool b =>
    cases hd
    cases rx
    exact P.repr_of_bool ⟨.str _, H, I.tok _, ⟨_, rfl⟩, q⟩
  | int i =>
    cases hd
    obtain ⟨t, rfl⟩ := rx
    exact P.repr_of_int (of_decide_eq_true (show decide (i.natAbs.log2 < 1920) = true from hs)) ⟨.str _, H, I.tok _, ⟨_, rfl⟩, q⟩
  | str y =>
    cases hd
    obtain ⟨t, rfl⟩ := rx
    exact P.repr_of_str ⟨.str _, H, I.tok _, ⟨_, rfl⟩, q⟩ hz
  | dict _ => cases hp
theorem cs_repr : Call1S K (rRepr K) fRepr := Call1S.flat fun H x d z hx hz => by
  unfold fRepr at hz
  split at hz
  · rename_i c
    cases hz
    exact ⟨_, fun _ => .str _, fun Q q => ⟨x, d, rfl, hx, c.1, c.2.1, c.2.2.1, c.2.2.2.1, big_le c.2.2.2.2, q⟩⟩
  · cases hz
/-! ### ''.join -/
def fJoin (sep : Str) : D → Option D
  | .list ds => match strsD ds with
    | some ys => if (ys.map (·.length)).sum + ys.length * sep.length ≤ BIG then some (.str (Txt.join sep ys)) else none
    | none => none
  | _ => none
end
end Dat
namespace Dat
open PySem L2 PySem.Spec PyProof.Rows
section
variable {X : Cx} {EW : EWT} {K : PySem.W.Frag} {pos : Pos}
/-! ### x, y = a, b -/
def mPar (i j : Nat) (ma mb : M Vw) : MS := mThen (mCons ma (mCons mb mNil)) fun ws => mThen (frcs ws) fun ds => match ds with
  | [d, e] => fun ρ => match asgD i d ρ with
    | some ρ1 => (match asgD j e ρ1 with
      | some ρ2 => some (.nx, ρ2)
      | none => none)
    | none => none
  | _ => fun _ => none
theorem qs_par (i j : Nat) {x y : Str} {a b : Expr} {ta tb : TE} {ma mb : M Vw} {px py pt : Pos} {kt k2 pt2} (hc : X.calm = true) (hN : X.N.Nodup) (ha : QE X EW a ta ma) (hb : QE X EW b tb mb) (hij : i ≠ j := by decide) (hi : X.N[i]? = some x := by rfl) (hj : X.N[j]? = some y := by rfl)
    (hx : X.env.scope.names.lookup x = some .local := by rfl) (hy : X.env.scope.names.lookup y = some .local := by rfl)
    (hw : swappedStores [.Tuple [.Name x px, .Name y py] kt pt] (.Tuple [a, b] k2 pt2) X.env = pure (some [x, y]) := by rfl)
    (hs : swapsWithSole [.Tuple [.Name x px, .Name y py] kt pt] (.Tuple [a, b] k2 pt2) pos.line X.env = pure false := by rfl)
    (s1 : starEach [a, b] X.env = (false, eval a X.env) :: starEach [b] X.env := by rfl) (s2 : starEach [b] X.env = (false, eval b X.env) :: starEach [] X.env := by rfl) :
    QS X EW (.Assign [.Tuple [.Name x px, .Name y py] kt pt] (.Tuple [a, b] k2 pt2) pos) (tPar i j (tCons ta (tCons tb tNil))) (mPar i j ma mb) := by
  have qa := qa_cons ha (qa_cons hb qa_nil s2) s1
  refine ⟨ps_par hc hN hi hj hij hx hy qa.pa hw hs, ?_⟩
  refine then_sm (R := VwsOk) (k := fun D σ vs H1 => ∃ v w, vs = [v, w] ∧ D.nx ((σ.set i (some v)).set j (some w)) H1) qa.sm fun g F H σ ρ xs ws hK ok hab r ρ' e D q => ?_
  unfold mThen at e
  cases h1 : frcs ws ρ with
  | none => rw [h1] at e; cases e
  | some p =>
    obtain ⟨r1, ρ1⟩ := p
    obtain ⟨ds, F1, rfl, e1, ok1, q1⟩ := frcs_ok ok hab h1
    rw [h1] at e
    cases q1 with
    | nil => cases e
    | cons d1 q2 =>
      cases q2 with
      | nil => cases e
      | cons d2 q3 =>
        cases q3 with
        | cons _ _ => cases e
        | nil =>
          simp only at e
          split at e
          · rename_i ρ2 e2
            split at e
            · rename_i ρ3 e3
              cases e
              rw [asgD_some e3, asgD_some e2] at q
              exact ⟨_, _, rfl, q F1 _ _ e1 ((ok1.setD d1).setD d2)⟩
            · cases e
          · cases e
/-- x, y = [..], b: x a list of one's own -/
def parEnd (i j : Nat) (ds : List D) (d : D) : MS := fun ρ => match asgO i (.lst ds) ρ with
  | some (_, ρ1) => (match asgD j d ρ1 with
    | some ρ2 => some (.nx, ρ2)
    | none => none)
  | none => none
def parMid (i j : Nat) (mb : M Vw) (ds : List D) : MS := if ds.length ≤ BIG then mThen mb fun w => mThen (frc w) (parEnd i j ds) else fun _ => none
def mParL (i j : Nat) (ma : M (List Vw)) (mb : M Vw) : MS := mThen ma fun ws => mThen (frcs ws) (parMid i j mb)
theorem mThen_ok {α : Type} {m : M α} {f : α → MS} {a : α} {ρ ρ1 : List Sl} (h : m ρ = some (.ok a, ρ1)) : mThen m f ρ = f a ρ1 := by
  unfold mThen; rw [h]
theorem qs_parL (i j : Nat) {x y : Str} {es : List Expr} {b : Expr} {ta : TA} {tb : TE} {ma : M (List Vw)} {mb : M Vw} {px py pt p3 : Pos} {kt k2 pt2} (hc : X.calm = true) (hN : X.N.Nodup) (ha : QA X EW es ta ma) (hb : QE X EW b tb mb) (hij : i ≠ j := by decide) (hi : X.N[i]? = some x := by rfl) (hj : X.N[j]? = some y := by rfl)
    (hx : X.env.scope.names.lookup x = some .local := by rfl) (hy : X.env.scope.names.lookup y = some .local := by rfl)
    (hw : swappedStores [.Tuple [.Name x px, .Name y py] kt pt] (.Tuple [.List es p3, b] k2 pt2) X.env = pure (some [x, y]) := by rfl)
    (hs : swapsWithSole [.Tuple [.Name x px, .Name y py] kt pt] (.Tuple [.List es p3, b] k2 pt2) pos.line X.env = pure false := by rfl)
    (s1 : starEach [.List es p3, b] X.env = (false, eval (.List es p3) X.env) :: starEach [b] X.env := by rfl) (s2 : starEach [b] X.env = (false, eval b X.env) :: starEach [] X.env := by rfl) :
    QS X EW (.Assign [.Tuple [.Name x px, .Name y py] kt pt] (.Tuple [.List es p3, b] k2 pt2) pos) (tPar i j (tCons (tLst ta) (tCons tb tNil))) (mParL i j ma mb) := by
  refine ⟨ps_par hc hN hi hj hij hx hy (pa_cons (pe_lst ha.pa) (pa_cons hb.pe pa_nil s2) s1) hw hs, ?_⟩
  refine then_sm (R := VwsOk) (k := fun D σ xs H1 => xs.length ≤ sizeLine ∧ ∀ p, H1 p = none → tb σ (upd H1 p (.lst xs)) fun z H2 => ∃ v w, [V.ref p, z] = [v, w] ∧ D.nx ((σ.set i (some v)).set j (some w)) H2) ha.sm fun g F H σ ρ xs ws hK ok hab r ρ' e D q => ?_
  cases h1 : frcs ws ρ with
  | none => unfold mThen at e; rw [h1] at e; cases e
  | some p =>
    obtain ⟨r1, ρ1⟩ := p
    obtain ⟨ds, F1, rfl, e1, ok1, q1⟩ := frcs_ok ok hab h1
    rw [mThen_ok h1] at e
    unfold parMid at e
    by_cases hz : ds.length ≤ BIG
    · rw [if_pos hz] at e
      refine ⟨big_le (by rw [dps_len q1]; exact hz), fun p hp => ?_⟩
      have k1 := ok1.newH (o := .lst xs) hp
      have fl := ok1.ff.free hp
      have at0 : ∀ i, g.at_ i ≠ some p := fun i z => by
        obtain ⟨u, hu⟩ := g.ath i p z
        obtain ⟨o', e'⟩ := ok1.th p u hu
        rw [hp] at e'; cases e'
      have n0 : ∀ (i : Nat) (o : O), ρ1[i]? = some (.own o) → σ[i]? ≠ some (some (V.ref p)) := fun i o z1 z2 => by
        obtain ⟨l, w1, _, w3, _⟩ := ok1.sl i _ _ z1 z2
        cases w1
        obtain ⟨u, hu⟩ := oo_some w3
        rw [hp] at hu; cases hu
      cases h2 : mb ρ1 with
      | none => unfold mThen at e; rw [h2] at e; cases e
      | some p2 =>
        obtain ⟨r2, ρ2⟩ := p2
        cases r2 with
        | er c =>
          unfold mThen at e
          rw [h2] at e
          cases e
          exact hb.sm k1.sub F1 _ σ ρ1 hK k1.subOk _ _ h2 _ fun F' H' ex ok' => q F' H' σ (e1.trans ex) (k1.back ok')
        | ok w =>
          rw [mThen_ok h2] at e
          refine hb.sm k1.sub F1 _ σ ρ1 hK k1.subOk _ _ h2 _ fun F2 H2 ex2 ok2 z hz2 => ?_
          obtain ⟨d, F3, ρ3, ex3, ok3, hd, e3⟩ := frcS ok2 hz2 e
          obtain ⟨t1, t2, t3⟩ := k1.stay ok3 upd_same fl n0 at0
          have ok4 := k1.back ok3
          have hq1 : DpAll g.K F3 xs ds := dpsE (ex2.trans ex3) _ _ q1
          unfold parEnd at e3
          cases h4 : asgO i (.lst ds) ρ3 with
          | none => rw [h4] at e3; cases e3
          | some p4 =>
            obtain ⟨r4, ρ4⟩ := p4
            obtain ⟨rfl, rfl⟩ := asgO_some h4
            rw [h4] at e3
            simp only at e3
            cases h5 : asgD j d (ρ3.set i (.own (.lst ds))) with
            | none => rw [h5] at e3; cases e3
            | some ρ5 =>
              rw [h5] at e3
              cases e3
              rw [asgD_some h5] at q
              have ok5 := ok4.setO2 (i := i) (p := p) (o := .lst ds) t2 (ok1.fresh hp) ⟨xs, t1, hq1⟩ fun j s l z1 z2 z3 z4 => by
                subst z4
                cases s with
                | un => cases z2
                | dat d => cases z2
                | own o => exact t3 j o z1 z3
                | par o =>
                  obtain ⟨l2, w1, _, _, w4, _⟩ := ok4.sl j _ _ z1 z3
                  cases w1
                  exact at0 j w4
              exact ⟨_, _, rfl, q F3 H2 _ (e1.trans (ex2.trans ex3)) (ok5.setD hd)⟩
    · rw [if_neg hz] at e; cases e
end
end Dat
open PySem Sem PySem.F in
theorem Dat.extend_meets (l : Addr) (items : Array Value) (n : Nat) (b : Addr) (items2 : Array Value) (n2 : Nat) (d2 : Option Addr) (s2 : Array (Option Value)) (hc0 : ¬(!items.isEmpty && Builtin.List.listTooLong (items.size + items2.size)) = true) (hc1 : items.size ≤ sizeLine) (hz : items.size + items2.size ≤ sizeLine + 1) :
    Meets (Builtin.«list.extend» ⟨[.ref l, .ref b], []⟩) (fun _ R s => s.heap.get? l = some { cls := .type "list", dict := none, data := .seq items n, slots := #[] } ∧ s.heap.get? b = some { cls := .type "list", dict := d2, data := .seq items2 n2, slots := s2 } ∧
      R (.ok (.ret Value.none)) { s with heap := s.heap.update l (Obj.mapSeq fun x => x ++ items2), toks := s.toks }) :=
  .of_wp fun prog w A R s h => by
    obtain ⟨hp, g, d, tk, os⟩ := s
    obtain ⟨hl, hb, h⟩ := h
    have f1 := PySem.AutoSeq1.idx_int
    have f2 := PySem.AutoSeq1.sub_tuple_tuple
    have f3 := PySem.AutoSeq1.sub_list_list
    have f4 := PySem.AutoSeq1.sub_tuple_list
    have f5 := PySem.AutoSeq1.sub_list_tuple
    have hq : (items ++ items2).size ≤ sizeLine + 1 := by rw [Array.size_append]; exact hz
    wp_walk using (wpAny_updateSeq hl rfl (hz := hc1) (_hz' := hq)), PySem.AutoSeq1.wpAny_loadPart' hl, PySem.AutoSeq1.wpAny_loadPart' hb
    exact ⟨_, rfl, h⟩
namespace Dat
open PySem L2 PySem.Spec PyProof.Rows
section
variable {X : Cx} {EW : EWT} {K : PySem.W.Frag} {pos : Pos}
def rExtS (K : PySem.W.Frag) : V → List V → Hp → VK → Prop := fun x vs H Q => ∃ l b xs zs, x = .ref l ∧ vs = [.ref b] ∧ H l = some (.lst xs) ∧ SqL K H b zs ∧ xs.length + zs.length ≤ sizeLine ∧ Q .non (upd H l (.lst (xs ++ zs)))
theorem mt_extS : MtM X "list.extend" (rExtS X.K) := by
  intro pins s σ H x vs v us Q I rx rv h
  obtain ⟨l, b, xs, zs, rfl, rfl, hH, hB, hz, q⟩ := h
  cases rx
  obtain ⟨u, rfl, ru⟩ := rv.one
  cases ru
  obtain ⟨z, its, n, r, hl, e⟩ := I.lstM hH
  obtain ⟨i2, r2, ⟨⟨c2, d2, t2, s2⟩, n2, o2, g1, g2, g3⟩, _⟩ := I.list hB
  simp only at g1 g2 g3
  subst g1 g3
  have q2 := r2.length
  have hsz : its.toArray.size + i2.toArray.size ≤ sizeLine := by
    rw [List.size_toArray, List.size_toArray, ← hl, ← q2]; exact hz
  have short : ¬ (!its.toArray.isEmpty && Builtin.List.listTooLong (its.toArray.size + i2.toArray.size)) = true := by
    rw [notLongL hsz, Bool.and_false]
    exact Bool.false_ne_true
  have m := extend_meets l its.toArray n b i2.toArray n2 d2 s2 short (by omega) (by omega)
  refine call_meets PySem.F.slot_list_extend ⟨_, e, rfl⟩ PySem.F.entry_list_extend (PySem.F.args_list_extend_2 _ _) m ⟨e, o2, ?_⟩
  refine ⟨.non, _, I.lset (its' := its ++ i2) hH e (by simp) (r.append r2) ?_, rfl, q⟩
  rw [List.length_append]
  exact hz
/-- x.extend(e), x a list of one's own, e a list -/
def extL (d : D) (ds : List D) : Option (List D) := match d with
  | .list es => if ds.length + es.length ≤ BIG then some (ds ++ es) else none
  | _ => none
def mExtend (i : Nat) (ma : M Vw) : MS := isOL i (mThen ma fun w => mThen (frc w) fun d => ownL i (extL d))
theorem qs_extend (i : Nat) {x : Str} {e : Expr} {te : TE} {ma : M Vw} {p apos cpos : Pos} (h : QE X EW e te ma) (hN : X.N[i]? = some x := by rfl) (hv : Vis X.env.scope x := by first | exact Or.inl rfl | exact Or.inr (Or.inl rfl) | exact Or.inr (Or.inr rfl)) (hd : (x == ("__debug__" : Str)) = false := by decide)
    (hcd : (x == ("__classdict__" : Str)) = false := by decide) (hbase : attributeBase (.Name x p) "extend" X.env (eval (.Name x p) X.env) = eval (.Name x p) X.env := by rfl)
    (hfew : ((backTo cpos (starEach [e] X.env)).all (fun x => !x.1) && (backToKw cpos (keywordEach [] X.env)).all (fun x => x.1.isSome) && decide ([e].length + ([] : List Keyword).length + (if ([] : List Keyword).isEmpty then 0 else 1) < 30)) = true := by rfl)
    (hline : (apos.endLine == cpos.line) = true := by rfl) (hs : starEach [e] X.env = (false, eval e X.env) :: starEach [] X.env := by rfl) (hsw : swapsWith (.Call (.Attribute (.Name x p) "extend" apos) [e] [] cpos) none pos.line X.env = pure false := by rfl) :
    QS X EW (.Expr (.Call (.Attribute (.Name x p) "extend" apos) [e] [] cpos) pos) (tDrop (tBM X.K "list" (rExtS X.K) (tVar i) (tCons te tNil))) (mExtend i ma) := by
  refine ⟨ps_expr (pe_bm PySem.F.plainAttrs_list PySem.F.slot_list_extend (by show builtinType _ = _; rw [builtinType_eq_fast]; kernel_rfl) mt_extS (pe_var hN hv hd hcd) (pa_cons h.pe pa_nil hs) hbase hfew hline hs rfl) hsw, fun g F H σ ρ hK ok r ρ' e D q => ?_⟩
  obtain ⟨e1, l, vs0, hv, hl⟩ := isOL_at ok e
  refine ⟨.ref l, hv, .inl ⟨rfl, vs0, .inl (.inl hl)⟩, ?_⟩
  unfold mThen at e1
  cases hm : ma ρ with
  | none => rw [hm] at e1; cases e1
  | some p =>
    obtain ⟨r1, ρ1⟩ := p
    rw [hm] at e1
    cases r1 with
    | er c =>
      cases e1
      exact h.sm g F H σ ρ hK ok _ _ hm _ fun F' H' ex ok' => q F' H' σ ex ok'
    | ok w =>
      refine h.sm g F H σ ρ hK ok _ _ hm _ fun F1 H1 ex1 ok1 y hy => ?_
      obtain ⟨d, F2, ρ2, ex2, ok2, hd2, e2⟩ := frcS ok1 hy e1
      obtain ⟨ds, es, vs, hf, hH, hds, rfl, k⟩ := ownL_at ok2 hv e2
      cases d with
      | list zs =>
        unfold extL at hf
        simp only at hf
        split at hf
        · rename_i hz
          cases hf
          cases hd2 with
          | lst hs ha =>
            have z1 := dps_len hds
            have z2 := dps_len ha
            exact ⟨l, _, vs, _, rfl, rfl, hH, by rw [← hK]; exact sqlE ok2.ff hs, by rw [z1, z2]; exact big_le hz, q F2 _ σ (ex1.trans ex2) (k _ (dps_app hds ha))⟩
        · cases hf
      | none => cases hf
      | bool _ => cases hf
      | int _ => cases hf
      | str _ => cases hf
      | tuple _ => cases hf
      | dict _ => cases hf
/-! ### sep.join(xs) -/
theorem qe_join {sep : Str} {j : Nat} {e : Expr} {te : TE} {ma : M Vw} {p apos : Pos} (h : QE X EW e te ma) (hs : starEach [e] X.env = [(false, eval e X.env)] := by rfl)
    (hbase : attributeBase (.Constant (.str sep) j p) "join" X.env (eval (.Constant (.str sep) j p) X.env) = eval (.Constant (.str sep) j p) X.env := by rfl) (hline : (apos.endLine == pos.line) = true := by rfl) :
    QE X EW (.Call (.Attribute (.Constant (.str sep) j p) "join" apos) [e] [] pos) (tM1 (fun x xs H Q => ∃ a p, ∃ ys : List Str, x = .str a ∧ xs = [.ref p] ∧ (SqL X.K H p (ys.map V.str) ∨ SqT X.K H p (ys.map V.str)) ∧
      (ys.map (·.length)).sum + ys.length * a.length ≤ 16777216 ∧ Q (.str (Txt.join a ys)) H) (tC (.str sep)) te) (mOp1 (fJoin sep) ma) := by
  refine ⟨pe_join pe_str h.pe hs hbase hline, fun g F H σ ρ hK ok r ρ' e Q q => ⟨⟨sep, rfl⟩, ?_⟩⟩
  refine At.bind (EW := EW) (R2 := VwOk g σ) (k := fun y H1 Q => ∃ a p, ∃ ys : List Str, V.str sep = .str a ∧ [y] = [V.ref p] ∧ (SqL X.K H1 p (ys.map V.str) ∨ SqT X.K H1 p (ys.map V.str)) ∧
      (ys.map (·.length)).sum + ys.length * a.length ≤ 16777216 ∧ Q (V.str (Txt.join a ys)) H1) (h.sm g F H σ ρ hK ok) (fun F1 H1 ρ1 y w e1 ok1 hy => app1_at ok1 hy fun d z h1 h2 Q q => ?_) r ρ' e Q q
  cases d with
  | list ds =>
    unfold fJoin at h2
    simp only at h2
    cases h3 : strsD ds with
    | none => rw [h3] at h2; cases h2
    | some ys =>
      rw [h3] at h2
      simp only at h2
      split at h2
      · rename_i hz
        cases h2
        cases strsD_some h3
        obtain ⟨p, us, rfl, s1, d1⟩ := rdD_list ok1 hy h1
        rw [vals_strs_of d1] at s1
        exact ⟨sep, p, ys, rfl, rfl, .inl (hK ▸ s1), Nat.le_trans hz (by decide), q _ F1 H1 (Ex.refl F1) ok1 (.str _)⟩
      · cases h2
  | none => cases h2
  | bool _ => cases h2
  | int _ => cases h2
  | str _ => cases h2
  | tuple _ => cases h2
  | dict _ => cases h2
end
end Dat
namespace Dat
open PySem L2 PySem.Spec PyProof.Rows
theorem vrep {k : Nat} {A : Around} (hr : Rm k A) : A.units + 4100 < cLine := by have := hr.un; omega
theorem takes_no {X : Cx} : Takes X (fun _ _ _ _ => False) := fun _ _ h => by
  obtain ⟨_, _, _, _, _, _, _, _, _, _, _, _, _, _, _, _, z⟩ := h
  exact z.elim
/-! ### sum -/
def fSum : D → Option D
  | .list ds => (intsD ds).map fun ns => .int ns.sum
  | _ => none
section
variable {X : Cx} {EW : EWT} {pos : Pos} {K : PySem.W.Frag}
theorem cs_sum : Call1S K (rSum K) fSum := by
  rintro g F H σ ρ x a d z rfl ok ha h1 h3 Q q
  cases d with
  | list ds =>
    have h3 : ((intsD ds).map fun ns => PyData.int ns.sum) = some z := h3
    cases q2 : intsD ds with
    | none => rw [q2] at h3; cases h3
    | some ns =>
      rw [q2] at h3
      cases h3
      cases intsD_some q2
      obtain ⟨p, us, rfl, s1, d1⟩ := rdD_list ok ha h1
      rw [vals_ints_of d1] at s1
      exact ⟨p, ns, rfl, s1, q _ F H (Ex.refl F) ok (.int _)⟩
  | none => cases h3
  | bool _ => cases h3
  | int _ => cases h3
  | str _ => cases h3
  | tuple _ => cases h3
  | dict _ => cases h3
theorem qe_callDXk (hK : X.K = K) {k : Nat} {ps : List Str} {fm : List D → Option D} {x : Str} {p : Pos} {e : Expr} {es : List Expr} {ta : TA} {ma : M (List Vw)} (C : CalX X.prog X.w X.K X.mg X.base CX0 k x ps (spP K fm)) (hr : Rm k X.A)
    (ha : QA X EW (e :: es) ta ma) (hg : Gl X x := by rfl) (hdb : (x == ("__debug__" : Str)) = false := by decide) (he : starEach (e :: es) X.env = (false, eval e X.env) :: starEach es X.env := by rfl) (hpl : (backTo pos (starEach es X.env)).any (·.1) = false := by rfl) :
    QE X EW (.Call (.Name x p) (e :: es) [] pos) (tCall (spP K fm) [] E0 ta) (mCall fm ma) := by
  subst hK
  exact qe_callDX C hr ha hg hdb he hpl
theorem qe_callBDXk (hK : X.K = K) {k : Nat} {ps : List Str} {fm : O → List D → Option (D × O)} {x : Str} {p : Pos} {e : Expr} {es : List Expr} {ta : TA} {ma : M (List Vw)} (C : CalX X.prog X.w X.K X.mg X.base CX0 k x ps (spB K fm)) (hr : Rm k X.A)
    (ha : QA X EW (e :: es) ta ma) (hg : Gl X x := by rfl) (hdb : (x == ("__debug__" : Str)) = false := by decide) (he : starEach (e :: es) X.env = (false, eval e X.env) :: starEach es X.env := by rfl) (hpl : (backTo pos (starEach es X.env)).any (·.1) = false := by rfl) :
    QE X EW (.Call (.Name x p) (e :: es) [] pos) (tCall (spB K fm) [] E0 ta) (mCallB fm ma) := by
  subst hK
  exact qe_callBDX C hr ha hg hdb he hpl
end
section
variable {P : Program} {w : World} {K : PySem.W.Frag} {mg : Str → Option Value} {base : Heap}
theorem calBX {x : Str} {st : Stmt} {f : Addr} {fd : FuncData} {N ps : List Str} {k : Nat} {ms : MS} (F : Def1 K mg x st ps f fd) (S : FnScope N ps (defScope st)) (hN : ps.length ≤ N.length)
    (hbody : ∀ (cdv : Value) (A : Around) (outer : List Env) (s : Shared) (H : Hp) (E : XK), Rm k (A.deeper (envOfC x (defScope st) s.heap.objs.size f cdv)) →
      ∃ t, QSs (cxOf CX0 P w K mg base N x (defScope st) f cdv A outer s H E).nox EW0 (defBody st) t ms) : CalX P w K mg base CX0 (k + 1) x ps (spB K (runB ps.length N.length ms)) := by
  refine ⟨f, fd, fx_of F.fn S (fun A h => h.base) (fun vs H Q E h => ?_) (fun cdv A outer s H vs Q E hr h => ?_), F.mgf, F.kp, F.bd⟩
  · obtain ⟨F0, l, us, o, ds, d, o', rfl, _, _, _, h2, h3, _⟩ := h
    unfold runB at h3
    split at h3
    · rename_i hl
      rw [List.length_cons, dps_len h2, hl]
    · cases h3
  · obtain ⟨F0, l, us, o, ds, d, o', rfl, e0, hl0, ho, h2, h3, q⟩ := h
    unfold runB at h3
    split at h3
    · rename_i hl
      obtain ⟨t, hq⟩ := hbody cdv A outer s H E (hr.deeper _)
      refine ⟨t, hq.ps.nox, ?_⟩
      have ok := start_okB (N := N) e0 hl0 ho h2 hl hN
      cases hm : ms (.par o :: ds.map Sl.dat ++ List.replicate (N.length - ps.length) .un) with
      | none => rw [hm] at h3; cases h3
      | some p =>
        obtain ⟨r, ρ'⟩ := p
        rw [hm] at h3
        refine hq.sm _ F0 H _ _ rfl ok r ρ' hm _ fun F' H' σ' e1 ok1 => ?_
        have key : ∀ o2 ρ2, ρ' = .par o2 :: ρ2 → GrowB l F0 H F' H' ∧ OOk K F' H' l o2 := fun o2 ρ2 e => by
          subst e
          obtain ⟨ov, _, l', _, f1, f2, f3, _⟩ := ok1.at (i := 0) rfl
          cases f3
          refine ⟨⟨e1, ok1.ff, fun a o hne z => ok1.gh a o (fun i z => ?_) z, f1, ok1.nw⟩, f2⟩
          have z : (if i = 0 then some l else none) = some a := z
          by_cases hi : i = 0
          · rw [if_pos hi] at z; cases z; exact hne rfl
          · rw [if_neg hi] at z; cases z
        cases r with
        | nx =>
          cases ρ' with
          | nil => cases h3
          | cons s ρ2 =>
            cases s with
            | par o2 =>
              cases h3
              obtain ⟨k1, k2⟩ := key _ _ rfl
              exact q .non F' H' k1 k2 .non
            | un => cases h3
            | dat _ => cases h3
            | own _ => cases h3
        | rt d' =>
          cases ρ' with
          | nil => cases h3
          | cons s ρ2 =>
            cases s with
            | par o2 =>
              cases h3
              obtain ⟨k1, k2⟩ := key _ _ rfl
              exact fun v hv => q v F' H' k1 k2 hv
            | un => cases h3
            | dat _ => cases h3
            | own _ => cases h3
        | bk => cases h3
        | ct => cases h3
        | er c => cases h3
    · cases h3
/-- with no fuel nothing is promised -/
theorem calP0 {x : Str} {st : Stmt} {f : Addr} {fd : FuncData} {ps : List Str} {k : Nat} (F : Def1 K mg x st ps f fd) : CalX P w K mg base CX0 k x ps (spP K fun _ => none) :=
  ⟨f, fd, ⟨fun vs H Q E h => (by obtain ⟨_, _, _, _, _, h, _⟩ := h; cases h), fun A out s H gs us vs Q E _ _ _ _ h => (by obtain ⟨_, _, _, _, _, h, _⟩ := h; cases h)⟩, F.mgf, F.kp, F.bd⟩
theorem calB0 {x : Str} {st : Stmt} {f : Addr} {fd : FuncData} {ps : List Str} {k : Nat} (F : Def1 K mg x st ps f fd) : CalX P w K mg base CX0 k x ps (spB K fun _ _ => none) :=
  ⟨f, fd, ⟨fun vs H Q E h => (by obtain ⟨_, _, _, _, _, _, _, _, _, _, _, _, h, _⟩ := h; cases h), fun A out s H gs us vs Q E _ _ _ _ h => (by obtain ⟨_, _, _, _, _, _, _, _, _, _, _, _, h, _⟩ := h; cases h)⟩, F.mgf, F.kp, F.bd⟩
theorem calR0 {C : Addr} {x : Str} {st : Stmt} {f : Addr} {fd : FuncData} {ps : List Str} {k : Nat} (F : Def1 K mg x st ps f fd) : CalX P w K mg base (L2.CX P w) k x ps (spR K C fun _ => none) :=
  ⟨f, fd, ⟨fun vs H Q E h => (by obtain ⟨_, _, _, _, _, h, _⟩ := h; cases h), fun A out s H gs us vs Q E _ _ _ _ h => (by obtain ⟨_, _, _, _, _, h, _⟩ := h; cases h)⟩, F.mgf, F.kp, F.bd⟩
end
end Dat
namespace Dat
open PySem L2 PySem.Spec PyProof.Rows
theorem bb_ord : bootBuiltins "ord" = some (.builtin "ord") := by decide +kernel
theorem bb_repr : bootBuiltins "repr" = some (.builtin "repr") := by decide +kernel
theorem bb_sum : bootBuiltins "sum" = some (.builtin "sum") := by decide +kernel
theorem rz0 {X : Cx} {C : Addr} : Rz X EW0 C (fun _ _ _ _ => False) := ⟨takes_no, fun _ _ h => h.elim⟩
section
variable {P : Program} {w : World} {K : PySem.W.Frag} {mg : Str → Option Value} {base : Heap}
theorem calOX {x : Str} {st : Stmt} {f : Addr} {fd : FuncData} {N ps : List Str} {k : Nat} {es : List Expr} {p1 p2 : Pos} {ma : M (List Vw)} (F : Def1 K mg x st ps f fd) (S : FnScope N ps (defScope st)) (hN : ps.length ≤ N.length)
    (hst : defBody st = [.Return (some (.List es p1)) p2])
    (hbody : ∀ (cdv : Value) (A : Around) (outer : List Env) (s : Shared) (H : Hp) (E : XK), Rm k (A.deeper (envOfC x (defScope st) s.heap.objs.size f cdv)) →
      ∃ ta, QA (cxOf CX0 P w K mg base N x (defScope st) f cdv A outer s H E).nox EW0 es ta ma) : CalX P w K mg base CX0 (k + 1) x ps (spO K (runO ps.length N.length ma)) := by
  refine ⟨f, fd, fx_of F.fn S (fun A h => h.base) (fun vs H Q E h => ?_) (fun cdv A outer s H vs Q E hr h => ?_), F.mgf, F.kp, F.bd⟩
  · obtain ⟨F0, ds, d, _, h2, h3, _⟩ := h
    unfold runO at h3
    split at h3
    · rename_i hl
      rw [dps_len h2, hl]
    · cases h3
  · obtain ⟨F0, ds, d, e0, h2, h3, q⟩ := h
    unfold runO at h3
    split at h3
    · rename_i hl
      obtain ⟨ta, hq⟩ := hbody cdv A outer s H E (hr.deeper _)
      have body := (pss_one (ps_ret (pos := p2) (pe_lst (pos := p1) hq.pa))).nox
      refine ⟨tRet (tLst ta), by rw [hst]; exact body, ?_⟩
      have ok := start_ok (N := N) e0 h2 hl hN
      cases hm : mBind ma frcs (ds.map Sl.dat ++ List.replicate (N.length - ps.length) .un) with
      | none => rw [hm] at h3; cases h3
      | some p =>
        obtain ⟨r, ρ'⟩ := p
        rw [hm] at h3
        cases r with
        | er c => cases h3
        | ok ys =>
          simp only at h3
          split at h3
          · rename_i hz
            cases h3
            refine (At.bind (EW := EW0) (R2 := fun (F : Hp) (a : List V) (b : List D) => DpAll K F a b) (k := fun xs H1 (Q : List V → Hp → Prop) => Q xs H1) (hq.sm _ F0 H _ _ rfl ok) fun F1 H1 ρ1 vs1 ws e1 ok1 hx => ?_) (.ok d) ρ' hm (fun xs H1 => xs.length ≤ sizeLine ∧ ∀ p, H1 p = none → Q (.ref p) (upd H1 p (.lst xs))) fun F2 H2 ex ok2 a ha => ?_
            · intro r ρ' e Q q
              obtain ⟨ds, F2, rfl, e2, ok2, q1⟩ := frcs_ok ok1 hx e
              exact q F2 H1 e2 ok2 _ q1
            · refine ⟨big_le (by rw [dps_len ha]; exact hz), fun p hp => ?_⟩
              have ok3 := ok2.newH (o := .lst a) hp
              exact q p a F2 _ ⟨ex, ok3.ff, fun a o z => ok3.gh a o (fun _ z => nomatch z) z, ok3.nw⟩ (ok2.ff.free hp) (ok2.fresh hp) upd_same ha
          · cases h3
    · cases h3
end
end Dat
namespace Dat
open PySem L2
section
variable {X : Cx} {EW : EWT} {pos : Pos} {K : PySem.W.Frag}
theorem qe_callRXk (hK : X.K = K) {C : Addr} {W : WX} {k : Nat} {ps : List Str} {fm : List D → Option (Rs D)} {x : Str} {p : Pos} {e : Expr} {es : List Expr} {ta : TA} {ma : M (List Vw)} (c : CalX X.prog X.w X.K X.mg X.base (L2.CX X.prog X.w) k x ps (spR K C fm)) (hr : Rm k X.A) (z : Rz X EW C W)
    (ha : QA X EW (e :: es) ta ma) (hg : Gl X x := by rfl) (hdb : (x == ("__debug__" : Str)) = false := by decide) (he : starEach (e :: es) X.env = (false, eval e X.env) :: starEach es X.env := by rfl) (hpl : (backTo pos (starEach es X.env)).any (·.1) = false := by rfl) :
    QE X EW (.Call (.Name x p) (e :: es) [] pos) (tCall (spR K C fm) [] (eW W) ta) (mCallR fm ma) := by
  subst hK
  exact qe_callRX c hr z ha hg hdb he hpl
theorem qe_slicek (hK : X.K = K) {e : Expr} {lo hi : Option Expr} {te : TE} {tl th : TO} {ma : M Vw} {ml mh : M (Option Int)} {p2 : Pos} (he : QE X EW e te ma) (hl : QO X EW lo tl ml) (hh : QO X EW hi th mh) : QE X EW (.Subscript e (.Slice lo hi none p2) pos) (tSl (rSlL K) te tl th) (mCut ma ml mh) := by
  subst hK
  exact qe_slice he hl hh
/-- a test as a value: and, or of comparisons -/
theorem qe_ofB {e : Expr} {t : TE} {ma : M Vw} (h : QE X EW e t ma) : QE X EW e t ma := h
end
end Dat
namespace Dat
open PySem L2 PySem.Spec PyProof.Rows
section
variable {X : Cx} {EW : EWT} {pos : Pos} {K : PySem.W.Frag}
/-! ### tests as values -/
theorem qe_isN {a : Expr} {ta : TE} {ma : M Vw} {j p2} (h : QE X EW a ta ma) : QE X EW (.Compare a [.Is] [.Constant .none j p2] pos) (tIsN ta) (mB (mIsN ma)) := by
  refine ⟨pe_cmp (pc_isN h.pe), fun g F H σ ρ hK ok => ?_⟩
  unfold mB mIsN
  rw [bind_assoc]
  refine At.bind (k := fun x H1 (Q : VK) => Q (.bl (decide (x = .non))) H1) (h.sm g F H σ ρ hK ok) fun F1 H1 ρ1 x a e1 ok1 hx => ?_
  intro r ρ' e Q q
  unfold mBind at e
  cases h1 : isNonD a ρ1 with
  | none => rw [h1] at e; cases e
  | some p =>
    obtain ⟨r1, ρ2⟩ := p
    rw [h1] at e
    refine isN_at (EW := EW) ok1 hx r1 ρ2 h1 (fun b H => Q (.bl b) H) fun F' H' ex ok' => ?_
    cases r1 with
    | ok b =>
      cases e
      rintro _ rfl
      exact q F' H' ex ok' _ (.bl _)
    | er c => cases e; exact q F' H' ex ok'
theorem qe_one {op} {a : Expr} {ta : TE} {ma : M Vw} (h : QE X EW a ta ma) : QE X EW (.BoolOp op [a] pos) ta ma := ⟨pe_one h.pe, h.sm⟩
def mAndV (ma mb : M Vw) : M Vw := mBind ma fun w => mBind (asB w) fun k => if k = true then mb else mRet (.dat (.bool false))
def mOrV (ma mb : M Vw) : M Vw := mBind ma fun w => mBind (asB w) fun k => if k = true then mRet (.dat (.bool true)) else mb
theorem asB_is {g : Gh} {F H : Hp} {σ : L2.St} {ρ : List Sl} {x : V} {w : Vw} (ok : Ok g F H σ ρ) (hx : VwOk g σ F x w) {k : Bool} {ρ' : List Sl} (e : asB w ρ = some (.ok k, ρ')) : x = .bl k ∧ ρ' = ρ := by
  unfold asB at e
  cases h1 : rdD w ρ with
  | none => simp only [h1] at e; cases e
  | some d =>
    simp only [h1] at e
    have hd := rdD_ok ok hx h1
    cases d with
    | bool b => cases e; cases hd; exact ⟨rfl, rfl⟩
    | none => cases e
    | int _ => cases e
    | str _ => cases e
    | list _ => cases e
    | tuple _ => cases e
    | dict _ => cases e
theorem asB_er {w : Vw} {ρ ρ' : List Sl} {c : Nat} (e : asB w ρ = some (.er c, ρ')) : False := by
  unfold asB at e
  split at e <;> cases e
theorem qe_and {a b : Expr} {rest : List Expr} {ta tb : TE} {ma mb : M Vw} (ha : QE X EW a ta ma) (hb : QE X EW (.BoolOp .And (b :: rest) pos) tb mb) : QE X EW (.BoolOp .And (a :: b :: rest) pos) (tAndV ta tb) (mAndV ma mb) := by
  refine ⟨pe_and ha.pe hb.pe, fun g F H σ ρ hK ok => ?_⟩
  refine At.bind (k := fun x H1 (Q : VK) => ∃ c, x = .bl c ∧ if c = true then tb σ H1 Q else Q (.bl false) H1) (ha.sm g F H σ ρ hK ok) fun F1 H1 ρ1 x w e1 ok1 hx => ?_
  intro r ρ' e Q q
  unfold mBind at e
  cases h1 : asB w ρ1 with
  | none => rw [h1] at e; cases e
  | some p =>
    obtain ⟨r1, ρ2⟩ := p
    rw [h1] at e
    cases r1 with
    | er c => exact (asB_er h1).elim
    | ok k =>
      obtain ⟨rfl, rfl⟩ := asB_is ok1 hx h1
      cases k with
      | true => exact ⟨true, rfl, by rw [if_pos rfl]; exact hb.sm g F1 H1 σ ρ2 hK ok1 r ρ' e Q q⟩
      | false =>
        cases e
        exact ⟨false, rfl, by rw [if_neg (by decide)]; exact q F1 H1 (Ex.refl F1) ok1 _ (.bl _)⟩
theorem qe_or {a b : Expr} {rest : List Expr} {ta tb : TE} {ma mb : M Vw} (ha : QE X EW a ta ma) (hb : QE X EW (.BoolOp .Or (b :: rest) pos) tb mb) : QE X EW (.BoolOp .Or (a :: b :: rest) pos) (tOrV ta tb) (mOrV ma mb) := by
  refine ⟨pe_or ha.pe hb.pe, fun g F H σ ρ hK ok => ?_⟩
  refine At.bind (k := fun x H1 (Q : VK) => ∃ c, x = .bl c ∧ if c = true then Q (.bl true) H1 else tb σ H1 Q) (ha.sm g F H σ ρ hK ok) fun F1 H1 ρ1 x w e1 ok1 hx => ?_
  intro r ρ' e Q q
  unfold mBind at e
  cases h1 : asB w ρ1 with
  | none => rw [h1] at e; cases e
  | some p =>
    obtain ⟨r1, ρ2⟩ := p
    rw [h1] at e
    cases r1 with
    | er c => exact (asB_er h1).elim
    | ok k =>
      obtain ⟨rfl, rfl⟩ := asB_is ok1 hx h1
      cases k with
      | false => exact ⟨false, rfl, by rw [if_neg (by decide)]; exact hb.sm g F1 H1 σ ρ2 hK ok1 r ρ' e Q q⟩
      | true =>
        cases e
        exact ⟨true, rfl, by rw [if_pos rfl]; exact q F1 H1 (Ex.refl F1) ok1 _ (.bl _)⟩
/-! ### x, y = a, []: y a list of one's own -/
def parR (i j : Nat) (d : D) : MS := fun ρ => match asgD i d ρ with
  | some ρ1 => asgO j (.lst []) ρ1
  | none => none
def mParR (i j : Nat) (ma : M Vw) : MS := mThen ma fun w => mThen (frc w) (parR i j)
theorem qs_parR (i j : Nat) {x y : Str} {a : Expr} {ta : TE} {ma : M Vw} {px py pt p3 : Pos} {kt k2 pt2} (hc : X.calm = true) (hN : X.N.Nodup) (ha : QE X EW a ta ma) (hij : i ≠ j := by decide) (hi : X.N[i]? = some x := by rfl) (hj : X.N[j]? = some y := by rfl)
    (hx : X.env.scope.names.lookup x = some .local := by rfl) (hy : X.env.scope.names.lookup y = some .local := by rfl)
    (hw : swappedStores [.Tuple [.Name x px, .Name y py] kt pt] (.Tuple [a, .List [] p3] k2 pt2) X.env = pure (some [x, y]) := by rfl)
    (hs : swapsWithSole [.Tuple [.Name x px, .Name y py] kt pt] (.Tuple [a, .List [] p3] k2 pt2) pos.line X.env = pure false := by rfl)
    (s1 : starEach [a, .List [] p3] X.env = (false, eval a X.env) :: starEach [.List [] p3] X.env := by rfl) (s2 : starEach [.List [] p3] X.env = (false, eval (.List [] p3) X.env) :: starEach [] X.env := by rfl) :
    QS X EW (.Assign [.Tuple [.Name x px, .Name y py] kt pt] (.Tuple [a, .List [] p3] k2 pt2) pos) (tPar i j (tCons ta (tCons (tLst tNil) tNil))) (mParR i j ma) := by
  refine ⟨ps_par hc hN hi hj hij hx hy (pa_cons ha.pe (pa_cons (pe_lst pa_nil) pa_nil s2) s1) hw hs, ?_⟩
  refine then_sm (R := VwOk) (k := fun D σ x H1 => ([] : List V).length ≤ sizeLine ∧ ∀ p, H1 p = none → ∃ v w, [x, V.ref p] = [v, w] ∧ D.nx ((σ.set i (some v)).set j (some w)) (upd H1 p (.lst []))) ha.sm fun g F H σ ρ a b hK ok hab r ρ' e D q => ?_
  obtain ⟨d, F1, ρ1, e1, ok1, hd, h2⟩ := frcS ok hab e
  unfold parR at h2
  cases h3 : asgD i d ρ1 with
  | none => rw [h3] at h2; cases h2
  | some ρ2 =>
    rw [h3] at h2
    obtain ⟨rfl, rfl⟩ := asgO_some h2
    rw [asgD_some h3] at q
    exact ⟨Nat.zero_le _, fun p hp => ⟨_, _, rfl, q F1 _ _ e1 ((ok1.setD hd).setO (o := .lst []) hp ⟨[], upd_same, .nil⟩)⟩⟩
end
end Dat
namespace Dat
open PySem L2 PySem.Spec PyProof.Rows
section
variable {X : Cx} {EW : EWT} {pos : Pos} {K : PySem.W.Frag}
theorem qs_setOcX {k : Nat} {ps : List Str} {fm : List D → Option (List D)} (i : Nat) {x y : Str} {p pos' : Pos} {e : Expr} {es : List Expr} {ta : TA} {ma : M (List Vw)} (C : CalX X.prog X.w X.K X.mg X.base CX0 k x ps (spO X.K fm)) (hr : Rm k X.A) (hN : X.N.Nodup)
    (ha : QA X EW (e :: es) ta ma) (hg : Gl X x := by rfl) (hdb : (x == ("__debug__" : Str)) = false := by decide) (he : starEach (e :: es) X.env = (false, eval e X.env) :: starEach es X.env := by rfl) (hpl : ∀ cpos, (backTo cpos (starEach es X.env)).any (·.1) = false := by intro _; rfl)
    (hi : X.N[i]? = some y := by rfl) (hx : Loc X.env.scope y := by first | exact Or.inl rfl | exact Or.inr rfl) {cpos : Pos} (hs : swapsWith (.Call (.Name x p) (e :: es) [] cpos) (some (.Name y pos')) pos.line X.env = pure false := by rfl)
    (hf : X.fn y = true ∨ X.env.scope.names.lookup y = some .local := by first | exact .inl rfl | exact .inr rfl) : QS X EW (.Assign [.Name y pos'] (.Call (.Name x p) (e :: es) [] cpos) pos) (tAsg (tCall (spO X.K fm) [] E0 ta) (gName i)) (mSetOc i fm ma) := by
  obtain ⟨f, fd, hF, hm, hk, hb⟩ := C
  refine ⟨ps_set hN hi hx (pe_callX hF hr hg hm hk hb pass0 ha.pa hdb he (hpl cpos)) hs hf, ?_⟩
  refine then_sm (R := VwsOk) (k := fun D σ vs H1 => spO X.K fm (vs ++ []) H1 (fun v H2 => D.nx (σ.set i (some v)) H2) E0) ha.sm fun g F H σ ρ xs ws hK ok hab r ρ' e D q => ?_
  unfold mThen at e
  cases h1 : frcs ws ρ with
  | none => rw [h1] at e; cases e
  | some p =>
    obtain ⟨r1, ρ1⟩ := p
    obtain ⟨ds, F1, rfl, e1, ok1, q1⟩ := frcs_ok ok hab h1
    rw [h1] at e
    simp only at e
    cases h2 : fm ds with
    | none => rw [h2] at e; cases e
    | some ys =>
      rw [h2] at e
      obtain ⟨rfl, rfl⟩ := asgO_some e
      rw [List.append_nil, ← hK]
      refine ⟨F1, ds, ys, ok1.ff, q1, h2, fun l us F' H' gr fl hl hl' hus => ?_⟩
      have ok2 := ok1.call gr
      refine q F' H' _ (e1.trans gr.ff) (ok2.setO2 fl (ok1.fresh hl) ⟨us, hl', hus⟩ fun j s l' a b c z => ?_)
      subst z
      have hsl := ok1.sl j s _ a c
      cases s with
      | un => cases b
      | dat d => cases b
      | own o =>
        obtain ⟨l2, z1, z2, z3, z4⟩ := hsl
        cases z1
        obtain ⟨u, hu⟩ := oo_some z3
        rw [hl] at hu; cases hu
      | par o =>
        obtain ⟨l2, z1, z2, z3, z4⟩ := hsl
        cases z1
        obtain ⟨u, hu⟩ := oo_some z3
        rw [hl] at hu; cases hu
end
end Dat
namespace Dat
open PySem L2 PySem.Spec PyProof.Rows
section
variable {X : Cx} {EW : EWT} {pos : Pos} {K : PySem.W.Frag}
/-! ### a text so many times -/
def rMulS : R2 := fun x y H Q => ∃ a n, x = .str a ∧ y = .int n ∧ PySem.MulOk a n ∧ Q (.str (PySem.Txt.mul a n)) H
theorem op_mulS : OpR X (binaryOp .Mult) rMulS := by
  intro pins s σ H x y v u Q I rx ry h
  obtain ⟨a, n, rfl, rfl, hok, q⟩ := h
  obtain ⟨t, rfl⟩ := rx
  obtain ⟨t2, rfl⟩ := ry
  exact PySem.SB.mul hok fun t' k => ⟨.str _, H, I.tok k, ⟨t', rfl⟩, q⟩
def fMulS : D → D → Option D := fun d e => match d, e with
  | .str a, .int n => if 0 ≤ n ∧ n ≤ 1000 ∧ a.length ≤ 1000 then some (.str (PySem.Txt.mul a n)) else none
  | _, _ => none
theorem mulSok {a : Str} {n : Int} (h0 : 0 ≤ n) (h1 : n ≤ 1000) (h2 : a.length ≤ 1000) : PySem.MulOk a n := by
  have e63 : (2 : Int) ^ 63 = 9223372036854775808 := by decide
  refine ⟨?_, fun h3 _ => ?_, fun h3 _ => ?_⟩
  · rw [e63, decide_eq_false (by omega), decide_eq_false (by omega)]; rfl
  · rw [e63]
    have h4 : (a.length : Int) ≤ (9223372036854775808 - 1 : Int) / n := Int.le_ediv_of_mul_le (by omega) (by
      have h5 : (a.length : Int) * n ≤ 1000 * 1000 := Int.mul_le_mul (by omega) h1 h0 (by omega)
      omega)
    omega
  · refine short24 ?_
    have : a.length * n.toNat ≤ 1000 * 1000 := Nat.mul_le_mul h2 (by omega)
    omega
theorem os_mulS : Op2S K rMulS fMulS := Op2S.flat fun H x y d e z hx hy hz => by
  cases d with
  | str a =>
    cases e with
    | int n =>
      have hz : (if 0 ≤ n ∧ n ≤ 1000 ∧ a.length ≤ 1000 then some (PyData.str (PySem.Txt.mul a n)) else none) = some z := hz
      split at hz
      · rename_i c
        cases hz
        cases hx
        cases hy
        exact ⟨_, fun _ => .str _, fun Q q => ⟨a, n, rfl, rfl, mulSok c.1 c.2.1 c.2.2, q⟩⟩
      · cases hz
    | none => cases hz
    | bool _ => cases hz
    | str _ => cases hz
    | list _ => cases hz
    | tuple _ => cases hz
    | dict _ => cases hz
  | none => cases hz
  | bool _ => cases hz
  | int _ => cases hz
  | list _ => cases hz
  | tuple _ => cases hz
  | dict _ => cases hz
/-- * of whole numbers, or of a text and a whole number -/
def fTimes : D → D → Option D := fun d e => match fMul d e with
  | some z => some z
  | none => fMulS d e
theorem op_times : OpR X (binaryOp .Mult) (fun x y H Q => rI CMul (fun i j => .int (i * j)) x y H Q ∨ rMulS x y H Q) := op_mul.or op_mulS
theorem os_times : Op2S K (fun x y H Q => rI CMul (fun i j => .int (i * j)) x y H Q ∨ rMulS x y H Q) fTimes := Op2S.or os_mul os_mulS fun d e z h => two_or h
/-- how great a number may be that is shown (wide) -/
def STRW : Nat := 10 ^ 77
def fStrW : D → Option D
  | .int i => if i.natAbs < STRW then some (.str (toString i)) else none
  | _ => none
theorem strw_log {n : Nat} (c : n < STRW) : n.log2 < 1920 := by
  by_cases h0 : n = 0
  · rw [h0]; decide
  · exact Nat.lt_trans ((Nat.log2_lt h0).mpr (show n < 2 ^ 256 from Nat.lt_trans c (by decide))) (by decide)
theorem cs_strW : Call1S K (fun xs H Q => ∃ i, xs = [.int i] ∧ i.natAbs.log2 < 1920 ∧ Q (.str (toString i)) H) fStrW := Call1S.flat fun H x d z hx hz => by
  cases d with
  | int i =>
    have hz : (if i.natAbs < STRW then some (PyData.str (toString i)) else none) = some z := hz
    split at hz
    · rename_i c
      cases hz; cases hx
      exact ⟨_, fun _ => .str _, fun Q q => ⟨i, rfl, strw_log c, q⟩⟩
    · cases hz
  | none => cases hz
  | bool _ => cases hz
  | str _ => cases hz
  | list _ => cases hz
  | tuple _ => cases hz
  | dict _ => cases hz
end
end Dat
namespace Dat
open PySem
/-- an error of the class at S is one that the class's own clause takes -/
theorem own_exm {K : PySem.W.Frag} {S : Addr} (a : PySem.W.subIn K (.ref S) (.type "BaseException") = some true) (b : PySem.W.isClsIn K S = true) (c : PySem.W.typeIn K (.ref S) = some (.type "type")) (d : PySem.W.subIn K (.ref S) (.ref S) = some true) : PySem.W.exmOne K (.ref S) (.ref S) = some true := by
  have b' : (PySem.W.clsIn K S).isSome = true := b
  have q : ((PySem.W.clsIn K S).isSome && PySem.W.typeIn K (.ref S) == some (.type "type")) = true := by rw [b', c]; rfl
  unfold PySem.W.exmOne
  rw [a]
  exact (if_pos rfl).trans ((if_pos q).trans d)
end Dat
namespace Dat
open PySem L2
/-! ### a small calculus: what an expression gives -/
/-- an expression gives a view that reads as d; nothing changes -/
def Ev (m : M Vw) (ρ : List Sl) (d : D) : Prop := ∃ w, m ρ = some (.ok w, ρ) ∧ rdD w ρ = some d
/-- .. and is d when it is forced -/
def Ef (m : M Vw) (ρ : List Sl) (d : D) : Prop := ∃ w, m ρ = some (.ok w, ρ) ∧ rdD w ρ = some d ∧ frc w ρ = some (.ok d, ρ)
def Es (m : M (List Vw)) (ρ : List Sl) (ds : List D) : Prop := ∃ ws, m ρ = some (.ok ws, ρ) ∧ frcs ws ρ = some (.ok ds, ρ)
def Tb (m : M Bool) (ρ : List Sl) (b : Bool) : Prop := m ρ = some (.ok b, ρ)
theorem Ef.ev {m : M Vw} {ρ : List Sl} {d : D} (h : Ef m ρ d) : Ev m ρ d := by obtain ⟨w, h1, h2, _⟩ := h; exact ⟨w, h1, h2⟩
theorem Ef.dat {m : M Vw} {ρ : List Sl} {d : D} (h : m ρ = some (.ok (.dat d), ρ)) : Ef m ρ d := ⟨.dat d, h, rfl, rfl⟩
theorem Ef.c (d : D) (ρ : List Sl) : Ef (mC d) ρ d := ⟨.dat d, rfl, rfl, rfl⟩
theorem Ef.v {i : Nat} {ρ : List Sl} {d : D} (h : ρ[i]? = some (.dat d)) : Ef (mVar i) ρ d := by
  refine ⟨.loc i, ?_, ?_, ?_⟩
  · unfold mVar; rw [h]
  · unfold rdD; simp only [h]
  · unfold frc; simp only [h]
theorem Ev.own {i : Nat} {ρ : List Sl} {ds : List D} (h : ρ[i]? = some (.own (.lst ds))) : Ev (mVar i) ρ (.list ds) := by
  refine ⟨.loc i, ?_, ?_⟩
  · unfold mVar; rw [h]
  · unfold rdD; simp only [h]
theorem Ev.op1d {f : D → Option D} {ma : M Vw} {ρ : List Sl} {d z : D} (h : Ev ma ρ d) (hf : f d = some z) : mOp1 f ma ρ = some (.ok (.dat z), ρ) := by
  obtain ⟨w, h1, h2⟩ := h
  exact mOp1_ok h1 h2 hf
theorem Ev.op2d {f : D → D → Option D} {ma mb : M Vw} {ρ : List Sl} {d e z : D} (h : Ev ma ρ d) (h' : Ev mb ρ e) (hf : f d e = some z) : mOp2 f ma mb ρ = some (.ok (.dat z), ρ) := by
  obtain ⟨w, h1, h2⟩ := h
  obtain ⟨w', h3, h4⟩ := h'
  exact mOp2_ok h1 h3 h2 h4 hf
theorem Ef.op1 {f : D → Option D} {ma : M Vw} {ρ : List Sl} {d z : D} (h : Ev ma ρ d) (hf : f d = some z) : Ef (mOp1 f ma) ρ z := .dat (h.op1d hf)
theorem Ef.op2 {f : D → D → Option D} {ma mb : M Vw} {ρ : List Sl} {d e z : D} (h : Ev ma ρ d) (h' : Ev mb ρ e) (hf : f d e = some z) : Ef (mOp2 f ma mb) ρ z := .dat (h.op2d h' hf)
theorem Es.nil (ρ : List Sl) : Es mNil ρ [] := ⟨[], rfl, rfl⟩
theorem Es.cons {ma : M Vw} {mr : M (List Vw)} {ρ : List Sl} {d : D} {ds : List D} (h : Ef ma ρ d) (h' : Es mr ρ ds) : Es (mCons ma mr) ρ (d :: ds) := by
  obtain ⟨w, h1, _, h2⟩ := h
  obtain ⟨ws, h3, h4⟩ := h'
  refine ⟨w :: ws, ?_, ?_⟩
  · unfold mCons
    rw [mBind_ok h1, mBind_ok h3]
    rfl
  · unfold frcs
    rw [mBind_ok h2, mBind_ok h4]
    rfl
theorem Es.one {ma : M Vw} {ρ : List Sl} {d : D} (h : Ef ma ρ d) : Es (mCons ma mNil) ρ [d] := .cons h (.nil ρ)
theorem Es.bind {ma : M (List Vw)} {ρ : List Sl} {ds : List D} (h : Es ma ρ ds) : mBind ma frcs ρ = some (.ok ds, ρ) := by
  obtain ⟨ws, h1, h2⟩ := h
  rw [mBind_ok h1, h2]
theorem Ef.bind {ma : M Vw} {ρ : List Sl} {d : D} (h : Ef ma ρ d) : mBind ma frc ρ = some (.ok d, ρ) := by
  obtain ⟨w, h1, _, h2⟩ := h
  rw [mBind_ok h1, h2]
theorem Ef.call {f : List D → Option D} {ma : M (List Vw)} {ρ : List Sl} {ds : List D} {z : D} (h : Es ma ρ ds) (hf : f ds = some z) : Ef (mCall f ma) ρ z := by
  obtain ⟨ws, h1, h2⟩ := h
  refine .dat ?_
  unfold mCall
  rw [mBind_ok h1]
  unfold appF
  rw [mBind_ok h2]
  rw [hf]
  rfl
theorem Ef.callR {f : List D → Option (Rs D)} {ma : M (List Vw)} {ρ : List Sl} {ds : List D} {z : D} (h : Es ma ρ ds) (hf : f ds = some (.ok z)) : Ef (mCallR f ma) ρ z := by
  obtain ⟨ws, h1, h2⟩ := h
  refine .dat ?_
  unfold mCallR
  rw [mBind_ok h1]
  unfold appR
  rw [mBind_ok h2]
  simp only [hf]
theorem callR_er {f : List D → Option (Rs D)} {ma : M (List Vw)} {ρ : List Sl} {ds : List D} {c : Nat} (h : Es ma ρ ds) (hf : f ds = some (.er c)) : mCallR f ma ρ = some (.er 0, ρ) := by
  obtain ⟨ws, h1, h2⟩ := h
  unfold mCallR
  rw [mBind_ok h1]
  unfold appR
  rw [mBind_ok h2]
  simp only [hf]
theorem Ef.tup {ma : M (List Vw)} {ρ : List Sl} {ds : List D} (h : Es ma ρ ds) (hl : ds.length ≤ 100 := by exact Nat.le_of_ble_eq_true rfl) : Ef (mTup ma) ρ (.tuple ds) := by
  obtain ⟨ws, h1, h2⟩ := h
  refine .dat ?_
  unfold mTup
  rw [mBind_ok h1, mBind_ok h2]
  unfold mkSeq
  rw [if_pos (Nat.le_trans hl (by decide))]
  rfl
theorem Ef.lst {ma : M (List Vw)} {ρ : List Sl} {ds : List D} (h : Es ma ρ ds) (hl : ds.length ≤ 100 := by exact Nat.le_of_ble_eq_true rfl) : Ef (mLst ma) ρ (.list ds) := by
  obtain ⟨ws, h1, h2⟩ := h
  refine .dat ?_
  unfold mLst
  rw [mBind_ok h1, mBind_ok h2]
  unfold mkSeq
  rw [if_pos (Nat.le_trans hl (by decide))]
  rfl
theorem Ef.ift {mt : M Bool} {ma mb : M Vw} {ρ : List Sl} {d : D} (h : Tb mt ρ true) (h' : Ef ma ρ d) : Ef (mIf mt ma mb) ρ d := by
  have e : mIf mt ma mb ρ = ma ρ := by rw [mIf_ok h]; rfl
  obtain ⟨w, h1, h2⟩ := h'
  exact ⟨w, e.trans h1, h2⟩
theorem Ef.iff {mt : M Bool} {ma mb : M Vw} {ρ : List Sl} {d : D} (h : Tb mt ρ false) (h' : Ef mb ρ d) : Ef (mIf mt ma mb) ρ d := by
  have e : mIf mt ma mb ρ = mb ρ := by rw [mIf_ok h]; rfl
  obtain ⟨w, h1, h2⟩ := h'
  exact ⟨w, e.trans h1, h2⟩
theorem Tb.to {m : M Bool} {ρ : List Sl} {b b' : Bool} (h : Tb m ρ b) (e : b = b') : Tb m ρ b' := e ▸ h
theorem Tb.asB {m : M Vw} {ρ : List Sl} {b : Bool} (h : Ev m ρ (.bool b)) : Tb (mAsB m) ρ b := by
  obtain ⟨w, h1, h2⟩ := h
  exact mAsB_ok h1 h2
theorem Tb.tru {m : M Vw} {ρ : List Sl} {d : D} {b : Bool} (h : Ev m ρ d) (hb : truD d = some b) : Tb (mTru m) ρ b := by
  obtain ⟨w, h1, h2⟩ := h
  exact mTru_ok h1 h2 hb
theorem Tb.no {m : M Bool} {ρ : List Sl} {b : Bool} (h : Tb m ρ b) : Tb (mNot m) ρ (!b) := mNot_ok h
theorem Tb.andt {m n : M Bool} {ρ : List Sl} {b : Bool} (h : Tb m ρ true) (h' : Tb n ρ b) : Tb (mAnd m n) ρ b := by
  show mAnd m n ρ = _
  rw [mAnd_ok h]; exact h'
theorem Tb.andf {m n : M Bool} {ρ : List Sl} (h : Tb m ρ false) : Tb (mAnd m n) ρ false := by
  show mAnd m n ρ = _
  rw [mAnd_ok h]; rfl
theorem Tb.ort {m n : M Bool} {ρ : List Sl} (h : Tb m ρ true) : Tb (mOr m n) ρ true := by
  show mOr m n ρ = _
  rw [mOr_ok h]; rfl
theorem Tb.orf {m n : M Bool} {ρ : List Sl} {b : Bool} (h : Tb m ρ false) (h' : Tb n ρ b) : Tb (mOr m n) ρ b := by
  show mOr m n ρ = _
  rw [mOr_ok h]; exact h'
theorem app2B_ok {f : D → D → Option D} {a b : Vw} {d e : D} {k : Bool} {ρ : List Sl} (h1 : rdD a ρ = some d) (h2 : rdD b ρ = some e) (hf : f d e = some (.bool k)) : app2B f a b ρ = some (.ok k, ρ) := by
  unfold app2B app2
  simp only [h1, h2, hf]
theorem Tb.chaint {f f' : D → D → Option D} {ma mb mc : M Vw} {ρ : List Sl} {a b c : D} {k : Bool} (ha : Ev ma ρ a) (hb : Ev mb ρ b) (hc : Ev mc ρ c) (h : f a b = some (.bool true)) (h' : f' b c = some (.bool k)) : Tb (mChain f f' ma mb mc) ρ k := by
  obtain ⟨w1, a1, a2⟩ := ha
  obtain ⟨w2, b1, b2⟩ := hb
  obtain ⟨w3, c1, c2⟩ := hc
  show mChain f f' ma mb mc ρ = _
  unfold mChain
  rw [mBind_ok a1, mBind_ok b1, mBind_ok (app2B_ok a2 b2 h), if_pos rfl, mBind_ok c1, app2B_ok b2 c2 h']
theorem Tb.chainf {f f' : D → D → Option D} {ma mb mc : M Vw} {ρ : List Sl} {a b : D} (ha : Ev ma ρ a) (hb : Ev mb ρ b) (h : f a b = some (.bool false)) : Tb (mChain f f' ma mb mc) ρ false := by
  obtain ⟨w1, a1, a2⟩ := ha
  obtain ⟨w2, b1, b2⟩ := hb
  show mChain f f' ma mb mc ρ = _
  unfold mChain
  rw [mBind_ok a1, mBind_ok b1, mBind_ok (app2B_ok a2 b2 h)]
  rfl
theorem Ef.cut {ma : M Vw} {ml mh : M (Option Int)} {ρ : List Sl} {ds : List D} {lo hi : Option Int} (h : Ev ma ρ (.list ds)) (hl : ml ρ = some (.ok lo, ρ)) (hh : mh ρ = some (.ok hi, ρ)) : Ef (mCut ma ml mh) ρ (.list (cutD ds lo hi)) := by
  obtain ⟨w, h1, h2⟩ := h
  refine .dat ?_
  unfold mCut
  rw [mBind_ok h1, mBind_ok hl, mBind_ok hh]
  unfold cutW
  simp only [h2]
theorem part_ok {ma : M Vw} {ρ : List Sl} {i : Int} (h : Ev ma ρ (.int i)) : mPart ma ρ = some (.ok (some i), ρ) := by
  obtain ⟨w, h1, h2⟩ := h
  unfold mPart
  rw [mBind_ok h1, mBind_ok (asI_ok h2)]
  rfl
/-! statements -/
theorem st_skip {mt : M Bool} {m k : MS} {ρ : List Sl} (h : Tb mt ρ false) : mSeq (mIfS mt m mSkip) k ρ = k ρ := mSeq_ok (by rw [mIfS_ok h]; rfl)
theorem st_then {mt : M Bool} {m n k : MS} {ρ : List Sl} (h : Tb mt ρ true) : mSeq (mIfS mt m n) k ρ = mSeq m k ρ := by
  have e : mIfS mt m n ρ = m ρ := by rw [mIfS_ok h]; rfl
  unfold mSeq
  rw [e]
theorem st_ret {ma : M Vw} {ρ : List Sl} {d : D} (h : Ef ma ρ d) : mRetS ma ρ = some (.rt d, ρ) := by
  obtain ⟨w, h1, _, h2⟩ := h
  unfold mRetS mThen
  rw [h1]
  simp only
  rw [h2]
  rfl
theorem seq_ret {ma : M Vw} {k : MS} {ρ : List Sl} {d : D} (h : Ef ma ρ d) : mSeq (mRetS ma) k ρ = some (.rt d, ρ) := by
  unfold mSeq
  rw [st_ret h]
theorem seq_rt {m k : MS} {ρ ρ' : List Sl} {d : D} (h : m ρ = some (.rt d, ρ')) : mSeq m k ρ = some (.rt d, ρ') := by
  unfold mSeq
  rw [h]
theorem seq_er {m k : MS} {ρ ρ' : List Sl} {c : Nat} (h : m ρ = some (.er c, ρ')) : mSeq m k ρ = some (.er c, ρ') := by
  unfold mSeq
  rw [h]
theorem if_ret {mt : M Bool} {ma : M Vw} {n k : MS} {ρ : List Sl} {d : D} (h : Tb mt ρ true) (h' : Ef ma ρ d) : mSeq (mIfS mt (mRetS ma) n) k ρ = some (.rt d, ρ) := by
  rw [st_then h, seq_ret h']
theorem if_raise {mt : M Bool} {n k : MS} {ρ : List Sl} (h : Tb mt ρ true) : mSeq (mIfS mt mRaise n) k ρ = some (.er 0, ρ) := by
  rw [st_then h]; rfl
theorem st_asg {ma : M Vw} {gm : GM} {ρ ρ' : List Sl} {d : D} (h : Ef ma ρ d) (hg : gm d ρ = some ρ') : mAsg ma gm ρ = some (.nx, ρ') := by
  obtain ⟨w, h1, _, h2⟩ := h
  unfold mAsg mThen
  rw [h1]
  show mThen (frc w) (asgS gm) ρ = _
  unfold mThen
  rw [h2]
  show asgS gm d ρ = _
  unfold asgS
  rw [hg]
theorem seq_asg {ma : M Vw} {gm : GM} {k : MS} {ρ ρ' : List Sl} {d : D} (h : Ef ma ρ d) (hg : gm d ρ = some ρ') : mSeq (mAsg ma gm) k ρ = k ρ' := mSeq_ok (st_asg h hg)
theorem asg_er {ma : M Vw} {gm : GM} {ρ ρ' : List Sl} {c : Nat} (h : ma ρ = some (.er c, ρ')) : mAsg ma gm ρ = some (.er c, ρ') := by
  unfold mAsg mThen
  rw [h]
theorem ret_er {ma : M Vw} {ρ ρ' : List Sl} {c : Nat} (h : ma ρ = some (.er c, ρ')) : mRetS ma ρ = some (.er c, ρ') := by
  unfold mRetS mThen
  rw [h]
theorem st_par {i j : Nat} {ma mb : M Vw} {ρ ρ1 ρ2 : List Sl} {d e : D} (h : Ef ma ρ d) (h' : Ef mb ρ e) (g1 : asgD i d ρ = some ρ1) (g2 : asgD j e ρ1 = some ρ2) : mPar i j ma mb ρ = some (.nx, ρ2) := by
  obtain ⟨ws, h1, h2⟩ := Es.cons h (Es.one h')
  unfold mPar
  rw [mThen_ok h1, mThen_ok h2]
  simp only [g1, g2]
def isNn : D → Bool
  | .none => true
  | _ => false
theorem Tb.isN {ma : M Vw} {ρ : List Sl} {d : D} (h : Ev ma ρ d) : Tb (mIsN ma) ρ (isNn d) := by
  obtain ⟨w, h1, h2⟩ := h
  show mIsN ma ρ = _
  unfold mIsN
  rw [mBind_ok h1]
  unfold isNonD
  simp only [h2]
  cases d <;> rfl
theorem Tb.toF {m : M Bool} {ρ : List Sl} {b : Bool} (h : Tb m ρ b) (e : ¬ b = true) : Tb m ρ false := h.to (by cases b <;> simp_all)
theorem Ef.andt {ma mb : M Vw} {ρ : List Sl} {d : D} (h : Ev ma ρ (.bool true)) (h' : Ef mb ρ d) : Ef (mAndV ma mb) ρ d := by
  obtain ⟨w, h1, h2⟩ := h
  have e : mAndV ma mb ρ = mb ρ := by
    unfold mAndV
    rw [mBind_ok h1]
    have : asB w ρ = some (.ok true, ρ) := by unfold asB; rw [h2]
    rw [mBind_ok this]
    rfl
  obtain ⟨w', h1', h2'⟩ := h'
  exact ⟨w', e.trans h1', h2'⟩
theorem Ef.b {m : M Bool} {ρ : List Sl} {b : Bool} (h : Tb m ρ b) : Ef (mB m) ρ (.bool b) := by
  refine .dat ?_
  unfold mB
  rw [mBind_ok h]
  rfl
end Dat
namespace Dat
open PySem L2 PySem.Spec PyProof.Rows
section
variable {X : Cx} {EW : EWT} {K : PySem.W.Frag} {pos : Pos}
/-! ### {}, {..}[k], {..}.get(k, c) -/
theorem qe_dict0 : QE X EW (.Dict [] [] pos) tDNewK (mC (.dict [])) := by
  refine ⟨pe_dnewK, fun g F H σ ρ hK ok => ?_⟩
  intro r ρ' e Q q
  cases e
  intro p hp
  obtain ⟨ex, ok3⟩ := ok.newD (o := .dK []) hp
  exact q _ _ ex ok3 _ (show Dp _ _ _ _ from .dk0 upd_same)
def dispA (ds : List (Key × D)) (d0 : Option D) (u : Vw) : M Vw := fun ρ => match keyAt u ρ with
  | none => none
  | some k => match valD (mergeD [] ds) k with
    | some d => some (.ok (.dat d), ρ)
    | none => match d0 with
      | some d => some (.ok (.dat d), ρ)
      | none => none
def mDisp (ds : List (Key × D)) (d0 : Option D) (mk : M Vw) : M Vw := mBind mk (dispA ds d0)
theorem At.over {F1 H1 : Hp} {g : Gh} {F : Hp} {σ : L2.St} {α β : Type} {R : Hp → α → β → Prop} {t : Hp → (α → Hp → Prop) → Prop} {m : Option (Rs β × List Sl)} (ex : Ex F F1) (h : At EW g F1 H1 σ R t m) {r : Rs β} {ρ' : List Sl} (e : m = some (r, ρ')) {Q : α → Hp → Prop}
    (q : ∀ F' H', Ex F F' → Ok g F' H' σ ρ' → match (generalizing := false) r with
      | .ok b => ∀ a, R F' a b → Q a H'
      | .er c => EW c H') : t H1 Q := by
  refine h r ρ' e Q fun F' H' e1 ok' => ?_
  have := q F' H' (ex.trans e1) ok'
  cases r with
  | ok b => exact this
  | er c => exact this
theorem key_of {g : Gh} {F H : Hp} {σ : L2.St} {ρ : List Sl} {y : V} {u : Vw} {k : Key} (ok : Ok g F H σ ρ) (hy : VwOk g σ F y u) (h1 : keyAt u ρ = some k) : y = kV k := by
  unfold keyAt at h1
  cases hr : rdD u ρ with
  | none => rw [hr] at h1; cases h1
  | some kd =>
    rw [hr] at h1
    exact key_ok (rdD_ok ok hy hr) h1
theorem qe_dispIx {ks : List (Option Expr)} {vs : List Expr} {trs : List (TE × TE)} {ps : List (Key × V)} {ds : List (Key × D)} {p2 : Pos} {k : Expr} {tk : TE} {mk : M Vw} (hu : X.A.units + 1 < cLine) (h : QPs X p2 ks vs trs ps ds) (hk : QE X EW k tk mk)
    (hall : ks.all (·.isSome) = true := by rfl) (hl : ks.length = vs.length := by rfl) (h0 : ks ≠ [] := by exact fun z => nomatch z) (h15 : ks.length ≤ 15 := by decide) (hp15 : ps.length ≤ 15 := by decide) (hs : NoSl k := by exact fun _ _ => rfl) :
    QE X EW (.Subscript (.Dict ks vs p2) k pos) (tDGet (tDisp trs) tk) (mDisp ds none mk) := by
  refine ⟨pe_dget hu (pe_disp h.pp hall hl h0 h15) hk.pe hs, fun g F H σ ρ hK ok r ρ' e Q q => ?_⟩
  intro P hP
  refine h.rd σ _ _ ?_
  refine ⟨upd_same, ps, rfl, hp15, ?_⟩
  rw [upd_upd]
  obtain ⟨ex, ok3⟩ := ok.newD (o := .dK (mergeK [] ps)) hP
  refine At.over (F1 := upd F P (.dK (mergeK [] ps))) (H1 := upd H P (.dK (mergeK [] ps))) ex (At.bind (EW := EW) (R2 := VwOk g σ) (k := fun y H2 Q => ∃ a v, V.ref P = .ref a ∧ DGet H2 a y (some v) ∧ Q v H2) (hk.sm g _ _ σ ρ hK ok3) (fun F1 H1 ρ1 y u ex1 ok1 hy => ?_)) e q
  intro r ρ' e Q q
  unfold dispA at e
  cases h1 : keyAt u ρ1 with
  | none => rw [h1] at e; cases e
  | some ky =>
    rw [h1] at e
    simp only at e
    cases h3 : valD (mergeD [] ds) ky with
    | none => rw [h3] at e; cases e
    | some d =>
      rw [h3] at e
      cases e
      cases key_of ok1 hy h1
      obtain ⟨v, h6, h7⟩ := (kv_val (kv_merge (h.kv g.K F1) .nil)).1 d h3
      have g0 := DGet.k (k := ky) (ok1.ff _ _ (ex1 _ _ upd_same))
      rw [h6] at g0
      exact ⟨P, v, rfl, g0, q F1 H1 (Ex.refl F1) ok1 v h7⟩
theorem qe_dispGet {ks : List (Option Expr)} {vs : List Expr} {trs : List (TE × TE)} {ps : List (Key × V)} {ds : List (Key × D)} {p2 apos : Pos} {k c : Expr} {tk : TE} {mk : M Vw} {cv : V} {cd : D} (hu : X.A.units + 1 < cLine) (h : QPs X p2 ks vs trs ps ds) (hk : QE X EW k tk mk) (hc : QC X c cv cd)
    (hall : ks.all (·.isSome) = true := by rfl) (hl : ks.length = vs.length := by rfl) (h0 : ks ≠ [] := by exact fun z => nomatch z) (h15 : ks.length ≤ 15 := by decide) (hp15 : ps.length ≤ 15 := by decide) (m : M2 X (.Dict ks vs p2) "get" apos k c pos := by exact ⟨rfl, rfl, rfl, rfl⟩) :
    QE X EW (.Call (.Attribute (.Dict ks vs p2) "get" apos) [k, c] [] pos) (tDGet2 (tDisp trs) tk (tC cv)) (mDisp ds (some cd) mk) := by
  refine ⟨pe_dget2 hu (pe_disp h.pp hall hl h0 h15) hk.pe hc.pe m, fun g F H σ ρ hK ok r ρ' e Q q => ?_⟩
  intro P hP
  refine h.rd σ _ _ ?_
  refine ⟨upd_same, ps, rfl, hp15, ?_⟩
  rw [upd_upd]
  refine ⟨P, rfl, .inl ⟨_, .inl upd_same⟩, ?_⟩
  obtain ⟨ex, ok3⟩ := ok.newD (o := .dK (mergeK [] ps)) hP
  refine At.over (F1 := upd F P (.dK (mergeK [] ps))) (H1 := upd H P (.dK (mergeK [] ps))) ex (At.bind (EW := EW) (R2 := VwOk g σ) (k := fun y H2 Q => ∃ o, DGet H2 P y o ∧ Q (o.getD cv) H2) (hk.sm g _ _ σ ρ hK ok3) (fun F1 H1 ρ1 y u ex1 ok1 hy => ?_)) e q
  intro r ρ' e Q q
  unfold dispA at e
  cases h1 : keyAt u ρ1 with
  | none => rw [h1] at e; cases e
  | some ky =>
    rw [h1] at e
    simp only at e
    cases key_of ok1 hy h1
    have g0 := DGet.k (k := ky) (ok1.ff _ _ (ex1 _ _ upd_same))
    have hv := kv_val (k := ky) (kv_merge (h.kv g.K F1) .nil)
    cases h3 : valD (mergeD [] ds) ky with
    | none =>
      rw [h3] at e
      cases e
      rw [hv.2 h3] at g0
      exact ⟨_, g0, q F1 H1 (Ex.refl F1) ok1 cv (hc.dp _ _)⟩
    | some d =>
      rw [h3] at e
      cases e
      obtain ⟨v, h6, h7⟩ := hv.1 d h3
      rw [h6] at g0
      exact ⟨_, g0, q F1 H1 (Ex.refl F1) ok1 v h7⟩
end
end Dat
namespace K27
open PySem L2 Dat
def top (i : Nat) : Stmt := PySem.Challenge.pw_entablature_k27_plain_values_in_octets.main.body.getD i (.Pass ⟨0, 0, 0, 0⟩)
structure Blt (mg : Str → Option Value) : Prop where
  abs : mg "abs" = none
  bool : mg "bool" = none
  int : mg "int" = none
  isinstance : mg "isinstance" = none
  len : mg "len" = none
  ord : mg "ord" = none
  range : mg "range" = none
  repr : mg "repr" = none
  str : mg "str" = none
  tuple : mg "tuple" = none
  g_DEEPEST : ∃ t, mg "DEEPEST" = some (.int 400 t)
  g_HIGH : ∃ t, mg "HIGH" = some (.str "&'()*+,-./0123456789:;<=>?@ABCDEFGHIJKLMNOPQRSTUVWXYZ[\\]^_`abcdefghijklmnopqrstuvwxyz{|}~" t)
  g_LOW : ∃ t, mg "LOW" = some (.str " !\"#$" t)
section
variable {C : Addr} {P : Program} {w : World} {K : PySem.W.Frag} {mg : Str → Option Value} {base : Heap}
abbrev s_d_u_law_box : Stmt := top 16
abbrev N_d_u_law_box : List Str := ["script", "x"]
theorem sc_d_u_law_box : FnScope N_d_u_law_box ["script"] (defScope s_d_u_law_box) := ⟨rfl, rfl, rfl, by decide +kernel, rfl, by decide +kernel, by decide +kernel⟩
def E_d_u_law_box_0 : M Vw := (mOp1 fAbs (mOp1 fIntOf (mVar 1)))
def T_d_u_law_box_1 : M Bool := (mRet true)
def L_d_u_law_box_2 : M Vw := (mLc (mSeqL (mVar 0)) (asgD 1) T_d_u_law_box_1 E_d_u_law_box_0 [1])
def m_d_u_law_box : M (List Vw) := (mCons (mC (.int 0)) (mCons (mC (.int 0)) (mCons (mC (.int 0)) (mCons L_d_u_law_box_2 mNil))))
def f_d_u_law_box : List D → Option (List D) := runO 1 2 m_d_u_law_box
theorem ok_d_u_law_box {f : Addr} {fd : FuncData} (F : Def1 K mg "_law_box" s_d_u_law_box ["script"] f fd) (T : Blt mg) (XC : XCls K mg "BadForm" C)  : CalX P w K mg base CX0 1 "_law_box" ["script"] (spO K f_d_u_law_box) :=
  calOX F sc_d_u_law_box (by decide) rfl fun cdv A outer s H E hr => ⟨_, (qa_cons qe_int (qa_cons qe_int (qa_cons qe_int (qa_cons (qe_lc (own := [("x", 1)]) rfl sc_d_u_law_box.nd (qi_list (qe_var 0)) (show BlkOk N_d_u_law_box (defScope s_d_u_law_box) _ _ from blkOk_by (by decide +kernel)) (fun _ _ _ _ _ => (qg_name 1 sc_d_u_law_box.nd)) (fun _ _ _ _ _ => qts_nil) (fun _ _ _ _ _ => (qe_callB1 call_abs cs_abs (by rfl) T.abs bb_abs (qe_callT1 call_int1 cs_int (by rfl) T.int bb_int (qe_var 1))))) qa_nil))))⟩
abbrev s_d_u_law_take : Stmt := top 17
abbrev N_d_u_law_take : List Str := ["box", "m", "at", "cell", "told"]
theorem sc_d_u_law_take : FnScope N_d_u_law_take ["box", "m"] (defScope s_d_u_law_take) := ⟨rfl, rfl, rfl, by decide +kernel, rfl, by decide +kernel, by decide +kernel⟩
def m_d_u_law_take : MS := (mSeq (mIfS (mAsB (mOp2 fEq (mOp2 fIx (mVar 0) (mC (.int 1))) (mC (.int 0)))) (mSeq (mAsg (mOp2 fIx (mVar 0) (mC (.int 2))) (asgD 2))
  (mSeq (mAsg (mC (.int 0)) (asgD 3))
  (mSeq (mIfS (mAsB (mOp2 fLt (mVar 2) (mOp1 fLen (mOp2 fIx (mVar 0) (mC (.int 3)))))) (mSeq (mAsg (mOp2 fIx (mOp2 fIx (mVar 0) (mC (.int 3))) (mVar 2)) (asgD 3))
  (mSetItem 0 (mC (.int 1)) (mIf (mAsB (mOp2 fGe (mVar 3) (mOp2 fPow (mC (.int 10)) (mC (.int 18))))) (mC (.int 60)) (mOp1 fNeg (mC (.int 9)))))) mSkip)
  (mSeq (mSetItem 0 (mC (.int 2)) (mOp2 fPlus (mVar 2) (mC (.int 1))))
  (mSeq (mSetItem 0 (mC (.int 0)) (mVar 3))
  (mIfS (mAsB (mOp2 fEq (mOp2 fIx (mVar 0) (mC (.int 1))) (mC (.int 0)))) (mRetS (mC (.int 0))) mSkip)))))) mSkip)
  (mSeq (mIfS (mAsB (mOp2 fGt (mOp2 fIx (mVar 0) (mC (.int 1))) (mC (.int 0)))) (mSeq (mAsg (mOp2 fMod (mOp1 fIntOf (mOp2 fIx (mVar 0) (mC (.int 0)))) (mVar 1)) (asgD 4))
  (mSeq (mSetItem 0 (mC (.int 0)) (mOp2 fDiv (mOp2 fIx (mVar 0) (mC (.int 0))) (mVar 1)))
  (mSeq (mSetItem 0 (mC (.int 1)) (mIf (mAsB (mOp2 fGt (mOp2 fIx (mVar 0) (mC (.int 0))) (mC (.int 0)))) (mOp2 fSub (mOp2 fIx (mVar 0) (mC (.int 1))) (mC (.int 1))) (mC (.int 0))))
  (mRetS (mVar 4))))) mSkip)
  (mSeq (mSetItem 0 (mC (.int 1)) (mOp2 fPlus (mOp2 fIx (mVar 0) (mC (.int 1))) (mC (.int 1))))
  (mSeq (mSetItem 0 (mC (.int 0)) (mOp2 fMod (mOp1 fIntOf (mOp2 fPlus (mOp2 fMul (mOp2 fIx (mVar 0) (mC (.int 0))) (mC (.int 48271))) (mOp2 fMul (mC (.int 69621)) (mOp2 fPlus (mOp2 fIx (mVar 0) (mC (.int 1))) (mC (.int 20)))))) (mC (.int 2147483647))))
  (mRetS (mOp2 fMod (mOp2 fMod (mOp1 fIntOf (mOp2 fPlus (mOp2 fDiv (mOp2 fIx (mVar 0) (mC (.int 0))) (mC (.int 7))) (mOp2 fIx (mVar 0) (mC (.int 0))))) (mC (.int 1000003))) (mVar 1)))))))
def f_d_u_law_take : O → List D → Option (D × O) := runB 2 5 m_d_u_law_take
theorem ok_d_u_law_take {f : Addr} {fd : FuncData} (F : Def1 K mg "_law_take" s_d_u_law_take ["box", "m"] f fd) (T : Blt mg) (XC : XCls K mg "BadForm" C)  : CalX P w K mg base CX0 1 "_law_take" ["box", "m"] (spB K f_d_u_law_take) :=
  calBX F sc_d_u_law_take (by decide) fun cdv A outer s H E hr => ⟨_, (qss_cons (qs_if (qt_cmp (op_eqD (v64 hr)) os_eq (qe_ix ix_seq os_ix (qe_var 0) qe_int) qe_int) (qss_cons (qs_set 2 sc_d_u_law_take.nd (qe_ix ix_seq os_ix (qe_var 0) qe_int))
  (qss_cons (qs_set 3 sc_d_u_law_take.nd qe_int)
  (qss_cons (qs_if (qt_cmp op_lt os_lt (qe_var 2) (qe_callB1 call_len cs_len (by rfl) T.len bb_len (qe_ix ix_seq os_ix (qe_var 0) qe_int))) (qss_cons (qs_set 3 sc_d_u_law_take.nd (qe_ix ix_seq os_ix (qe_ix ix_seq os_ix (qe_var 0) qe_int) (qe_var 2)))
  (qss_one (qs_setItem 0 (by rfl) (by first | exact Or.inl rfl | exact Or.inr (Or.inl rfl) | exact Or.inr (Or.inr rfl)) (qe_if (qt_cmp op_ge os_ge (qe_var 3) (qe_op op_pow os_pow qe_int qe_int)) qe_int (qe_un un_neg us_neg qe_int)) qe_int))) qss_nil)
  (qss_cons (qs_setItem 0 (by rfl) (by first | exact Or.inl rfl | exact Or.inr (Or.inl rfl) | exact Or.inr (Or.inr rfl)) (qe_op op_plus os_plus (qe_var 2) qe_int) qe_int)
  (qss_cons (qs_setItem 0 (by rfl) (by first | exact Or.inl rfl | exact Or.inr (Or.inl rfl) | exact Or.inr (Or.inr rfl)) (qe_var 3) qe_int)
  (qss_one (qs_if (qt_cmp (op_eqD (v64 hr)) os_eq (qe_ix ix_seq os_ix (qe_var 0) qe_int) qe_int) (qss_one (qs_ret qe_int)) qss_nil))))))) qss_nil)
  (qss_cons (qs_if (qt_cmp op_gt os_gt (qe_ix ix_seq os_ix (qe_var 0) qe_int) qe_int) (qss_cons (qs_set 4 sc_d_u_law_take.nd (qe_op op_mod os_mod (qe_callT1 call_int1 cs_int (by rfl) T.int bb_int (qe_ix ix_seq os_ix (qe_var 0) qe_int)) (qe_var 1)))
  (qss_cons (qs_setItem 0 (by rfl) (by first | exact Or.inl rfl | exact Or.inr (Or.inl rfl) | exact Or.inr (Or.inr rfl)) (qe_op op_fdiv os_div (qe_ix ix_seq os_ix (qe_var 0) qe_int) (qe_var 1)) qe_int)
  (qss_cons (qs_setItem 0 (by rfl) (by first | exact Or.inl rfl | exact Or.inr (Or.inl rfl) | exact Or.inr (Or.inr rfl)) (qe_if (qt_cmp op_gt os_gt (qe_ix ix_seq os_ix (qe_var 0) qe_int) qe_int) (qe_op op_sub os_sub (qe_ix ix_seq os_ix (qe_var 0) qe_int) qe_int) qe_int) qe_int)
  (qss_one (qs_ret (qe_var 4)))))) qss_nil)
  (qss_cons (qs_setItem 0 (by rfl) (by first | exact Or.inl rfl | exact Or.inr (Or.inl rfl) | exact Or.inr (Or.inr rfl)) (qe_op op_plus os_plus (qe_ix ix_seq os_ix (qe_var 0) qe_int) qe_int) qe_int)
  (qss_cons (qs_setItem 0 (by rfl) (by first | exact Or.inl rfl | exact Or.inr (Or.inl rfl) | exact Or.inr (Or.inr rfl)) (qe_op op_mod os_mod (qe_callT1 call_int1 cs_int (by rfl) T.int bb_int (qe_op op_plus os_plus (qe_op op_mul os_mul (qe_ix ix_seq os_ix (qe_var 0) qe_int) qe_int) (qe_op op_mul os_mul qe_int (qe_op op_plus os_plus (qe_ix ix_seq os_ix (qe_var 0) qe_int) qe_int)))) qe_int) qe_int)
  (qss_one (qs_ret (qe_op op_mod os_mod (qe_op op_mod os_mod (qe_callT1 call_int1 cs_int (by rfl) T.int bb_int (qe_op op_plus os_plus (qe_op op_fdiv os_div (qe_ix ix_seq os_ix (qe_var 0) qe_int) qe_int) (qe_ix ix_seq os_ix (qe_var 0) qe_int))) qe_int) (qe_var 1))))))))⟩
abbrev s_d_u_law_pick : Stmt := top 18
abbrev N_d_u_law_pick : List Str := ["box", "menu"]
theorem sc_d_u_law_pick : FnScope N_d_u_law_pick ["box", "menu"] (defScope s_d_u_law_pick) := ⟨rfl, rfl, rfl, by decide +kernel, rfl, by decide +kernel, by decide +kernel⟩
def m_d_u_law_pick : MS := (mRetS (mOp2 fIx (mVar 1) (mCallB f_d_u_law_take (mCons (mVar 0) (mCons (mOp1 fLen (mVar 1)) mNil)))))
def f_d_u_law_pick : O → List D → Option (D × O) := runB 2 2 m_d_u_law_pick
theorem ok_d_u_law_pick {f : Addr} {fd : FuncData} (F : Def1 K mg "_law_pick" s_d_u_law_pick ["box", "menu"] f fd) (T : Blt mg) (XC : XCls K mg "BadForm" C) (C_d_u_law_take : CalX P w K mg base CX0 1 "_law_take" ["box", "m"] (spB K f_d_u_law_take)) : CalX P w K mg base CX0 2 "_law_pick" ["box", "menu"] (spB K f_d_u_law_pick) :=
  calBX F sc_d_u_law_pick (by decide) fun cdv A outer s H E hr => ⟨_, (qss_one (qs_ret (qe_ix ix_seq os_ix (qe_var 1) (qe_callBDX C_d_u_law_take (hr.mono (by decide)) (qa_cons (qe_var 0) (qa_cons (qe_callB1 call_len cs_len (by rfl) T.len bb_len (qe_var 1)) qa_nil))))))⟩
abbrev s_d_u_law_plain : Stmt := top 20
abbrev N_d_u_law_plain : List Str := ["box", "deep", "sort", "k"]
theorem sc_d_u_law_plain : FnScope N_d_u_law_plain ["box", "deep"] (defScope s_d_u_law_plain) := ⟨rfl, rfl, rfl, by decide +kernel, rfl, by decide +kernel, by decide +kernel⟩
def E_d_u_law_plain_0 (slf : O → List D → Option (D × O)) : M Vw := (mCallB (slf) (mCons (mVar 0) (mCons (mOp2 fSub (mVar 1) (mC (.int 1))) mNil)))
def T_d_u_law_plain_1 (slf : O → List D → Option (D × O)) : M Bool := (mRet true)
def L_d_u_law_plain_2 (slf : O → List D → Option (D × O)) : M Vw := (mLc (mRng1 (mCallB f_d_u_law_take (mCons (mVar 0) (mCons (mC (.int 4)) mNil)))) (asgD 3) (T_d_u_law_plain_1 slf) (E_d_u_law_plain_0 slf) [3])
def m_d_u_law_plain (slf : O → List D → Option (D × O)) : MS := (mSeq (mAsg (mCallB f_d_u_law_take (mCons (mVar 0) (mCons (mC (.int 8)) mNil))) (asgD 2))
  (mSeq (mIfS (mAsB (mOp2 fEq (mVar 2) (mC (.int 0)))) (mRetS (mC .none)) mSkip)
  (mSeq (mIfS (mAsB (mOp2 fEq (mVar 2) (mC (.int 1)))) (mRetS (mOp2 fEq (mCallB f_d_u_law_take (mCons (mVar 0) (mCons (mC (.int 2)) mNil))) (mC (.int 1)))) mSkip)
  (mSeq (mIfS (mAsB (mOp2 fLt (mVar 2) (mC (.int 4)))) (mRetS (mCallB f_d_u_law_pick (mCons (mVar 0) (mCons (mLst (mCons (mC (.int 0)) (mCons (mC (.int 1)) (mCons (mOp1 fNeg (mC (.int 1))) (mCons (mC (.int 7)) (mCons (mC (.int 10)) (mCons (mOp1 fNeg (mC (.int 10))) (mCons (mC (.int 99)) (mCons (mC (.int 100)) (mCons (mC (.int 999999999999999999)) (mCons (mOp1 fNeg (mOp2 fPow (mC (.int 10)) (mC (.int 30)))) (mCons (mC (.int 123456789)) mNil)))))))))))) mNil)))) mSkip)
  (mSeq (mIfS (mAsB (mOp2 fEq (mVar 2) (mC (.int 4)))) (mRetS (mCallB f_d_u_law_pick (mCons (mVar 0) (mCons (mLst (mCons (mC (.str "")) (mCons (mC (.str "a")) (mCons (mC (.str "()")) (mCons (mC (.str "i1;")) (mCons (mC (.str "a b")) (mCons (mC (.str "s1:a")) (mCons (mC (.str "0")) (mCons (mC (.str "'")) (mCons (mC (.str "
")) (mCons (mOp2 fTimes (mC (.str "~")) (mC (.int 11))) (mCons (mC (.str "SELECT 1")) mNil)))))))))))) mNil)))) mSkip)
  (mSeq (mIfS (mAsB (mOp2 fEq (mVar 1) (mC (.int 0)))) (mRetS (mTup mNil)) mSkip)
  (mRetS (mOp1 fTupleOf (L_d_u_law_plain_2 slf)))))))))
def f_d_u_law_plain : Nat → O → List D → Option (D × O)
  | 0 => fun _ _ => none
  | n + 1 => runB 2 4 (m_d_u_law_plain (f_d_u_law_plain n))
theorem ok_d_u_law_plain {f : Addr} {fd : FuncData} (F : Def1 K mg "_law_plain" s_d_u_law_plain ["box", "deep"] f fd) (T : Blt mg) (XC : XCls K mg "BadForm" C) (C_d_u_law_take : CalX P w K mg base CX0 1 "_law_take" ["box", "m"] (spB K f_d_u_law_take)) (C_d_u_law_pick : CalX P w K mg base CX0 2 "_law_pick" ["box", "menu"] (spB K f_d_u_law_pick)) : ∀ n : Nat, CalX P w K mg base CX0 (2 + n) "_law_plain" ["box", "deep"] (spB K (f_d_u_law_plain n))
  | 0 => calB0 F
  | n + 1 => by
    have C_d_u_law_plain := ok_d_u_law_plain F T XC C_d_u_law_take C_d_u_law_pick n
    exact calBX (k := 2 + n) F sc_d_u_law_plain (by decide) fun cdv A outer s H E hr => ⟨_, (qss_cons (qs_set 2 sc_d_u_law_plain.nd (qe_callBDX C_d_u_law_take (hr.mono (by omega)) (qa_cons (qe_var 0) (qa_cons qe_int qa_nil))))
  (qss_cons (qs_if (qt_cmp (op_eqD (v64 hr)) os_eq (qe_var 2) qe_int) (qss_one (qs_ret qe_non)) qss_nil)
  (qss_cons (qs_if (qt_cmp (op_eqD (v64 hr)) os_eq (qe_var 2) qe_int) (qss_one (qs_ret (qe_cmp (op_eqD (v64 hr)) os_eq (qe_callBDX C_d_u_law_take (hr.mono (by omega)) (qa_cons (qe_var 0) (qa_cons qe_int qa_nil))) qe_int))) qss_nil)
  (qss_cons (qs_if (qt_cmp op_lt os_lt (qe_var 2) qe_int) (qss_one (qs_ret (qe_callBDX C_d_u_law_pick (hr.mono (by omega)) (qa_cons (qe_var 0) (qa_cons (qe_lst (qa_cons qe_int (qa_cons qe_int (qa_cons (qe_un un_neg us_neg qe_int) (qa_cons qe_int (qa_cons qe_int (qa_cons (qe_un un_neg us_neg qe_int) (qa_cons qe_int (qa_cons qe_int (qa_cons qe_int (qa_cons (qe_un un_neg us_neg (qe_op op_pow os_pow qe_int qe_int)) (qa_cons qe_int qa_nil)))))))))))) qa_nil))))) qss_nil)
  (qss_cons (qs_if (qt_cmp (op_eqD (v64 hr)) os_eq (qe_var 2) qe_int) (qss_one (qs_ret (qe_callBDX C_d_u_law_pick (hr.mono (by omega)) (qa_cons (qe_var 0) (qa_cons (qe_lst (qa_cons qe_str (qa_cons qe_str (qa_cons qe_str (qa_cons qe_str (qa_cons qe_str (qa_cons qe_str (qa_cons qe_str (qa_cons qe_str (qa_cons qe_str (qa_cons (qe_op op_times os_times qe_str qe_int) (qa_cons qe_str qa_nil)))))))))))) qa_nil))))) qss_nil)
  (qss_cons (qs_if (qt_cmp (op_eqD (v64 hr)) os_eq (qe_var 1) qe_int) (qss_one (qs_ret (qe_tup qa_nil))) qss_nil)
  (qss_one (qs_ret (qe_callT1 call_tuple_of cs_tuple (by rfl) T.tuple bb_tuple (qe_lc (own := [("k", 3)]) rfl sc_d_u_law_plain.nd (qi_range1 (by rfl) T.range (qe_callBDX C_d_u_law_take (hr.mono (by omega)) (qa_cons (qe_var 0) (qa_cons qe_int qa_nil)))) (show BlkOk N_d_u_law_plain (defScope s_d_u_law_plain) _ _ from blkOk_by (by decide +kernel)) (fun _ _ _ _ _ => (qg_name 3 sc_d_u_law_plain.nd)) (fun _ _ _ _ _ => qts_nil) (fun _ _ _ _ _ => (qe_callBDXk (K := K) rfl C_d_u_law_plain (hr.mono (by omega)) (qa_cons (qe_var 0) (qa_cons (qe_op op_sub os_sub (qe_var 1) qe_int) qa_nil))))))))))))))⟩
abbrev s_d_u_law_octets : Stmt := top 19
abbrev N_d_u_law_octets : List Str := ["value", "sign", "told", "part"]
theorem sc_d_u_law_octets : FnScope N_d_u_law_octets ["value"] (defScope s_d_u_law_octets) := ⟨rfl, rfl, rfl, by decide +kernel, rfl, by decide +kernel, by decide +kernel⟩
def B_d_u_law_octets_0 (slf : List D → Option D) : MS := (mAsg (mOp2 fPlus (mVar 2) (mCall (slf) (mCons (mVar 3) mNil))) (asgD 2))
def L_d_u_law_octets_1 (slf : List D → Option D) : MS := (mFor (mSeqT (mVar 0)) (asgD 3) (B_d_u_law_octets_0 slf))
def E_d_u_law_octets_2 (slf : List D → Option D) : M Vw := (mOp1 fOrd (mVar 1))
def T_d_u_law_octets_3 (slf : List D → Option D) : M Bool := (mRet true)
def L_d_u_law_octets_4 (slf : List D → Option D) : M Vw := (mLc (mSeqS (mOp2 fPlus (mOp2 fPlus (mOp1 fStrW (mOp1 fLen (mVar 0))) (mC (.str ":"))) (mVar 0))) (asgD 1) (T_d_u_law_octets_3 slf) (E_d_u_law_octets_2 slf) [1])
def E_d_u_law_octets_5 (slf : List D → Option D) : M Vw := (mOp1 fOrd (mVar 1))
def T_d_u_law_octets_6 (slf : List D → Option D) : M Bool := (mRet true)
def L_d_u_law_octets_7 (slf : List D → Option D) : M Vw := (mLc (mSeqS (mOp1 fStrW (mVar 0))) (asgD 1) (T_d_u_law_octets_6 slf) (E_d_u_law_octets_5 slf) [1])
def m_d_u_law_octets (slf : List D → Option D) : MS := (mSeq (mIfS (mIsN (mVar 0)) (mRetS (mLst (mCons (mC (.int 110)) mNil))) mSkip)
  (mSeq (mIfS (mTru (mOp1 (fIsi isBool) (mVar 0))) (mRetS (mLst (mCons (mIf (mTru (mVar 0)) (mC (.int 116)) (mC (.int 102))) mNil))) mSkip)
  (mSeq (mIfS (mTru (mOp1 (fIsi isInt) (mVar 0))) (mRetS (mOp2 fPlus (mOp2 fPlus (mLst (mCons (mC (.int 105)) mNil)) (L_d_u_law_octets_7 slf)) (mLst (mCons (mC (.int 59)) mNil)))) mSkip)
  (mSeq (mIfS (mTru (mOp1 (fIsi isStr) (mVar 0))) (mRetS (mOp2 fPlus (mLst (mCons (mC (.int 115)) mNil)) (L_d_u_law_octets_4 slf))) mSkip)
  (mSeq (mAsg (mLst (mCons (mC (.int 40)) mNil)) (asgD 2))
  (mSeq (L_d_u_law_octets_1 slf)
  (mRetS (mOp2 fPlus (mVar 2) (mLst (mCons (mC (.int 41)) mNil))))))))))
def f_d_u_law_octets : Nat → List D → Option D
  | 0 => fun _ => none
  | n + 1 => runP 1 4 (m_d_u_law_octets (f_d_u_law_octets n))
theorem ok_d_u_law_octets {f : Addr} {fd : FuncData} (F : Def1 K mg "_law_octets" s_d_u_law_octets ["value"] f fd) (T : Blt mg) (XC : XCls K mg "BadForm" C)  : ∀ n : Nat, CalX P w K mg base CX0 (0 + n) "_law_octets" ["value"] (spP K (f_d_u_law_octets n))
  | 0 => calP0 F
  | n + 1 => by
    have C_d_u_law_octets := ok_d_u_law_octets F T XC  n
    exact calPX (k := 0 + n) F sc_d_u_law_octets (by decide) fun cdv A outer s H E hr => ⟨_, (qss_cons (qs_if (qt_isN (qe_var 0)) (qss_one (qs_ret (qe_lst (qa_cons qe_int qa_nil)))) qss_nil)
  (qss_cons (qs_if (qt_truth (qe_isi isi_bool (by rfl) T.isinstance (by rfl) T.bool bb_bool (qe_var 0))) (qss_one (qs_ret (qe_lst (qa_cons (qe_if (qt_truth (qe_var 0)) qe_int qe_int) qa_nil)))) qss_nil)
  (qss_cons (qs_if (qt_truth (qe_isi isi_int (by rfl) T.isinstance (by rfl) T.int bb_int (qe_var 0))) (qss_one (qs_ret (qe_op op_plus os_plus (qe_op op_plus os_plus (qe_lst (qa_cons qe_int qa_nil)) (qe_lc (own := [("sign", 1)]) rfl sc_d_u_law_octets.nd (qi_str (qe_callT1 call_str_int cs_strW (by rfl) T.str bb_str (qe_var 0))) (show BlkOk N_d_u_law_octets (defScope s_d_u_law_octets) _ _ from blkOk_by (by decide +kernel)) (fun _ _ _ _ _ => (qg_name 1 sc_d_u_law_octets.nd)) (fun _ _ _ _ _ => qts_nil) (fun _ _ _ _ _ => (qe_callB1 call_ord cs_ord (by rfl) T.ord bb_ord (qe_var 1))))) (qe_lst (qa_cons qe_int qa_nil))))) qss_nil)
  (qss_cons (qs_if (qt_truth (qe_isi isi_str (by rfl) T.isinstance (by rfl) T.str bb_str (qe_var 0))) (qss_one (qs_ret (qe_op op_plus os_plus (qe_lst (qa_cons qe_int qa_nil)) (qe_lc (own := [("sign", 1)]) rfl sc_d_u_law_octets.nd (qi_str (qe_op op_plus os_plus (qe_op op_plus os_plus (qe_callT1 call_str_int cs_strW (by rfl) T.str bb_str (qe_callB1 call_len cs_len (by rfl) T.len bb_len (qe_var 0))) qe_str) (qe_var 0))) (show BlkOk N_d_u_law_octets (defScope s_d_u_law_octets) _ _ from blkOk_by (by decide +kernel)) (fun _ _ _ _ _ => (qg_name 1 sc_d_u_law_octets.nd)) (fun _ _ _ _ _ => qts_nil) (fun _ _ _ _ _ => (qe_callB1 call_ord cs_ord (by rfl) T.ord bb_ord (qe_var 1))))))) qss_nil)
  (qss_cons (qs_set 2 sc_d_u_law_octets.nd (qe_lst (qa_cons qe_int qa_nil)))
  (qss_cons (qs_for PassesOwn.never rfl (qi_tup (qe_var 0)) (qg_name 3 sc_d_u_law_octets.nd) (qss_one (qs_set 2 sc_d_u_law_octets.nd (qe_op op_plus os_plus (qe_var 2) (qe_callDX C_d_u_law_octets (hr.mono (by omega)) (qa_cons (qe_var 3) qa_nil))))))
  (qss_one (qs_ret (qe_op op_plus os_plus (qe_var 2) (qe_lst (qa_cons qe_int qa_nil)))))))))))⟩
abbrev s_d_u_law_number : Stmt := top 21
abbrev N_d_u_law_number : List Str := ["octets", "at", "end", "since", "told", "octet"]
theorem sc_d_u_law_number : FnScope N_d_u_law_number ["octets", "at", "end"] (defScope s_d_u_law_number) := ⟨rfl, rfl, rfl, by decide +kernel, rfl, by decide +kernel, by decide +kernel⟩
def B_d_u_law_number_0 : MS := (mAsg (mOp2 fSub (mOp2 fPlus (mOp2 fMul (mVar 4) (mC (.int 10))) (mVar 5)) (mC (.int 48))) (asgD 4))
def L_d_u_law_number_1 : MS := (mFor (mSeqL (mCut (mVar 0) (mPart (mVar 3)) (mPart (mVar 1)))) (asgD 5) B_d_u_law_number_0)
def m_d_u_law_number : MS := (mSeq (mAsg (mVar 1) (asgD 3))
  (mSeq (loopW (mAnd (mAsB (mOp2 fLt (mVar 1) (mOp1 fLen (mVar 0)))) (mChain fLe fLe (mC (.int 48)) (mOp2 fIx (mVar 0) (mVar 1)) (mC (.int 57)))) (mAsg (mOp2 fPlus (mVar 1) (mC (.int 1))) (asgD 1)) 100000)
  (mSeq (mIfS (mOr (mAsB (mOp2 fEq (mVar 1) (mVar 3))) (mOr (mAsB (mOp2 fGe (mVar 1) (mOp1 fLen (mVar 0)))) (mOr (mAsB (mOp2 fNe (mOp2 fIx (mVar 0) (mVar 1)) (mVar 2))) (mAnd (mAsB (mOp2 fEq (mOp2 fIx (mVar 0) (mVar 3)) (mC (.int 48)))) (mAsB (mOp2 fGt (mVar 1) (mOp2 fPlus (mVar 3) (mC (.int 1))))))))) (mRetS (mC .none)) mSkip)
  (mSeq (mAsg (mC (.int 0)) (asgD 4))
  (mSeq L_d_u_law_number_1
  (mRetS (mTup (mCons (mVar 4) (mCons (mOp2 fPlus (mVar 1) (mC (.int 1))) mNil)))))))))
def f_d_u_law_number : List D → Option D := runP 3 6 m_d_u_law_number
theorem ok_d_u_law_number {f : Addr} {fd : FuncData} (F : Def1 K mg "_law_number" s_d_u_law_number ["octets", "at", "end"] f fd) (T : Blt mg) (XC : XCls K mg "BadForm" C)  : CalX P w K mg base CX0 1 "_law_number" ["octets", "at", "end"] (spP K f_d_u_law_number) :=
  calPX F sc_d_u_law_number (by decide) fun cdv A outer s H E hr => ⟨_, (qss_cons (qs_set 3 sc_d_u_law_number.nd (qe_var 1))
  (qss_cons (qs_while 100000 PassesOwn.never (qw_and (qt_cmp op_lt os_lt (qe_var 1) (qe_callB1 call_len cs_len (by rfl) T.len bb_len (qe_var 0))) (qw_and1 (qt_chain op_le os_le op_le os_le qe_int (qe_ix ix_seq os_ix (qe_var 0) (qe_var 1)) qe_int))).qt (qss_one (qs_set 1 sc_d_u_law_number.nd (qe_op op_plus os_plus (qe_var 1) qe_int))))
  (qss_cons (qs_if (qw_or (qt_cmp (op_eqD (v64 hr)) os_eq (qe_var 1) (qe_var 3)) (qw_or (qt_cmp op_ge os_ge (qe_var 1) (qe_callB1 call_len cs_len (by rfl) T.len bb_len (qe_var 0))) (qw_or (qt_cmp (op_neD (v64 hr)) os_ne (qe_ix ix_seq os_ix (qe_var 0) (qe_var 1)) (qe_var 2)) (qw_or1 (qw_and (qt_cmp (op_eqD (v64 hr)) os_eq (qe_ix ix_seq os_ix (qe_var 0) (qe_var 3)) qe_int) (qw_and1 (qt_cmp op_gt os_gt (qe_var 1) (qe_op op_plus os_plus (qe_var 3) qe_int)))).qt)))).qt (qss_one (qs_ret qe_non)) qss_nil)
  (qss_cons (qs_set 4 sc_d_u_law_number.nd qe_int)
  (qss_cons (qs_for PassesOwn.never rfl (qi_list (qe_slice (qe_var 0) (qo_some (qe_var 3)) (qo_some (qe_var 1)))) (qg_name 5 sc_d_u_law_number.nd) (qss_one (qs_set 4 sc_d_u_law_number.nd (qe_op op_sub os_sub (qe_op op_plus os_plus (qe_op op_mul os_mul (qe_var 4) qe_int) (qe_var 5)) qe_int))))
  (qss_one (qs_ret (qe_tup (qa_cons (qe_var 4) (qa_cons (qe_op op_plus os_plus (qe_var 1) qe_int) qa_nil))))))))))⟩
abbrev s_d_u_law_sign : Stmt := top 22
abbrev N_d_u_law_sign : List Str := ["code", "low", "high"]
theorem sc_d_u_law_sign : FnScope N_d_u_law_sign ["code"] (defScope s_d_u_law_sign) := ⟨rfl, rfl, rfl, by decide +kernel, rfl, by decide +kernel, by decide +kernel⟩
def m_d_u_law_sign : MS := (mSeq (mAsg (mC (.str " !\"#$")) (asgD 1))
  (mSeq (mAsg (mC (.str "&'()*+,-./0123456789:;<=>?@ABCDEFGHIJKLMNOPQRSTUVWXYZ[\\]^_`abcdefghijklmnopqrstuvwxyz{|}~")) (asgD 2))
  (mSeq (mIfS (mChain fLe fLe (mC (.int 32)) (mVar 0) (mC (.int 36))) (mRetS (mOp2 fIx (mVar 1) (mOp2 fSub (mVar 0) (mC (.int 32))))) mSkip)
  (mSeq (mIfS (mChain fLe fLe (mC (.int 38)) (mVar 0) (mC (.int 126))) (mRetS (mOp2 fIx (mVar 2) (mOp2 fSub (mVar 0) (mC (.int 38))))) mSkip)
  (mRetS (mDisp [(.inl 10, .str "
"), (.inl 9, .str "	")] (some (.str "")) (mVar 0)))))))
def f_d_u_law_sign : List D → Option D := runP 1 3 m_d_u_law_sign
theorem ok_d_u_law_sign {f : Addr} {fd : FuncData} (F : Def1 K mg "_law_sign" s_d_u_law_sign ["code"] f fd) (T : Blt mg) (XC : XCls K mg "BadForm" C)  : CalX P w K mg base CX0 1 "_law_sign" ["code"] (spP K f_d_u_law_sign) :=
  calPX F sc_d_u_law_sign (by decide) fun cdv A outer s H E hr => ⟨_, (qss_cons (qs_set 1 sc_d_u_law_sign.nd qe_str)
  (qss_cons (qs_set 2 sc_d_u_law_sign.nd qe_str)
  (qss_cons (qs_if (qt_chain op_le os_le op_le os_le qe_int (qe_var 0) qe_int) (qss_one (qs_ret (qe_ix ix_seq os_ix (qe_var 1) (qe_op op_sub os_sub (qe_var 0) qe_int)))) qss_nil)
  (qss_cons (qs_if (qt_chain op_le os_le op_le os_le qe_int (qe_var 0) qe_int) (qss_one (qs_ret (qe_ix ix_seq os_ix (qe_var 2) (qe_op op_sub os_sub (qe_var 0) qe_int)))) qss_nil)
  (qss_one (qs_ret (qe_dispGet (v1 hr) (qps_cons (ky := .inl 10) qc_int qc_str (qps_cons (ky := .inl 9) qc_int qc_str qps_nil)) (qe_var 0) qc_str)))))))⟩
abbrev s_d_u_law_value_at : Stmt := top 23
abbrev N_d_u_law_value_at : List Str := ["octets", "at", "deep", "minus", "found", "signs", "k", "parts"]
theorem sc_d_u_law_value_at : FnScope N_d_u_law_value_at ["octets", "at", "deep"] (defScope s_d_u_law_value_at) := ⟨rfl, rfl, rfl, by decide +kernel, rfl, by decide +kernel, by decide +kernel⟩
def E_d_u_law_value_at_0 (slf : List D → Option D) : M Vw := (mCall f_d_u_law_sign (mCons (mOp2 fIx (mVar 0) (mOp2 fPlus (mOp2 fIx (mVar 4) (mC (.int 1))) (mVar 6))) mNil))
def T_d_u_law_value_at_1 (slf : List D → Option D) : M Bool := (mRet true)
def L_d_u_law_value_at_2 (slf : List D → Option D) : M Vw := (mLc (mRng1 (mOp2 fIx (mVar 4) (mC (.int 0)))) (asgD 6) (T_d_u_law_value_at_1 slf) (E_d_u_law_value_at_0 slf) [6])
def m_d_u_law_value_at (slf : List D → Option D) : MS := (mSeq (mIfS (mOr (mAsB (mOp2 fGe (mVar 1) (mOp1 fLen (mVar 0)))) (mAsB (mOp2 fGt (mVar 2) (mC (.int 400))))) (mRetS (mC .none)) mSkip)
  (mSeq (mIfS (mAsB (mOp2 fInS (mOp2 fIx (mVar 0) (mVar 1)) (mTup (mCons (mC (.int 110)) (mCons (mC (.int 116)) (mCons (mC (.int 102)) mNil)))))) (mRetS (mTup (mCons (mLst (mCons (mDisp [(.inl 110, .none), (.inl 116, .bool true), (.inl 102, .bool false)] none (mOp2 fIx (mVar 0) (mVar 1))) mNil)) (mCons (mOp2 fPlus (mVar 1) (mC (.int 1))) mNil)))) mSkip)
  (mSeq (mIfS (mAsB (mOp2 fEq (mOp2 fIx (mVar 0) (mVar 1)) (mC (.int 105)))) (mSeq (mAsg (mAndV (mOp2 fLt (mOp2 fPlus (mVar 1) (mC (.int 1))) (mOp1 fLen (mVar 0))) (mOp2 fEq (mOp2 fIx (mVar 0) (mOp2 fPlus (mVar 1) (mC (.int 1)))) (mC (.int 45)))) (asgD 3))
  (mSeq (mAsg (mCall f_d_u_law_number (mCons (mVar 0) (mCons (mOp2 fPlus (mVar 1) (mIf (mTru (mVar 3)) (mC (.int 2)) (mC (.int 1)))) (mCons (mC (.int 59)) mNil)))) (asgD 4))
  (mSeq (mIfS (mOr (mIsN (mVar 4)) (mAnd (mTru (mVar 3)) (mAsB (mOp2 fEq (mOp2 fIx (mVar 4) (mC (.int 0))) (mC (.int 0)))))) (mRetS (mC .none)) mSkip)
  (mRetS (mTup (mCons (mLst (mCons (mIf (mTru (mVar 3)) (mOp1 fNeg (mOp2 fIx (mVar 4) (mC (.int 0)))) (mOp2 fIx (mVar 4) (mC (.int 0)))) mNil)) (mCons (mOp2 fIx (mVar 4) (mC (.int 1))) mNil))))))) mSkip)
  (mSeq (mIfS (mAsB (mOp2 fEq (mOp2 fIx (mVar 0) (mVar 1)) (mC (.int 115)))) (mSeq (mAsg (mCall f_d_u_law_number (mCons (mVar 0) (mCons (mOp2 fPlus (mVar 1) (mC (.int 1))) (mCons (mC (.int 58)) mNil)))) (asgD 4))
  (mSeq (mIfS (mOr (mIsN (mVar 4)) (mAsB (mOp2 fGt (mOp2 fPlus (mOp2 fIx (mVar 4) (mC (.int 1))) (mOp2 fIx (mVar 4) (mC (.int 0)))) (mOp1 fLen (mVar 0))))) (mRetS (mC .none)) mSkip)
  (mSeq (mAsg (L_d_u_law_value_at_2 slf) (asgD 5))
  (mRetS (mIf (mAsB (mOp2 fNotInS (mC (.str "")) (mVar 5))) (mTup (mCons (mLst (mCons (mOp1 (fJoin "") (mVar 5)) mNil)) (mCons (mOp2 fPlus (mOp2 fIx (mVar 4) (mC (.int 1))) (mOp2 fIx (mVar 4) (mC (.int 0)))) mNil))) (mC .none)))))) mSkip)
  (mSeq (mIfS (mAsB (mOp2 fNe (mOp2 fIx (mVar 0) (mVar 1)) (mC (.int 40)))) (mRetS (mC .none)) mSkip)
  (mSeq (mParL 7 1 mNil (mOp2 fPlus (mVar 1) (mC (.int 1))))
  (mSeq (loopW (mAnd (mAsB (mOp2 fLt (mVar 1) (mOp1 fLen (mVar 0)))) (mAsB (mOp2 fNe (mOp2 fIx (mVar 0) (mVar 1)) (mC (.int 41))))) (mSeq (mAsg (mCall (slf) (mCons (mVar 0) (mCons (mVar 1) (mCons (mOp2 fPlus (mVar 2) (mC (.int 1))) mNil)))) (asgD 4))
  (mSeq (mIfS (mIsN (mVar 4)) (mRetS (mC .none)) mSkip)
  (mSeq (mAppend 7 (mOp2 fIx (mOp2 fIx (mVar 4) (mC (.int 0))) (mC (.int 0))))
  (mAsg (mOp2 fIx (mVar 4) (mC (.int 1))) (asgD 1))))) 100000)
  (mRetS (mIf (mAsB (mOp2 fLt (mVar 1) (mOp1 fLen (mVar 0)))) (mTup (mCons (mLst (mCons (mOp1 fTupleOf (mVar 7)) mNil)) (mCons (mOp2 fPlus (mVar 1) (mC (.int 1))) mNil))) (mC .none))))))))))
def f_d_u_law_value_at : Nat → List D → Option D
  | 0 => fun _ => none
  | n + 1 => runP 3 8 (m_d_u_law_value_at (f_d_u_law_value_at n))
theorem ok_d_u_law_value_at {f : Addr} {fd : FuncData} (F : Def1 K mg "_law_value_at" s_d_u_law_value_at ["octets", "at", "deep"] f fd) (T : Blt mg) (XC : XCls K mg "BadForm" C) (C_d_u_law_number : CalX P w K mg base CX0 1 "_law_number" ["octets", "at", "end"] (spP K f_d_u_law_number)) (C_d_u_law_sign : CalX P w K mg base CX0 1 "_law_sign" ["code"] (spP K f_d_u_law_sign)) : ∀ n : Nat, CalX P w K mg base CX0 (1 + n) "_law_value_at" ["octets", "at", "deep"] (spP K (f_d_u_law_value_at n))
  | 0 => calP0 F
  | n + 1 => by
    have C_d_u_law_value_at := ok_d_u_law_value_at F T XC C_d_u_law_number C_d_u_law_sign n
    exact calPX (k := 1 + n) F sc_d_u_law_value_at (by decide) fun cdv A outer s H E hr => ⟨_, (qss_cons (qs_if (qw_or (qt_cmp op_ge os_ge (qe_var 1) (qe_callB1 call_len cs_len (by rfl) T.len bb_len (qe_var 0))) (qw_or1 (qt_cmp op_gt os_gt (qe_var 2) qe_int))).qt (qss_one (qs_ret qe_non)) qss_nil)
  (qss_cons (qs_if (qt_cmp (op_inS' (v65 hr)) os_inS (qe_ix ix_seq os_ix (qe_var 0) (qe_var 1)) (qe_tup (qa_cons qe_int (qa_cons qe_int (qa_cons qe_int qa_nil))))) (qss_one (qs_ret (qe_tup (qa_cons (qe_lst (qa_cons (qe_dispIx (v1 hr) (qps_cons (ky := .inl 110) qc_int qc_non (qps_cons (ky := .inl 116) qc_int qc_bl (qps_cons (ky := .inl 102) qc_int qc_bl qps_nil))) (qe_ix ix_seq os_ix (qe_var 0) (qe_var 1))) qa_nil)) (qa_cons (qe_op op_plus os_plus (qe_var 1) qe_int) qa_nil))))) qss_nil)
  (qss_cons (qs_if (qt_cmp (op_eqD (v64 hr)) os_eq (qe_ix ix_seq os_ix (qe_var 0) (qe_var 1)) qe_int) (qss_cons (qs_set 3 sc_d_u_law_value_at.nd (qe_and (qe_cmp op_lt os_lt (qe_op op_plus os_plus (qe_var 1) qe_int) (qe_callB1 call_len cs_len (by rfl) T.len bb_len (qe_var 0))) (qe_one (qe_cmp (op_eqD (v64 hr)) os_eq (qe_ix ix_seq os_ix (qe_var 0) (qe_op op_plus os_plus (qe_var 1) qe_int)) qe_int))))
  (qss_cons (qs_set 4 sc_d_u_law_value_at.nd (qe_callDX C_d_u_law_number (hr.mono (by omega)) (qa_cons (qe_var 0) (qa_cons (qe_op op_plus os_plus (qe_var 1) (qe_if (qt_truth (qe_var 3)) qe_int qe_int)) (qa_cons qe_int qa_nil)))))
  (qss_cons (qs_if (qw_or (qt_isN (qe_var 4)) (qw_or1 (qw_and (qt_truth (qe_var 3)) (qw_and1 (qt_cmp (op_eqD (v64 hr)) os_eq (qe_ix ix_seq os_ix (qe_var 4) qe_int) qe_int))).qt)).qt (qss_one (qs_ret qe_non)) qss_nil)
  (qss_one (qs_ret (qe_tup (qa_cons (qe_lst (qa_cons (qe_if (qt_truth (qe_var 3)) (qe_un un_neg us_neg (qe_ix ix_seq os_ix (qe_var 4) qe_int)) (qe_ix ix_seq os_ix (qe_var 4) qe_int)) qa_nil)) (qa_cons (qe_ix ix_seq os_ix (qe_var 4) qe_int) qa_nil)))))))) qss_nil)
  (qss_cons (qs_if (qt_cmp (op_eqD (v64 hr)) os_eq (qe_ix ix_seq os_ix (qe_var 0) (qe_var 1)) qe_int) (qss_cons (qs_set 4 sc_d_u_law_value_at.nd (qe_callDX C_d_u_law_number (hr.mono (by omega)) (qa_cons (qe_var 0) (qa_cons (qe_op op_plus os_plus (qe_var 1) qe_int) (qa_cons qe_int qa_nil)))))
  (qss_cons (qs_if (qw_or (qt_isN (qe_var 4)) (qw_or1 (qt_cmp op_gt os_gt (qe_op op_plus os_plus (qe_ix ix_seq os_ix (qe_var 4) qe_int) (qe_ix ix_seq os_ix (qe_var 4) qe_int)) (qe_callB1 call_len cs_len (by rfl) T.len bb_len (qe_var 0))))).qt (qss_one (qs_ret qe_non)) qss_nil)
  (qss_cons (qs_setLc 5 (own := [("k", 6)]) rfl sc_d_u_law_value_at.nd (qi_range1 (by rfl) T.range (qe_ix ix_seq os_ix (qe_var 4) qe_int)) (show BlkOk N_d_u_law_value_at (defScope s_d_u_law_value_at) _ _ from blkOk_by (by decide +kernel)) (fun _ _ _ _ _ => (qg_name 6 sc_d_u_law_value_at.nd)) (fun _ _ _ _ _ => qts_nil) (fun _ _ _ _ _ => (qe_callDXk (K := K) rfl C_d_u_law_sign (hr.mono (by omega)) (qa_cons (qe_ix (k_ix (K := K) rfl) os_ix (qe_var 0) (qe_op (k_plus (K := K) rfl) os_plus (qe_ix (k_ix (K := K) rfl) os_ix (qe_var 4) qe_int) (qe_var 6))) qa_nil))))
  (qss_one (qs_ret (qe_if (qt_cmp (op_notInS' (v65 hr)) os_notInS qe_str (qe_var 5)) (qe_tup (qa_cons (qe_lst (qa_cons (qe_join (qe_var 5)) qa_nil)) (qa_cons (qe_op op_plus os_plus (qe_ix ix_seq os_ix (qe_var 4) qe_int) (qe_ix ix_seq os_ix (qe_var 4) qe_int)) qa_nil))) qe_non)))))) qss_nil)
  (qss_cons (qs_if (qt_cmp (op_neD (v64 hr)) os_ne (qe_ix ix_seq os_ix (qe_var 0) (qe_var 1)) qe_int) (qss_one (qs_ret qe_non)) qss_nil)
  (qss_cons (qs_parL 7 1 rfl sc_d_u_law_value_at.nd qa_nil (qe_op op_plus os_plus (qe_var 1) qe_int))
  (qss_cons (qs_while 100000 PassesOwn.never (qw_and (qt_cmp op_lt os_lt (qe_var 1) (qe_callB1 call_len cs_len (by rfl) T.len bb_len (qe_var 0))) (qw_and1 (qt_cmp (op_neD (v64 hr)) os_ne (qe_ix ix_seq os_ix (qe_var 0) (qe_var 1)) qe_int))).qt (qss_cons (qs_set 4 sc_d_u_law_value_at.nd (qe_callDX C_d_u_law_value_at (hr.mono (by omega)) (qa_cons (qe_var 0) (qa_cons (qe_var 1) (qa_cons (qe_op op_plus os_plus (qe_var 2) qe_int) qa_nil)))))
  (qss_cons (qs_if (qt_isN (qe_var 4)) (qss_one (qs_ret qe_non)) qss_nil)
  (qss_cons (qs_append 7 (qe_ix ix_seq os_ix (qe_ix ix_seq os_ix (qe_var 4) qe_int) qe_int))
  (qss_one (qs_set 1 sc_d_u_law_value_at.nd (qe_ix ix_seq os_ix (qe_var 4) qe_int)))))))
  (qss_one (qs_ret (qe_if (qt_cmp op_lt os_lt (qe_var 1) (qe_callB1 call_len cs_len (by rfl) T.len bb_len (qe_var 0))) (qe_tup (qa_cons (qe_lst (qa_cons (qe_callT1 call_tuple_of cs_tuple (by rfl) T.tuple bb_tuple (qe_var 7)) qa_nil)) (qa_cons (qe_op op_plus os_plus (qe_var 1) qe_int) qa_nil))) qe_non))))))))))⟩
abbrev s_d_u_law_whole : Stmt := top 24
abbrev N_d_u_law_whole : List Str := ["octets", "found"]
theorem sc_d_u_law_whole : FnScope N_d_u_law_whole ["octets"] (defScope s_d_u_law_whole) := ⟨rfl, rfl, rfl, by decide +kernel, rfl, by decide +kernel, by decide +kernel⟩
def m_d_u_law_whole : MS := (mSeq (mAsg (mCall (f_d_u_law_value_at 420) (mCons (mVar 0) (mCons (mC (.int 0)) (mCons (mC (.int 0)) mNil)))) (asgD 1))
  (mRetS (mIf (mAnd (mNot (mIsN (mVar 1))) (mAsB (mOp2 fEq (mOp2 fIx (mVar 1) (mC (.int 1))) (mOp1 fLen (mVar 0))))) (mOp2 fIx (mVar 1) (mC (.int 0))) (mC .none))))
def f_d_u_law_whole : List D → Option D := runP 1 2 m_d_u_law_whole
theorem ok_d_u_law_whole {f : Addr} {fd : FuncData} (F : Def1 K mg "_law_whole" s_d_u_law_whole ["octets"] f fd) (T : Blt mg) (XC : XCls K mg "BadForm" C) (C_d_u_law_value_at : CalX P w K mg base CX0 421 "_law_value_at" ["octets", "at", "deep"] (spP K (f_d_u_law_value_at 420))) : CalX P w K mg base CX0 422 "_law_whole" ["octets"] (spP K f_d_u_law_whole) :=
  calPX F sc_d_u_law_whole (by decide) fun cdv A outer s H E hr => ⟨_, (qss_cons (qs_set 1 sc_d_u_law_whole.nd (qe_callDX C_d_u_law_value_at (hr.mono (by decide)) (qa_cons (qe_var 0) (qa_cons qe_int (qa_cons qe_int qa_nil)))))
  (qss_one (qs_ret (qe_if (qw_and (qt_notN (qe_var 1)) (qw_and1 (qt_cmp (op_eqD (v64 hr)) os_eq (qe_ix ix_seq os_ix (qe_var 1) qe_int) (qe_callB1 call_len cs_len (by rfl) T.len bb_len (qe_var 0))))).qt (qe_ix ix_seq os_ix (qe_var 1) qe_int) qe_non))))⟩
abbrev s_d_u_law_spoilt : Stmt := top 27
abbrev N_d_u_law_spoilt : List Str := ["box", "octets", "way", "at", "new"]
theorem sc_d_u_law_spoilt : FnScope N_d_u_law_spoilt ["box", "octets"] (defScope s_d_u_law_spoilt) := ⟨rfl, rfl, rfl, by decide +kernel, rfl, by decide +kernel, by decide +kernel⟩
def m_d_u_law_spoilt : MS := (mSeq (mPar 2 3 (mCallB f_d_u_law_take (mCons (mVar 0) (mCons (mC (.int 5)) mNil))) (mCallB f_d_u_law_take (mCons (mVar 0) (mCons (mOp2 fPlus (mOp1 fLen (mVar 1)) (mC (.int 1))) mNil))))
  (mSeq (mAsg (mCallB f_d_u_law_pick (mCons (mVar 0) (mCons (mLst (mCons (mC (.int 48)) (mCons (mC (.int 49)) (mCons (mC (.int 40)) (mCons (mC (.int 41)) (mCons (mC (.int 59)) (mCons (mC (.int 58)) (mCons (mC (.int 45)) (mCons (mC (.int 105)) (mCons (mC (.int 115)) (mCons (mC (.int 110)) (mCons (mC (.int 116)) (mCons (mC (.int 102)) (mCons (mC (.int 97)) (mCons (mC (.int 128)) (mCons (mC (.int 255)) (mCons (mC (.int 32)) mNil))))))))))))))))) mNil))) (asgD 4))
  (mSeq (mIfS (mAsB (mOp2 fEq (mVar 2) (mC (.int 0)))) (mRetS (mOp2 fPlus (mCut (mVar 1) (mRet none) (mPart (mVar 3))) (mCut (mVar 1) (mPart (mOp2 fPlus (mVar 3) (mC (.int 1)))) (mRet none)))) mSkip)
  (mSeq (mIfS (mAsB (mOp2 fEq (mVar 2) (mC (.int 1)))) (mRetS (mOp2 fPlus (mOp2 fPlus (mCut (mVar 1) (mRet none) (mPart (mVar 3))) (mLst (mCons (mVar 4) mNil))) (mCut (mVar 1) (mPart (mVar 3)) (mRet none)))) mSkip)
  (mSeq (mIfS (mAsB (mOp2 fEq (mVar 2) (mC (.int 2)))) (mRetS (mOp2 fPlus (mVar 1) (mCall (f_d_u_law_octets 600) (mCons (mCallB (f_d_u_law_plain 5) (mCons (mVar 0) (mCons (mC (.int 1)) mNil))) mNil)))) mSkip)
  (mSeq (mIfS (mAsB (mOp2 fEq (mVar 2) (mC (.int 3)))) (mRetS (mCut (mVar 1) (mRet none) (mPart (mVar 3)))) mSkip)
  (mRetS (mOp2 fPlus (mOp2 fPlus (mCut (mVar 1) (mRet none) (mPart (mVar 3))) (mLst (mCons (mVar 4) mNil))) (mCut (mVar 1) (mPart (mOp2 fPlus (mVar 3) (mC (.int 1)))) (mRet none))))))))))
def f_d_u_law_spoilt : O → List D → Option (D × O) := runB 2 5 m_d_u_law_spoilt
theorem ok_d_u_law_spoilt {f : Addr} {fd : FuncData} (F : Def1 K mg "_law_spoilt" s_d_u_law_spoilt ["box", "octets"] f fd) (T : Blt mg) (XC : XCls K mg "BadForm" C) (C_d_u_law_pick : CalX P w K mg base CX0 2 "_law_pick" ["box", "menu"] (spB K f_d_u_law_pick)) (C_d_u_law_take : CalX P w K mg base CX0 1 "_law_take" ["box", "m"] (spB K f_d_u_law_take)) (C_d_u_law_octets : CalX P w K mg base CX0 600 "_law_octets" ["value"] (spP K (f_d_u_law_octets 600))) (C_d_u_law_plain : CalX P w K mg base CX0 7 "_law_plain" ["box", "deep"] (spB K (f_d_u_law_plain 5))) : CalX P w K mg base CX0 601 "_law_spoilt" ["box", "octets"] (spB K f_d_u_law_spoilt) :=
  calBX F sc_d_u_law_spoilt (by decide) fun cdv A outer s H E hr => ⟨_, (qss_cons (qs_par 2 3 rfl sc_d_u_law_spoilt.nd (qe_callBDX C_d_u_law_take (hr.mono (by decide)) (qa_cons (qe_var 0) (qa_cons qe_int qa_nil))) (qe_callBDX C_d_u_law_take (hr.mono (by decide)) (qa_cons (qe_var 0) (qa_cons (qe_op op_plus os_plus (qe_callB1 call_len cs_len (by rfl) T.len bb_len (qe_var 1)) qe_int) qa_nil))))
  (qss_cons (qs_set 4 sc_d_u_law_spoilt.nd (qe_callBDX C_d_u_law_pick (hr.mono (by decide)) (qa_cons (qe_var 0) (qa_cons (qe_lst (qa_cons qe_int (qa_cons qe_int (qa_cons qe_int (qa_cons qe_int (qa_cons qe_int (qa_cons qe_int (qa_cons qe_int (qa_cons qe_int (qa_cons qe_int (qa_cons qe_int (qa_cons qe_int (qa_cons qe_int (qa_cons qe_int (qa_cons qe_int (qa_cons qe_int (qa_cons qe_int qa_nil))))))))))))))))) qa_nil))))
  (qss_cons (qs_if (qt_cmp (op_eqD (v64 hr)) os_eq (qe_var 2) qe_int) (qss_one (qs_ret (qe_op op_plus os_plus (qe_slice (qe_var 1) qo_none (qo_some (qe_var 3))) (qe_slice (qe_var 1) (qo_some (qe_op op_plus os_plus (qe_var 3) qe_int)) qo_none)))) qss_nil)
  (qss_cons (qs_if (qt_cmp (op_eqD (v64 hr)) os_eq (qe_var 2) qe_int) (qss_one (qs_ret (qe_op op_plus os_plus (qe_op op_plus os_plus (qe_slice (qe_var 1) qo_none (qo_some (qe_var 3))) (qe_lst (qa_cons (qe_var 4) qa_nil))) (qe_slice (qe_var 1) (qo_some (qe_var 3)) qo_none)))) qss_nil)
  (qss_cons (qs_if (qt_cmp (op_eqD (v64 hr)) os_eq (qe_var 2) qe_int) (qss_one (qs_ret (qe_op op_plus os_plus (qe_var 1) (qe_callDX C_d_u_law_octets (hr.mono (by decide)) (qa_cons (qe_callBDX C_d_u_law_plain (hr.mono (by decide)) (qa_cons (qe_var 0) (qa_cons qe_int qa_nil))) qa_nil))))) qss_nil)
  (qss_cons (qs_if (qt_cmp (op_eqD (v64 hr)) os_eq (qe_var 2) qe_int) (qss_one (qs_ret (qe_slice (qe_var 1) qo_none (qo_some (qe_var 3))))) qss_nil)
  (qss_one (qs_ret (qe_op op_plus os_plus (qe_op op_plus os_plus (qe_slice (qe_var 1) qo_none (qo_some (qe_var 3))) (qe_lst (qa_cons (qe_var 4) qa_nil))) (qe_slice (qe_var 1) (qo_some (qe_op op_plus os_plus (qe_var 3) qe_int)) qo_none))))))))))⟩
abbrev s_d_u_digits : Stmt := top 8
abbrev N_d_u_digits : List Str := ["number", "sign"]
theorem sc_d_u_digits : FnScope N_d_u_digits ["number"] (defScope s_d_u_digits) := ⟨rfl, rfl, rfl, by decide +kernel, rfl, by decide +kernel, by decide +kernel⟩
def E_d_u_digits_0 : M Vw := (mOp1 fOrd (mVar 1))
def T_d_u_digits_1 : M Bool := (mRet true)
def L_d_u_digits_2 : M Vw := (mLc (mSeqS (mOp1 fStrW (mVar 0))) (asgD 1) T_d_u_digits_1 E_d_u_digits_0 [1])
def m_d_u_digits : MS := (mRetS L_d_u_digits_2)
def f_d_u_digits : List D → Option D := runP 1 2 m_d_u_digits
theorem ok_d_u_digits {f : Addr} {fd : FuncData} (F : Def1 K mg "_digits" s_d_u_digits ["number"] f fd) (T : Blt mg) (XC : XCls K mg "BadForm" C)  : CalX P w K mg base CX0 1 "_digits" ["number"] (spP K f_d_u_digits) :=
  calPX F sc_d_u_digits (by decide) fun cdv A outer s H E hr => ⟨_, (qss_one (qs_ret (qe_lc (own := [("sign", 1)]) rfl sc_d_u_digits.nd (qi_str (qe_callT1 call_str_int cs_strW (by rfl) T.str bb_str (qe_var 0))) (show BlkOk N_d_u_digits (defScope s_d_u_digits) _ _ from blkOk_by (by decide +kernel)) (fun _ _ _ _ _ => (qg_name 1 sc_d_u_digits.nd)) (fun _ _ _ _ _ => qts_nil) (fun _ _ _ _ _ => (qe_callB1 call_ord cs_ord (by rfl) T.ord bb_ord (qe_var 1))))))⟩
abbrev s_d_u_sign : Stmt := top 7
abbrev N_d_u_sign : List Str := ["code"]
theorem sc_d_u_sign : FnScope N_d_u_sign ["code"] (defScope s_d_u_sign) := ⟨rfl, rfl, rfl, by decide +kernel, rfl, by decide +kernel, by decide +kernel⟩
def m_d_u_sign : MS := (mSeq (mIfS (mChain fLe fLe (mOp1 fOrd (mC (.str " "))) (mVar 0) (mOp1 fOrd (mC (.str "$")))) (mRetS (mOp2 fIx (mC (.str " !\"#$")) (mOp2 fSub (mVar 0) (mOp1 fOrd (mC (.str " ")))))) mSkip)
  (mSeq (mIfS (mChain fLe fLe (mOp1 fOrd (mC (.str "&"))) (mVar 0) (mOp1 fOrd (mC (.str "~")))) (mRetS (mOp2 fIx (mC (.str "&'()*+,-./0123456789:;<=>?@ABCDEFGHIJKLMNOPQRSTUVWXYZ[\\]^_`abcdefghijklmnopqrstuvwxyz{|}~")) (mOp2 fSub (mVar 0) (mOp1 fOrd (mC (.str "&")))))) mSkip)
  (mSeq (mIfS (mAsB (mOp2 fEq (mVar 0) (mOp1 fOrd (mC (.str "
"))))) (mRetS (mC (.str "
"))) mSkip)
  (mSeq (mIfS (mAsB (mOp2 fEq (mVar 0) (mOp1 fOrd (mC (.str "	"))))) (mRetS (mC (.str "	"))) mSkip)
  (mRetS (mC (.str "")))))))
def f_d_u_sign : List D → Option D := runP 1 1 m_d_u_sign
theorem ok_d_u_sign {f : Addr} {fd : FuncData} (F : Def1 K mg "_sign" s_d_u_sign ["code"] f fd) (T : Blt mg) (XC : XCls K mg "BadForm" C)  : CalX P w K mg base CX0 1 "_sign" ["code"] (spP K f_d_u_sign) :=
  calPX F sc_d_u_sign (by decide) fun cdv A outer s H E hr => ⟨_, (qss_cons (qs_if (qt_chain op_le os_le op_le os_le (qe_callB1 call_ord cs_ord (by rfl) T.ord bb_ord qe_str) (qe_var 0) (qe_callB1 call_ord cs_ord (by rfl) T.ord bb_ord qe_str)) (qss_one (qs_ret (qe_ix ix_seq os_ix (qe_gstr (by rfl) T.g_LOW) (qe_op op_sub os_sub (qe_var 0) (qe_callB1 call_ord cs_ord (by rfl) T.ord bb_ord qe_str))))) qss_nil)
  (qss_cons (qs_if (qt_chain op_le os_le op_le os_le (qe_callB1 call_ord cs_ord (by rfl) T.ord bb_ord qe_str) (qe_var 0) (qe_callB1 call_ord cs_ord (by rfl) T.ord bb_ord qe_str)) (qss_one (qs_ret (qe_ix ix_seq os_ix (qe_gstr (by rfl) T.g_HIGH) (qe_op op_sub os_sub (qe_var 0) (qe_callB1 call_ord cs_ord (by rfl) T.ord bb_ord qe_str))))) qss_nil)
  (qss_cons (qs_if (qt_cmp (op_eqD (v64 hr)) os_eq (qe_var 0) (qe_callB1 call_ord cs_ord (by rfl) T.ord bb_ord qe_str)) (qss_one (qs_ret qe_str)) qss_nil)
  (qss_cons (qs_if (qt_cmp (op_eqD (v64 hr)) os_eq (qe_var 0) (qe_callB1 call_ord cs_ord (by rfl) T.ord bb_ord qe_str)) (qss_one (qs_ret qe_str)) qss_nil)
  (qss_one (qs_ret qe_str))))))⟩
abbrev s_d_u_written : Stmt := top 10
abbrev N_d_u_written : List Str := ["value", "deep", "told", "sign", "code", "out", "part"]
theorem sc_d_u_written : FnScope N_d_u_written ["value", "deep"] (defScope s_d_u_written) := ⟨rfl, rfl, rfl, by decide +kernel, rfl, by decide +kernel, by decide +kernel⟩
def B_d_u_written_0 (slf : List D → Option (Rs D)) : MS := (mExtend 5 (mCallR (slf) (mCons (mVar 6) (mCons (mOp2 fPlus (mVar 1) (mC (.int 1))) mNil))))
def L_d_u_written_1 (slf : List D → Option (Rs D)) : MS := (mFor (mSeqT (mVar 0)) (asgD 6) (B_d_u_written_0 slf))
def E_d_u_written_2 (slf : List D → Option (Rs D)) : M Vw := (mCall f_d_u_sign (mCons (mVar 4) mNil))
def T_d_u_written_3 (slf : List D → Option (Rs D)) : M Bool := (mRet true)
def L_d_u_written_4 (slf : List D → Option (Rs D)) : M Vw := (mLc (mSeqL (mVar 2)) (asgD 4) (T_d_u_written_3 slf) (E_d_u_written_2 slf) [4])
def E_d_u_written_5 (slf : List D → Option (Rs D)) : M Vw := (mOp1 fOrd (mVar 3))
def T_d_u_written_6 (slf : List D → Option (Rs D)) : M Bool := (mRet true)
def L_d_u_written_7 (slf : List D → Option (Rs D)) : M Vw := (mLc (mSeqS (mVar 0)) (asgD 3) (T_d_u_written_6 slf) (E_d_u_written_5 slf) [3])
def m_d_u_written (slf : List D → Option (Rs D)) : MS := (mSeq (mIfS (mAsB (mOp2 fGt (mVar 1) (mC (.int 400)))) mRaise mSkip)
  (mSeq (mIfS (mIsN (mVar 0)) (mRetS (mLst (mCons (mOp1 fOrd (mC (.str "n"))) mNil))) mSkip)
  (mSeq (mIfS (mTru (mOp1 (fIsi isBool) (mVar 0))) (mRetS (mLst (mCons (mIf (mTru (mVar 0)) (mOp1 fOrd (mC (.str "t"))) (mOp1 fOrd (mC (.str "f")))) mNil))) mSkip)
  (mSeq (mIfS (mTru (mOp1 (fIsi isInt) (mVar 0))) (mRetS (mOp2 fPlus (mOp2 fPlus (mOp2 fPlus (mLst (mCons (mOp1 fOrd (mC (.str "i"))) mNil)) (mIf (mAsB (mOp2 fLt (mVar 0) (mC (.int 0)))) (mLst (mCons (mOp1 fOrd (mC (.str "-"))) mNil)) (mLst mNil))) (mCall f_d_u_digits (mCons (mOp1 fAbs (mVar 0)) mNil))) (mLst (mCons (mOp1 fOrd (mC (.str ";"))) mNil)))) mSkip)
  (mSeq (mIfS (mTru (mOp1 (fIsi isStr) (mVar 0))) (mSeq (mAsg (L_d_u_written_7 slf) (asgD 2))
  (mSeq (mIfS (mAsB (mOp2 fInS (mC (.str "")) (L_d_u_written_4 slf))) mRaise mSkip)
  (mRetS (mOp2 fPlus (mOp2 fPlus (mOp2 fPlus (mLst (mCons (mOp1 fOrd (mC (.str "s"))) mNil)) (mCall f_d_u_digits (mCons (mOp1 fLen (mVar 2)) mNil))) (mLst (mCons (mOp1 fOrd (mC (.str ":"))) mNil))) (mVar 2))))) mSkip)
  (mSeq (mIfS (mNot (mTru (mOp1 (fIsi isTup) (mVar 0)))) mRaise mSkip)
  (mSeq (mNewL (mCons (mOp1 fOrd (mC (.str "("))) mNil) 5)
  (mSeq (L_d_u_written_1 slf)
  (mRetS (mOp2 fPlus (mVar 5) (mLst (mCons (mOp1 fOrd (mC (.str ")"))) mNil))))))))))))
def f_d_u_written : Nat → List D → Option (Rs D)
  | 0 => fun _ => none
  | n + 1 => runR 2 7 (m_d_u_written (f_d_u_written n))
theorem ok_d_u_written {f : Addr} {fd : FuncData} (F : Def1 K mg "_written" s_d_u_written ["value", "deep"] f fd) (T : Blt mg) (XC : XCls K mg "BadForm" C) (C_d_u_digits : CalX P w K mg base CX0 1 "_digits" ["number"] (spP K f_d_u_digits)) (C_d_u_sign : CalX P w K mg base CX0 1 "_sign" ["code"] (spP K f_d_u_sign)) : ∀ n : Nat, CalX P w K mg base (L2.CX P w) (1 + n) "_written" ["value", "deep"] (spR K C (f_d_u_written n))
  | 0 => calR0 F
  | n + 1 => by
    have C_d_u_written := ok_d_u_written F T XC C_d_u_digits C_d_u_sign n
    exact calRX (C := C) (k := 1 + n) F sc_d_u_written (by decide) fun cdv A outer s H E hr rz po => ⟨_, (qss_cons (qs_if (qt_cmp op_gt os_gt (qe_var 1) (qe_gint (by rfl) T.g_DEEPEST)) (qss_one (qs_raise rfl rz XC)) qss_nil)
  (qss_cons (qs_if (qt_isN (qe_var 0)) (qss_one (qs_ret (qe_lst (qa_cons (qe_callB1 call_ord cs_ord (by rfl) T.ord bb_ord qe_str) qa_nil)))) qss_nil)
  (qss_cons (qs_if (qt_truth (qe_isi isi_bool (by rfl) T.isinstance (by rfl) T.bool bb_bool (qe_var 0))) (qss_one (qs_ret (qe_lst (qa_cons (qe_if (qt_truth (qe_var 0)) (qe_callB1 call_ord cs_ord (by rfl) T.ord bb_ord qe_str) (qe_callB1 call_ord cs_ord (by rfl) T.ord bb_ord qe_str)) qa_nil)))) qss_nil)
  (qss_cons (qs_if (qt_truth (qe_isi isi_int (by rfl) T.isinstance (by rfl) T.int bb_int (qe_var 0))) (qss_one (qs_ret (qe_op op_plus os_plus (qe_op op_plus os_plus (qe_op op_plus os_plus (qe_lst (qa_cons (qe_callB1 call_ord cs_ord (by rfl) T.ord bb_ord qe_str) qa_nil)) (qe_if (qt_cmp op_lt os_lt (qe_var 0) qe_int) (qe_lst (qa_cons (qe_callB1 call_ord cs_ord (by rfl) T.ord bb_ord qe_str) qa_nil)) (qe_lst qa_nil))) (qe_callDX C_d_u_digits (hr.mono (by omega)) (qa_cons (qe_callB1 call_abs cs_abs (by rfl) T.abs bb_abs (qe_var 0)) qa_nil))) (qe_lst (qa_cons (qe_callB1 call_ord cs_ord (by rfl) T.ord bb_ord qe_str) qa_nil))))) qss_nil)
  (qss_cons (qs_if (qt_truth (qe_isi isi_str (by rfl) T.isinstance (by rfl) T.str bb_str (qe_var 0))) (qss_cons (qs_setLc 2 (own := [("sign", 3)]) rfl sc_d_u_written.nd (qi_str (qe_var 0)) (show BlkOk N_d_u_written (defScope s_d_u_written) _ _ from blkOk_by (by decide +kernel)) (fun _ _ _ _ _ => (qg_name 3 sc_d_u_written.nd)) (fun _ _ _ _ _ => qts_nil) (fun _ _ _ _ _ => (qe_callB1 call_ord cs_ord (by rfl) T.ord bb_ord (qe_var 3))))
  (qss_cons (qs_if (qt_cmp (op_inS' (v65 hr)) os_inS qe_str (qe_lc (own := [("code", 4)]) rfl sc_d_u_written.nd (qi_list (qe_var 2)) (show BlkOk N_d_u_written (defScope s_d_u_written) _ _ from blkOk_by (by decide +kernel)) (fun _ _ _ _ _ => (qg_name 4 sc_d_u_written.nd)) (fun _ _ _ _ _ => qts_nil) (fun _ _ _ _ _ => (qe_callDXk (K := K) rfl C_d_u_sign (hr.mono (by omega)) (qa_cons (qe_var 4) qa_nil))))) (qss_one (qs_raise rfl rz XC)) qss_nil)
  (qss_one (qs_ret (qe_op op_plus os_plus (qe_op op_plus os_plus (qe_op op_plus os_plus (qe_lst (qa_cons (qe_callB1 call_ord cs_ord (by rfl) T.ord bb_ord qe_str) qa_nil)) (qe_callDX C_d_u_digits (hr.mono (by omega)) (qa_cons (qe_callB1 call_len cs_len (by rfl) T.len bb_len (qe_var 2)) qa_nil))) (qe_lst (qa_cons (qe_callB1 call_ord cs_ord (by rfl) T.ord bb_ord qe_str) qa_nil))) (qe_var 2)))))) qss_nil)
  (qss_cons (qs_if (qt_not (qt_truth (qe_isi isi_tup (by rfl) T.isinstance (by rfl) T.tuple bb_tuple (qe_var 0)))) (qss_one (qs_raise rfl rz XC)) qss_nil)
  (qss_cons (qs_newL 5 sc_d_u_written.nd (qa_cons (qe_callB1 call_ord cs_ord (by rfl) T.ord bb_ord qe_str) qa_nil))
  (qss_cons (qs_for po rfl (qi_tup (qe_var 0)) (qg_name 6 sc_d_u_written.nd) (qss_one (qs_extend 5 (qe_callRX C_d_u_written (hr.mono (by omega)) rz (qa_cons (qe_var 6) (qa_cons (qe_op op_plus os_plus (qe_var 1) qe_int) qa_nil))))))
  (qss_one (qs_ret (qe_op op_plus os_plus (qe_var 5) (qe_lst (qa_cons (qe_callB1 call_ord cs_ord (by rfl) T.ord bb_ord qe_str) qa_nil)))))))))))))⟩
abbrev s_d_written : Stmt := top 9
abbrev N_d_written : List Str := ["value"]
theorem sc_d_written : FnScope N_d_written ["value"] (defScope s_d_written) := ⟨rfl, rfl, rfl, by decide +kernel, rfl, by decide +kernel, by decide +kernel⟩
def m_d_written : MS := (mRetS (mCallR (f_d_u_written 420) (mCons (mVar 0) (mCons (mC (.int 0)) mNil))))
def f_d_written : List D → Option (Rs D) := runR 1 1 m_d_written
theorem ok_d_written {f : Addr} {fd : FuncData} (F : Def1 K mg "written" s_d_written ["value"] f fd) (T : Blt mg) (XC : XCls K mg "BadForm" C) (C_d_u_written : CalX P w K mg base (L2.CX P w) 421 "_written" ["value", "deep"] (spR K C (f_d_u_written 420))) : CalX P w K mg base (L2.CX P w) 422 "written" ["value"] (spR K C f_d_written) :=
  calRX (C := C) F sc_d_written (by decide) fun cdv A outer s H E hr rz po => ⟨_, (qss_one (qs_ret (qe_callRX C_d_u_written (hr.mono (by decide)) rz (qa_cons (qe_var 0) (qa_cons qe_int qa_nil)))))⟩
abbrev s_d_u_law_refused : Stmt := top 26
abbrev N_d_u_law_refused : List Str := ["value"]
theorem sc_d_u_law_refused : FnScope N_d_u_law_refused ["value"] (defScope s_d_u_law_refused) := ⟨rfl, rfl, rfl, by decide +kernel, rfl, by decide +kernel, by decide +kernel⟩
def m_d_u_law_refused : MS := (mTry (mSeq (mDrop (mCallR f_d_written (mCons (mVar 0) mNil)))
  (mRetS (mC (.bool false)))) (.bool true))
def f_d_u_law_refused : List D → Option D := runP 1 1 m_d_u_law_refused
theorem ok_d_u_law_refused {f : Addr} {fd : FuncData} (F : Def1 K mg "_law_refused" s_d_u_law_refused ["value"] f fd) (T : Blt mg) (XC : XCls K mg "BadForm" C) (C_d_written : CalX P w K mg base (L2.CX P w) 422 "written" ["value"] (spR K C f_d_written)) : CalX P w K mg base CX0 423 "_law_refused" ["value"] (spP K f_d_u_law_refused) :=
  calPX F sc_d_u_law_refused (by decide) fun cdv A outer s H E hr => ⟨_, (qss_one (qs_tryC (C := C) (W := fun _ _ _ _ => False) rfl rfl XC (by rfl) takes_no (fun _ => pe_bl) (fun _ => .bl _) (fun EW2 W2 pn xe rt => (qss_cons (qs_expr (qe_callRXk (K := K) rfl C_d_written (hr.mono (by decide)) rt (qa_cons (qe_var 0) qa_nil)))
  (qss_one (qs_ret qe_bl))))))⟩
abbrev s_d_u_number : Stmt := top 11
abbrev N_d_u_number : List Str := ["octets", "at", "end", "since", "found"]
theorem sc_d_u_number : FnScope N_d_u_number ["octets", "at", "end"] (defScope s_d_u_number) := ⟨rfl, rfl, rfl, by decide +kernel, rfl, by decide +kernel, by decide +kernel⟩
def m_d_u_number : MS := (mSeq (mAsg (mVar 1) (asgD 3))
  (mSeq (mAsg (mC (.int 0)) (asgD 4))
  (mSeq (loopW (mAnd (mAsB (mOp2 fLt (mVar 1) (mOp1 fLen (mVar 0)))) (mChain fLe fLe (mOp1 fOrd (mC (.str "0"))) (mOp2 fIx (mVar 0) (mVar 1)) (mOp1 fOrd (mC (.str "9"))))) (mSeq (mAsg (mOp2 fSub (mOp2 fPlus (mOp2 fMul (mVar 4) (mC (.int 10))) (mOp2 fIx (mVar 0) (mVar 1))) (mOp1 fOrd (mC (.str "0")))) (asgD 4))
  (mAsg (mOp2 fPlus (mVar 1) (mC (.int 1))) (asgD 1))) 100000)
  (mSeq (mIfS (mOr (mAsB (mOp2 fEq (mVar 1) (mVar 3))) (mOr (mAsB (mOp2 fGe (mVar 1) (mOp1 fLen (mVar 0)))) (mAsB (mOp2 fNe (mOp2 fIx (mVar 0) (mVar 1)) (mOp1 fOrd (mVar 2)))))) mRaise mSkip)
  (mSeq (mIfS (mAnd (mAsB (mOp2 fEq (mOp2 fIx (mVar 0) (mVar 3)) (mOp1 fOrd (mC (.str "0"))))) (mAsB (mOp2 fGt (mOp2 fSub (mVar 1) (mVar 3)) (mC (.int 1))))) mRaise mSkip)
  (mRetS (mTup (mCons (mVar 4) (mCons (mOp2 fPlus (mVar 1) (mC (.int 1))) mNil)))))))))
def f_d_u_number : List D → Option (Rs D) := runR 3 5 m_d_u_number
theorem ok_d_u_number {f : Addr} {fd : FuncData} (F : Def1 K mg "_number" s_d_u_number ["octets", "at", "end"] f fd) (T : Blt mg) (XC : XCls K mg "BadForm" C)  : CalX P w K mg base (L2.CX P w) 1 "_number" ["octets", "at", "end"] (spR K C f_d_u_number) :=
  calRX (C := C) F sc_d_u_number (by decide) fun cdv A outer s H E hr rz po => ⟨_, (qss_cons (qs_set 3 sc_d_u_number.nd (qe_var 1))
  (qss_cons (qs_set 4 sc_d_u_number.nd qe_int)
  (qss_cons (qs_while 100000 po (qw_and (qt_cmp op_lt os_lt (qe_var 1) (qe_callB1 call_len cs_len (by rfl) T.len bb_len (qe_var 0))) (qw_and1 (qt_chain op_le os_le op_le os_le (qe_callB1 call_ord cs_ord (by rfl) T.ord bb_ord qe_str) (qe_ix ix_seq os_ix (qe_var 0) (qe_var 1)) (qe_callB1 call_ord cs_ord (by rfl) T.ord bb_ord qe_str)))).qt (qss_cons (qs_set 4 sc_d_u_number.nd (qe_op op_sub os_sub (qe_op op_plus os_plus (qe_op op_mul os_mul (qe_var 4) qe_int) (qe_ix ix_seq os_ix (qe_var 0) (qe_var 1))) (qe_callB1 call_ord cs_ord (by rfl) T.ord bb_ord qe_str)))
  (qss_one (qs_set 1 sc_d_u_number.nd (qe_op op_plus os_plus (qe_var 1) qe_int)))))
  (qss_cons (qs_if (qw_or (qt_cmp (op_eqD (v64 hr)) os_eq (qe_var 1) (qe_var 3)) (qw_or (qt_cmp op_ge os_ge (qe_var 1) (qe_callB1 call_len cs_len (by rfl) T.len bb_len (qe_var 0))) (qw_or1 (qt_cmp (op_neD (v64 hr)) os_ne (qe_ix ix_seq os_ix (qe_var 0) (qe_var 1)) (qe_callB1 call_ord cs_ord (by rfl) T.ord bb_ord (qe_var 2)))))).qt (qss_one (qs_raise rfl rz XC)) qss_nil)
  (qss_cons (qs_if (qw_and (qt_cmp (op_eqD (v64 hr)) os_eq (qe_ix ix_seq os_ix (qe_var 0) (qe_var 3)) (qe_callB1 call_ord cs_ord (by rfl) T.ord bb_ord qe_str)) (qw_and1 (qt_cmp op_gt os_gt (qe_op op_sub os_sub (qe_var 1) (qe_var 3)) qe_int))).qt (qss_one (qs_raise rfl rz XC)) qss_nil)
  (qss_one (qs_ret (qe_tup (qa_cons (qe_var 4) (qa_cons (qe_op op_plus os_plus (qe_var 1) qe_int) qa_nil))))))))))⟩
abbrev s_d_u_whole : Stmt := top 13
abbrev N_d_u_whole : List Str := ["octets", "at", "found", "behind"]
theorem sc_d_u_whole : FnScope N_d_u_whole ["octets", "at"] (defScope s_d_u_whole) := ⟨rfl, rfl, rfl, by decide +kernel, rfl, by decide +kernel, by decide +kernel⟩
def m_d_u_whole : MS := (mSeq (mIfS (mAnd (mAsB (mOp2 fLt (mVar 1) (mOp1 fLen (mVar 0)))) (mAsB (mOp2 fEq (mOp2 fIx (mVar 0) (mVar 1)) (mOp1 fOrd (mC (.str "-")))))) (mSeq (mAsg (mCallR f_d_u_number (mCons (mVar 0) (mCons (mOp2 fPlus (mVar 1) (mC (.int 1))) (mCons (mC (.str ";")) mNil)))) (gmTup 2 (gmCons (asgD 2) (gmCons (asgD 3) gmNil))))
  (mSeq (mIfS (mAsB (mOp2 fEq (mVar 2) (mC (.int 0)))) mRaise mSkip)
  (mRetS (mTup (mCons (mOp1 fNeg (mVar 2)) (mCons (mVar 3) mNil)))))) mSkip)
  (mRetS (mCallR f_d_u_number (mCons (mVar 0) (mCons (mVar 1) (mCons (mC (.str ";")) mNil))))))
def f_d_u_whole : List D → Option (Rs D) := runR 2 4 m_d_u_whole
theorem ok_d_u_whole {f : Addr} {fd : FuncData} (F : Def1 K mg "_whole" s_d_u_whole ["octets", "at"] f fd) (T : Blt mg) (XC : XCls K mg "BadForm" C) (C_d_u_number : CalX P w K mg base (L2.CX P w) 1 "_number" ["octets", "at", "end"] (spR K C f_d_u_number)) : CalX P w K mg base (L2.CX P w) 2 "_whole" ["octets", "at"] (spR K C f_d_u_whole) :=
  calRX (C := C) F sc_d_u_whole (by decide) fun cdv A outer s H E hr rz po => ⟨_, (qss_cons (qs_if (qw_and (qt_cmp op_lt os_lt (qe_var 1) (qe_callB1 call_len cs_len (by rfl) T.len bb_len (qe_var 0))) (qw_and1 (qt_cmp (op_eqD (v64 hr)) os_eq (qe_ix ix_seq os_ix (qe_var 0) (qe_var 1)) (qe_callB1 call_ord cs_ord (by rfl) T.ord bb_ord qe_str)))).qt (qss_cons (qs_asg (qe_callRX C_d_u_number (hr.mono (by decide)) rz (qa_cons (qe_var 0) (qa_cons (qe_op op_plus os_plus (qe_var 1) qe_int) (qa_cons qe_str qa_nil)))) (qg_tup rfl (qgs_cons (qg_name 2 sc_d_u_whole.nd) (qgs_cons (qg_name 3 sc_d_u_whole.nd) qgs_nil))))
  (qss_cons (qs_if (qt_cmp (op_eqD (v64 hr)) os_eq (qe_var 2) qe_int) (qss_one (qs_raise rfl rz XC)) qss_nil)
  (qss_one (qs_ret (qe_tup (qa_cons (qe_un un_neg us_neg (qe_var 2)) (qa_cons (qe_var 3) qa_nil))))))) qss_nil)
  (qss_one (qs_ret (qe_callRX C_d_u_number (hr.mono (by decide)) rz (qa_cons (qe_var 0) (qa_cons (qe_var 1) (qa_cons qe_str qa_nil)))))))⟩
abbrev s_d_u_read : Stmt := top 12
abbrev N_d_u_read : List Str := ["octets", "at", "deep", "word", "many", "told", "code", "found", "part"]
theorem sc_d_u_read : FnScope N_d_u_read ["octets", "at", "deep"] (defScope s_d_u_read) := ⟨rfl, rfl, rfl, by decide +kernel, rfl, by decide +kernel, by decide +kernel⟩
def E_d_u_read_0 (slf : List D → Option (Rs D)) : M Vw := (mCall f_d_u_sign (mCons (mVar 6) mNil))
def T_d_u_read_1 (slf : List D → Option (Rs D)) : M Bool := (mRet true)
def L_d_u_read_2 (slf : List D → Option (Rs D)) : M Vw := (mLc (mSeqL (mCut (mVar 0) (mPart (mVar 1)) (mPart (mOp2 fPlus (mVar 1) (mVar 4))))) (asgD 6) (T_d_u_read_1 slf) (E_d_u_read_0 slf) [6])
def m_d_u_read (slf : List D → Option (Rs D)) : MS := (mSeq (mIfS (mOr (mAsB (mOp2 fGe (mVar 1) (mOp1 fLen (mVar 0)))) (mAsB (mOp2 fGt (mVar 2) (mC (.int 400))))) mRaise mSkip)
  (mSeq (mAsg (mOp2 fIx (mVar 0) (mVar 1)) (asgD 3))
  (mSeq (mIfS (mAsB (mOp2 fEq (mVar 3) (mOp1 fOrd (mC (.str "n"))))) (mRetS (mTup (mCons (mC .none) (mCons (mOp2 fPlus (mVar 1) (mC (.int 1))) mNil)))) mSkip)
  (mSeq (mIfS (mAsB (mOp2 fInS (mVar 3) (mTup (mCons (mOp1 fOrd (mC (.str "t"))) (mCons (mOp1 fOrd (mC (.str "f"))) mNil))))) (mRetS (mTup (mCons (mOp2 fEq (mVar 3) (mOp1 fOrd (mC (.str "t")))) (mCons (mOp2 fPlus (mVar 1) (mC (.int 1))) mNil)))) mSkip)
  (mSeq (mIfS (mAsB (mOp2 fEq (mVar 3) (mOp1 fOrd (mC (.str "i"))))) (mRetS (mCallR f_d_u_whole (mCons (mVar 0) (mCons (mOp2 fPlus (mVar 1) (mC (.int 1))) mNil)))) mSkip)
  (mSeq (mIfS (mAsB (mOp2 fEq (mVar 3) (mOp1 fOrd (mC (.str "s"))))) (mSeq (mAsg (mCallR f_d_u_number (mCons (mVar 0) (mCons (mOp2 fPlus (mVar 1) (mC (.int 1))) (mCons (mC (.str ":")) mNil)))) (gmTup 2 (gmCons (asgD 4) (gmCons (asgD 1) gmNil))))
  (mSeq (mAsg (L_d_u_read_2 slf) (asgD 5))
  (mSeq (mIfS (mOr (mAsB (mOp2 fLt (mOp1 fLen (mVar 5)) (mVar 4))) (mAsB (mOp2 fInS (mC (.str "")) (mVar 5)))) mRaise mSkip)
  (mRetS (mTup (mCons (mOp1 (fJoin "") (mVar 5)) (mCons (mOp2 fPlus (mVar 1) (mVar 4)) mNil))))))) mSkip)
  (mSeq (mIfS (mAsB (mOp2 fNe (mVar 3) (mOp1 fOrd (mC (.str "("))))) mRaise mSkip)
  (mSeq (mParL 7 1 mNil (mOp2 fPlus (mVar 1) (mC (.int 1))))
  (mSeq (loopW (mAnd (mAsB (mOp2 fLt (mVar 1) (mOp1 fLen (mVar 0)))) (mAsB (mOp2 fNe (mOp2 fIx (mVar 0) (mVar 1)) (mOp1 fOrd (mC (.str ")")))))) (mSeq (mAsg (mCallR (slf) (mCons (mVar 0) (mCons (mVar 1) (mCons (mOp2 fPlus (mVar 2) (mC (.int 1))) mNil)))) (gmTup 2 (gmCons (asgD 8) (gmCons (asgD 1) gmNil))))
  (mAppend 7 (mVar 8))) 100000)
  (mSeq (mIfS (mAsB (mOp2 fGe (mVar 1) (mOp1 fLen (mVar 0)))) mRaise mSkip)
  (mRetS (mTup (mCons (mOp1 fTupleOf (mVar 7)) (mCons (mOp2 fPlus (mVar 1) (mC (.int 1))) mNil))))))))))))))
def f_d_u_read : Nat → List D → Option (Rs D)
  | 0 => fun _ => none
  | n + 1 => runR 3 9 (m_d_u_read (f_d_u_read n))
theorem ok_d_u_read {f : Addr} {fd : FuncData} (F : Def1 K mg "_read" s_d_u_read ["octets", "at", "deep"] f fd) (T : Blt mg) (XC : XCls K mg "BadForm" C) (C_d_u_whole : CalX P w K mg base (L2.CX P w) 2 "_whole" ["octets", "at"] (spR K C f_d_u_whole)) (C_d_u_number : CalX P w K mg base (L2.CX P w) 1 "_number" ["octets", "at", "end"] (spR K C f_d_u_number)) (C_d_u_sign : CalX P w K mg base CX0 1 "_sign" ["code"] (spP K f_d_u_sign)) : ∀ n : Nat, CalX P w K mg base (L2.CX P w) (2 + n) "_read" ["octets", "at", "deep"] (spR K C (f_d_u_read n))
  | 0 => calR0 F
  | n + 1 => by
    have C_d_u_read := ok_d_u_read F T XC C_d_u_whole C_d_u_number C_d_u_sign n
    exact calRX (C := C) (k := 2 + n) F sc_d_u_read (by decide) fun cdv A outer s H E hr rz po => ⟨_, (qss_cons (qs_if (qw_or (qt_cmp op_ge os_ge (qe_var 1) (qe_callB1 call_len cs_len (by rfl) T.len bb_len (qe_var 0))) (qw_or1 (qt_cmp op_gt os_gt (qe_var 2) (qe_gint (by rfl) T.g_DEEPEST)))).qt (qss_one (qs_raise rfl rz XC)) qss_nil)
  (qss_cons (qs_set 3 sc_d_u_read.nd (qe_ix ix_seq os_ix (qe_var 0) (qe_var 1)))
  (qss_cons (qs_if (qt_cmp (op_eqD (v64 hr)) os_eq (qe_var 3) (qe_callB1 call_ord cs_ord (by rfl) T.ord bb_ord qe_str)) (qss_one (qs_ret (qe_tup (qa_cons qe_non (qa_cons (qe_op op_plus os_plus (qe_var 1) qe_int) qa_nil))))) qss_nil)
  (qss_cons (qs_if (qt_cmp (op_inS' (v65 hr)) os_inS (qe_var 3) (qe_tup (qa_cons (qe_callB1 call_ord cs_ord (by rfl) T.ord bb_ord qe_str) (qa_cons (qe_callB1 call_ord cs_ord (by rfl) T.ord bb_ord qe_str) qa_nil)))) (qss_one (qs_ret (qe_tup (qa_cons (qe_cmp (op_eqD (v64 hr)) os_eq (qe_var 3) (qe_callB1 call_ord cs_ord (by rfl) T.ord bb_ord qe_str)) (qa_cons (qe_op op_plus os_plus (qe_var 1) qe_int) qa_nil))))) qss_nil)
  (qss_cons (qs_if (qt_cmp (op_eqD (v64 hr)) os_eq (qe_var 3) (qe_callB1 call_ord cs_ord (by rfl) T.ord bb_ord qe_str)) (qss_one (qs_ret (qe_callRX C_d_u_whole (hr.mono (by omega)) rz (qa_cons (qe_var 0) (qa_cons (qe_op op_plus os_plus (qe_var 1) qe_int) qa_nil))))) qss_nil)
  (qss_cons (qs_if (qt_cmp (op_eqD (v64 hr)) os_eq (qe_var 3) (qe_callB1 call_ord cs_ord (by rfl) T.ord bb_ord qe_str)) (qss_cons (qs_asg (qe_callRX C_d_u_number (hr.mono (by omega)) rz (qa_cons (qe_var 0) (qa_cons (qe_op op_plus os_plus (qe_var 1) qe_int) (qa_cons qe_str qa_nil)))) (qg_tup rfl (qgs_cons (qg_name 4 sc_d_u_read.nd) (qgs_cons (qg_name 1 sc_d_u_read.nd) qgs_nil))))
  (qss_cons (qs_setLc 5 (own := [("code", 6)]) rfl sc_d_u_read.nd (qi_list (qe_slice (qe_var 0) (qo_some (qe_var 1)) (qo_some (qe_op op_plus os_plus (qe_var 1) (qe_var 4))))) (show BlkOk N_d_u_read (defScope s_d_u_read) _ _ from blkOk_by (by decide +kernel)) (fun _ _ _ _ _ => (qg_name 6 sc_d_u_read.nd)) (fun _ _ _ _ _ => qts_nil) (fun _ _ _ _ _ => (qe_callDXk (K := K) rfl C_d_u_sign (hr.mono (by omega)) (qa_cons (qe_var 6) qa_nil))))
  (qss_cons (qs_if (qw_or (qt_cmp op_lt os_lt (qe_callB1 call_len cs_len (by rfl) T.len bb_len (qe_var 5)) (qe_var 4)) (qw_or1 (qt_cmp (op_inS' (v65 hr)) os_inS qe_str (qe_var 5)))).qt (qss_one (qs_raise rfl rz XC)) qss_nil)
  (qss_one (qs_ret (qe_tup (qa_cons (qe_join (qe_var 5)) (qa_cons (qe_op op_plus os_plus (qe_var 1) (qe_var 4)) qa_nil)))))))) qss_nil)
  (qss_cons (qs_if (qt_cmp (op_neD (v64 hr)) os_ne (qe_var 3) (qe_callB1 call_ord cs_ord (by rfl) T.ord bb_ord qe_str)) (qss_one (qs_raise rfl rz XC)) qss_nil)
  (qss_cons (qs_parL 7 1 rfl sc_d_u_read.nd qa_nil (qe_op op_plus os_plus (qe_var 1) qe_int))
  (qss_cons (qs_while 100000 po (qw_and (qt_cmp op_lt os_lt (qe_var 1) (qe_callB1 call_len cs_len (by rfl) T.len bb_len (qe_var 0))) (qw_and1 (qt_cmp (op_neD (v64 hr)) os_ne (qe_ix ix_seq os_ix (qe_var 0) (qe_var 1)) (qe_callB1 call_ord cs_ord (by rfl) T.ord bb_ord qe_str)))).qt (qss_cons (qs_asg (qe_callRX C_d_u_read (hr.mono (by omega)) rz (qa_cons (qe_var 0) (qa_cons (qe_var 1) (qa_cons (qe_op op_plus os_plus (qe_var 2) qe_int) qa_nil)))) (qg_tup rfl (qgs_cons (qg_name 8 sc_d_u_read.nd) (qgs_cons (qg_name 1 sc_d_u_read.nd) qgs_nil))))
  (qss_one (qs_append 7 (qe_var 8)))))
  (qss_cons (qs_if (qt_cmp op_ge os_ge (qe_var 1) (qe_callB1 call_len cs_len (by rfl) T.len bb_len (qe_var 0))) (qss_one (qs_raise rfl rz XC)) qss_nil)
  (qss_one (qs_ret (qe_tup (qa_cons (qe_callT1 call_tuple_of cs_tuple (by rfl) T.tuple bb_tuple (qe_var 7)) (qa_cons (qe_op op_plus os_plus (qe_var 1) qe_int) qa_nil)))))))))))))))⟩
abbrev s_d_read : Stmt := top 14
abbrev N_d_read : List Str := ["octets", "found", "at"]
theorem sc_d_read : FnScope N_d_read ["octets"] (defScope s_d_read) := ⟨rfl, rfl, rfl, by decide +kernel, rfl, by decide +kernel, by decide +kernel⟩
def m_d_read : MS := (mSeq (mAsg (mCallR (f_d_u_read 420) (mCons (mVar 0) (mCons (mC (.int 0)) (mCons (mC (.int 0)) mNil)))) (gmTup 2 (gmCons (asgD 1) (gmCons (asgD 2) gmNil))))
  (mSeq (mIfS (mAsB (mOp2 fNe (mVar 2) (mOp1 fLen (mVar 0)))) mRaise mSkip)
  (mRetS (mVar 1))))
def f_d_read : List D → Option (Rs D) := runR 1 3 m_d_read
theorem ok_d_read {f : Addr} {fd : FuncData} (F : Def1 K mg "read" s_d_read ["octets"] f fd) (T : Blt mg) (XC : XCls K mg "BadForm" C) (C_d_u_read : CalX P w K mg base (L2.CX P w) 422 "_read" ["octets", "at", "deep"] (spR K C (f_d_u_read 420))) : CalX P w K mg base (L2.CX P w) 423 "read" ["octets"] (spR K C f_d_read) :=
  calRX (C := C) F sc_d_read (by decide) fun cdv A outer s H E hr rz po => ⟨_, (qss_cons (qs_asg (qe_callRX C_d_u_read (hr.mono (by decide)) rz (qa_cons (qe_var 0) (qa_cons qe_int (qa_cons qe_int qa_nil)))) (qg_tup rfl (qgs_cons (qg_name 1 sc_d_read.nd) (qgs_cons (qg_name 2 sc_d_read.nd) qgs_nil))))
  (qss_cons (qs_if (qt_cmp (op_neD (v64 hr)) os_ne (qe_var 2) (qe_callB1 call_len cs_len (by rfl) T.len bb_len (qe_var 0))) (qss_one (qs_raise rfl rz XC)) qss_nil)
  (qss_one (qs_ret (qe_var 1)))))⟩
abbrev s_d_u_law_told : Stmt := top 25
abbrev N_d_u_law_told : List Str := ["octets"]
theorem sc_d_u_law_told : FnScope N_d_u_law_told ["octets"] (defScope s_d_u_law_told) := ⟨rfl, rfl, rfl, by decide +kernel, rfl, by decide +kernel, by decide +kernel⟩
def m_d_u_law_told : MS := (mTry (mRetS (mLst (mCons (mCallR f_d_read (mCons (mVar 0) mNil)) mNil))) .none)
def f_d_u_law_told : List D → Option D := runP 1 1 m_d_u_law_told
theorem ok_d_u_law_told {f : Addr} {fd : FuncData} (F : Def1 K mg "_law_told" s_d_u_law_told ["octets"] f fd) (T : Blt mg) (XC : XCls K mg "BadForm" C) (C_d_read : CalX P w K mg base (L2.CX P w) 423 "read" ["octets"] (spR K C f_d_read)) : CalX P w K mg base CX0 424 "_law_told" ["octets"] (spP K f_d_u_law_told) :=
  calPX F sc_d_u_law_told (by decide) fun cdv A outer s H E hr => ⟨_, (qss_one (qs_tryC (C := C) (W := fun _ _ _ _ => False) rfl rfl XC (by rfl) takes_no (fun _ => pe_non) (fun _ => .non) (fun EW2 W2 pn xe rt => (qss_one (qs_ret (qe_lst (qa_cons (qe_callRXk (K := K) rfl C_d_read (hr.mono (by decide)) rt (qa_cons (qe_var 0) qa_nil)) qa_nil)))))))⟩
abbrev s_d_law : Stmt := top 28
abbrev N_d_law : List Str := ["script", "box", "value", "around", "inner", "k", "octets", "turn", "other", "odd"]
theorem sc_d_law : FnScope N_d_law ["script"] (defScope s_d_law) := ⟨rfl, rfl, rfl, by decide +kernel, rfl, by decide +kernel, by decide +kernel⟩
def B_d_law_0 : MS := (mSeq (mAsg (mCallB f_d_u_law_spoilt (mCons (mVar 1) (mCons (mVar 6) mNil))) (asgD 8))
  (mIfS (mAsB (mOp2 fNe (mOp1 fRepr (mCall f_d_u_law_told (mCons (mVar 8) mNil))) (mOp1 fRepr (mCall f_d_u_law_whole (mCons (mVar 8) mNil))))) (mRetS (mC (.bool false))) mSkip))
def L_d_law_1 : MS := (mFor (mRng1 (mC (.int 4))) (asgD 7) B_d_law_0)
def B_d_law_2 : MS := (mAsg (mTup (mCons (mVar 4) mNil)) (asgD 4))
def L_d_law_3 : MS := (mFor (mRng1 (mVar 3)) (asgD 5) B_d_law_2)
def m_d_law : MS := (mSeq (mSetOc 1 f_d_u_law_box (mCons (mVar 0) mNil))
  (mSeq (mAsg (mCallB (f_d_u_law_plain 5) (mCons (mVar 1) (mCons (mC (.int 3)) mNil))) (asgD 2))
  (mSeq (mAsg (mCallB f_d_u_law_pick (mCons (mVar 1) (mCons (mLst (mCons (mC (.int 0)) (mCons (mC (.int 0)) (mCons (mC (.int 1)) (mCons (mC (.int 57)) (mCons (mC (.int 0)) (mCons (mC (.int 2)) (mCons (mC (.int 0)) (mCons (mC (.int 397)) (mCons (mC (.int 399)) (mCons (mC (.int 400)) (mCons (mC (.int 401)) mNil)))))))))))) mNil))) (asgD 3))
  (mSeq (mAsg (mIf (mAnd (mAsB (mOp2 fGt (mVar 3) (mC (.int 50)))) (mAsB (mOp2 fEq (mCallB f_d_u_law_take (mCons (mVar 1) (mCons (mC (.int 2)) mNil))) (mC (.int 0))))) (mTup (mCons (mC (.str "x")) (mCons (mVar 2) mNil))) (mVar 2)) (asgD 4))
  (mSeq L_d_law_3
  (mSeq (mAsg (mCall (f_d_u_law_octets 600) (mCons (mVar 4) mNil)) (asgD 6))
  (mSeq (mIfS (mIsN (mCall f_d_u_law_whole (mCons (mVar 6) mNil))) (mRetS (mAndV (mCall f_d_u_law_refused (mCons (mVar 4) mNil)) (mB (mIsN (mCall f_d_u_law_told (mCons (mVar 6) mNil)))))) mSkip)
  (mSeq (mIfS (mOr (mAsB (mOp2 fNe (mOp1 fRepr (mCallR f_d_written (mCons (mVar 4) mNil))) (mOp1 fRepr (mVar 6)))) (mAsB (mOp2 fNe (mOp1 fRepr (mCallR f_d_read (mCons (mVar 6) mNil))) (mOp1 fRepr (mVar 4))))) (mRetS (mC (.bool false))) mSkip)
  (mSeq L_d_law_1
  (mSeq (mAsg (mCallB f_d_u_law_pick (mCons (mVar 1) (mCons (mLst (mCons (mLst mNil) (mCons (mLst (mCons (mC (.str "a")) mNil)) (mCons (mC (.dict [])) (mCons (mLst (mCons (mC .none) mNil)) (mCons (mLst (mCons (mC (.int 1)) (mCons (mC (.int 2)) mNil))) mNil)))))) mNil))) (asgD 9))
  (mRetS (mAndV (mCall f_d_u_law_refused (mCons (mVar 9) mNil)) (mCall f_d_u_law_refused (mCons (mTup (mCons (mC (.int 1)) (mCons (mVar 9) mNil))) mNil))))))))))))))
def f_d_law : List D → Option D := runP 1 10 m_d_law
theorem ok_d_law {f : Addr} {fd : FuncData} (F : Def1 K mg "law" s_d_law ["script"] f fd) (T : Blt mg) (XC : XCls K mg "BadForm" C) (C_d_u_law_box : CalX P w K mg base CX0 1 "_law_box" ["script"] (spO K f_d_u_law_box)) (C_d_u_law_plain : CalX P w K mg base CX0 7 "_law_plain" ["box", "deep"] (spB K (f_d_u_law_plain 5))) (C_d_u_law_pick : CalX P w K mg base CX0 2 "_law_pick" ["box", "menu"] (spB K f_d_u_law_pick)) (C_d_u_law_octets : CalX P w K mg base CX0 600 "_law_octets" ["value"] (spP K (f_d_u_law_octets 600))) (C_d_u_law_whole : CalX P w K mg base CX0 422 "_law_whole" ["octets"] (spP K f_d_u_law_whole)) (C_d_u_law_spoilt : CalX P w K mg base CX0 601 "_law_spoilt" ["box", "octets"] (spB K f_d_u_law_spoilt)) (C_d_u_law_refused : CalX P w K mg base CX0 423 "_law_refused" ["value"] (spP K f_d_u_law_refused)) (C_d_u_law_take : CalX P w K mg base CX0 1 "_law_take" ["box", "m"] (spB K f_d_u_law_take)) (C_d_u_law_told : CalX P w K mg base CX0 424 "_law_told" ["octets"] (spP K f_d_u_law_told)) (C_d_written : CalX P w K mg base (L2.CX P w) 422 "written" ["value"] (spR K C f_d_written)) (C_d_read : CalX P w K mg base (L2.CX P w) 423 "read" ["octets"] (spR K C f_d_read)) : FnX P w K mg base CX0 (Rm 602) f fd ["script"] (spP K f_d_law) :=
  fxP F sc_d_law (by decide) fun cdv A outer s H E hr => ⟨_, (qss_cons (qs_setOcX 1 C_d_u_law_box (hr.mono (by decide)) sc_d_law.nd (qa_cons (qe_var 0) qa_nil))
  (qss_cons (qs_set 2 sc_d_law.nd (qe_callBDX C_d_u_law_plain (hr.mono (by decide)) (qa_cons (qe_var 1) (qa_cons qe_int qa_nil))))
  (qss_cons (qs_set 3 sc_d_law.nd (qe_callBDX C_d_u_law_pick (hr.mono (by decide)) (qa_cons (qe_var 1) (qa_cons (qe_lst (qa_cons qe_int (qa_cons qe_int (qa_cons qe_int (qa_cons qe_int (qa_cons qe_int (qa_cons qe_int (qa_cons qe_int (qa_cons qe_int (qa_cons qe_int (qa_cons qe_int (qa_cons qe_int qa_nil)))))))))))) qa_nil))))
  (qss_cons (qs_set 4 sc_d_law.nd (qe_if (qw_and (qt_cmp op_gt os_gt (qe_var 3) qe_int) (qw_and1 (qt_cmp (op_eqD (v64 hr)) os_eq (qe_callBDX C_d_u_law_take (hr.mono (by decide)) (qa_cons (qe_var 1) (qa_cons qe_int qa_nil))) qe_int))).qt (qe_tup (qa_cons qe_str (qa_cons (qe_var 2) qa_nil))) (qe_var 2)))
  (qss_cons (qs_for PassesOwn.never rfl (qi_range1 (by rfl) T.range (qe_var 3)) (qg_name 5 sc_d_law.nd) (qss_one (qs_set 4 sc_d_law.nd (qe_tup (qa_cons (qe_var 4) qa_nil)))))
  (qss_cons (qs_set 6 sc_d_law.nd (qe_callDX C_d_u_law_octets (hr.mono (by decide)) (qa_cons (qe_var 4) qa_nil)))
  (qss_cons (qs_if (qt_isN (qe_callDX C_d_u_law_whole (hr.mono (by decide)) (qa_cons (qe_var 6) qa_nil))) (qss_one (qs_ret (qe_and (qe_callDX C_d_u_law_refused (hr.mono (by decide)) (qa_cons (qe_var 4) qa_nil)) (qe_one (qe_isN (qe_callDX C_d_u_law_told (hr.mono (by decide)) (qa_cons (qe_var 6) qa_nil))))))) qss_nil)
  (qss_cons (qs_if (qw_or (qt_cmp (op_neD (v64 hr)) os_ne (qe_callB1 (cr_repr hr.gd (vrep hr)) cs_repr (by rfl) T.repr bb_repr (qe_callRX C_d_written (hr.mono (by decide)) rz0 (qa_cons (qe_var 4) qa_nil))) (qe_callB1 (cr_repr hr.gd (vrep hr)) cs_repr (by rfl) T.repr bb_repr (qe_var 6))) (qw_or1 (qt_cmp (op_neD (v64 hr)) os_ne (qe_callB1 (cr_repr hr.gd (vrep hr)) cs_repr (by rfl) T.repr bb_repr (qe_callRX C_d_read (hr.mono (by decide)) rz0 (qa_cons (qe_var 6) qa_nil))) (qe_callB1 (cr_repr hr.gd (vrep hr)) cs_repr (by rfl) T.repr bb_repr (qe_var 4))))).qt (qss_one (qs_ret qe_bl)) qss_nil)
  (qss_cons (qs_for PassesOwn.never rfl (qi_range1 (by rfl) T.range qe_int) (qg_name 7 sc_d_law.nd) (qss_cons (qs_set 8 sc_d_law.nd (qe_callBDX C_d_u_law_spoilt (hr.mono (by decide)) (qa_cons (qe_var 1) (qa_cons (qe_var 6) qa_nil))))
  (qss_one (qs_if (qt_cmp (op_neD (v64 hr)) os_ne (qe_callB1 (cr_repr hr.gd (vrep hr)) cs_repr (by rfl) T.repr bb_repr (qe_callDX C_d_u_law_told (hr.mono (by decide)) (qa_cons (qe_var 8) qa_nil))) (qe_callB1 (cr_repr hr.gd (vrep hr)) cs_repr (by rfl) T.repr bb_repr (qe_callDX C_d_u_law_whole (hr.mono (by decide)) (qa_cons (qe_var 8) qa_nil)))) (qss_one (qs_ret qe_bl)) qss_nil))))
  (qss_cons (qs_set 9 sc_d_law.nd (qe_callBDX C_d_u_law_pick (hr.mono (by decide)) (qa_cons (qe_var 1) (qa_cons (qe_lst (qa_cons (qe_lst qa_nil) (qa_cons (qe_lst (qa_cons qe_str qa_nil)) (qa_cons qe_dict0 (qa_cons (qe_lst (qa_cons qe_non qa_nil)) (qa_cons (qe_lst (qa_cons qe_int (qa_cons qe_int qa_nil))) qa_nil)))))) qa_nil))))
  (qss_one (qs_ret (qe_and (qe_callDX C_d_u_law_refused (hr.mono (by decide)) (qa_cons (qe_var 9) qa_nil)) (qe_one (qe_callDX C_d_u_law_refused (hr.mono (by decide)) (qa_cons (qe_tup (qa_cons qe_int (qa_cons (qe_var 9) qa_nil))) qa_nil))))))))))))))))⟩
end
/-! ### the frame -/
theorem all_mk {w : World} {K : PySem.W.Frag} {h : Heap} {mg : Str → Option Value} {fa a_d_u_law_box a_d_u_law_take a_d_u_law_pick a_d_u_law_plain a_d_u_law_octets a_d_u_law_number a_d_u_law_sign a_d_u_law_value_at a_d_u_law_whole a_d_u_law_spoilt a_d_u_digits a_d_u_sign a_d_u_written a_d_written a_d_u_law_refused a_d_u_number a_d_u_whole a_d_u_read a_d_read a_d_u_law_told a_d_law a_XC : Addr} (X : K.In h) (G : h.Ns mainGlobals mg) (hfa : mg "law" = some (.ref fa))
    {od_d_u_law_box an_d_u_law_box : Option Addr} {sl_d_u_law_box : Array (Option Value)} {oc_d_u_law_box kV_d_u_law_box dc_d_u_law_box pm_d_u_law_box cd_d_u_law_box ct_d_u_law_box : Value}
    (n_d_u_law_box : PySem.W.nsIn K mainGlobals "_law_box" = some (some (.ref a_d_u_law_box))) (l_d_u_law_box : K.lookup a_d_u_law_box = some ⟨oc_d_u_law_box, od_d_u_law_box, .func (PySem.W.fnOf "_law_box" "_law_box" (defArgs s_d_u_law_box) (defBody s_d_u_law_box) (defScope s_d_u_law_box) .none kV_d_u_law_box dc_d_u_law_box pm_d_u_law_box an_d_u_law_box cd_d_u_law_box ct_d_u_law_box), sl_d_u_law_box⟩) (c_d_u_law_box : PySem.W.codeIn K cd_d_u_law_box "_law_box" = true) (k_d_u_law_box : PySem.W.keepIn K (.ref a_d_u_law_box) = true)
    {od_d_u_law_take an_d_u_law_take : Option Addr} {sl_d_u_law_take : Array (Option Value)} {oc_d_u_law_take kV_d_u_law_take dc_d_u_law_take pm_d_u_law_take cd_d_u_law_take ct_d_u_law_take : Value}
    (n_d_u_law_take : PySem.W.nsIn K mainGlobals "_law_take" = some (some (.ref a_d_u_law_take))) (l_d_u_law_take : K.lookup a_d_u_law_take = some ⟨oc_d_u_law_take, od_d_u_law_take, .func (PySem.W.fnOf "_law_take" "_law_take" (defArgs s_d_u_law_take) (defBody s_d_u_law_take) (defScope s_d_u_law_take) .none kV_d_u_law_take dc_d_u_law_take pm_d_u_law_take an_d_u_law_take cd_d_u_law_take ct_d_u_law_take), sl_d_u_law_take⟩) (c_d_u_law_take : PySem.W.codeIn K cd_d_u_law_take "_law_take" = true) (k_d_u_law_take : PySem.W.keepIn K (.ref a_d_u_law_take) = true)
    {od_d_u_law_pick an_d_u_law_pick : Option Addr} {sl_d_u_law_pick : Array (Option Value)} {oc_d_u_law_pick kV_d_u_law_pick dc_d_u_law_pick pm_d_u_law_pick cd_d_u_law_pick ct_d_u_law_pick : Value}
    (n_d_u_law_pick : PySem.W.nsIn K mainGlobals "_law_pick" = some (some (.ref a_d_u_law_pick))) (l_d_u_law_pick : K.lookup a_d_u_law_pick = some ⟨oc_d_u_law_pick, od_d_u_law_pick, .func (PySem.W.fnOf "_law_pick" "_law_pick" (defArgs s_d_u_law_pick) (defBody s_d_u_law_pick) (defScope s_d_u_law_pick) .none kV_d_u_law_pick dc_d_u_law_pick pm_d_u_law_pick an_d_u_law_pick cd_d_u_law_pick ct_d_u_law_pick), sl_d_u_law_pick⟩) (c_d_u_law_pick : PySem.W.codeIn K cd_d_u_law_pick "_law_pick" = true) (k_d_u_law_pick : PySem.W.keepIn K (.ref a_d_u_law_pick) = true)
    {od_d_u_law_plain an_d_u_law_plain : Option Addr} {sl_d_u_law_plain : Array (Option Value)} {oc_d_u_law_plain kV_d_u_law_plain dc_d_u_law_plain pm_d_u_law_plain cd_d_u_law_plain ct_d_u_law_plain : Value}
    (n_d_u_law_plain : PySem.W.nsIn K mainGlobals "_law_plain" = some (some (.ref a_d_u_law_plain))) (l_d_u_law_plain : K.lookup a_d_u_law_plain = some ⟨oc_d_u_law_plain, od_d_u_law_plain, .func (PySem.W.fnOf "_law_plain" "_law_plain" (defArgs s_d_u_law_plain) (defBody s_d_u_law_plain) (defScope s_d_u_law_plain) .none kV_d_u_law_plain dc_d_u_law_plain pm_d_u_law_plain an_d_u_law_plain cd_d_u_law_plain ct_d_u_law_plain), sl_d_u_law_plain⟩) (c_d_u_law_plain : PySem.W.codeIn K cd_d_u_law_plain "_law_plain" = true) (k_d_u_law_plain : PySem.W.keepIn K (.ref a_d_u_law_plain) = true)
    {od_d_u_law_octets an_d_u_law_octets : Option Addr} {sl_d_u_law_octets : Array (Option Value)} {oc_d_u_law_octets kV_d_u_law_octets dc_d_u_law_octets pm_d_u_law_octets cd_d_u_law_octets ct_d_u_law_octets : Value}
    (n_d_u_law_octets : PySem.W.nsIn K mainGlobals "_law_octets" = some (some (.ref a_d_u_law_octets))) (l_d_u_law_octets : K.lookup a_d_u_law_octets = some ⟨oc_d_u_law_octets, od_d_u_law_octets, .func (PySem.W.fnOf "_law_octets" "_law_octets" (defArgs s_d_u_law_octets) (defBody s_d_u_law_octets) (defScope s_d_u_law_octets) .none kV_d_u_law_octets dc_d_u_law_octets pm_d_u_law_octets an_d_u_law_octets cd_d_u_law_octets ct_d_u_law_octets), sl_d_u_law_octets⟩) (c_d_u_law_octets : PySem.W.codeIn K cd_d_u_law_octets "_law_octets" = true) (k_d_u_law_octets : PySem.W.keepIn K (.ref a_d_u_law_octets) = true)
    {od_d_u_law_number an_d_u_law_number : Option Addr} {sl_d_u_law_number : Array (Option Value)} {oc_d_u_law_number kV_d_u_law_number dc_d_u_law_number pm_d_u_law_number cd_d_u_law_number ct_d_u_law_number : Value}
    (n_d_u_law_number : PySem.W.nsIn K mainGlobals "_law_number" = some (some (.ref a_d_u_law_number))) (l_d_u_law_number : K.lookup a_d_u_law_number = some ⟨oc_d_u_law_number, od_d_u_law_number, .func (PySem.W.fnOf "_law_number" "_law_number" (defArgs s_d_u_law_number) (defBody s_d_u_law_number) (defScope s_d_u_law_number) .none kV_d_u_law_number dc_d_u_law_number pm_d_u_law_number an_d_u_law_number cd_d_u_law_number ct_d_u_law_number), sl_d_u_law_number⟩) (c_d_u_law_number : PySem.W.codeIn K cd_d_u_law_number "_law_number" = true) (k_d_u_law_number : PySem.W.keepIn K (.ref a_d_u_law_number) = true)
    {od_d_u_law_sign an_d_u_law_sign : Option Addr} {sl_d_u_law_sign : Array (Option Value)} {oc_d_u_law_sign kV_d_u_law_sign dc_d_u_law_sign pm_d_u_law_sign cd_d_u_law_sign ct_d_u_law_sign : Value}
    (n_d_u_law_sign : PySem.W.nsIn K mainGlobals "_law_sign" = some (some (.ref a_d_u_law_sign))) (l_d_u_law_sign : K.lookup a_d_u_law_sign = some ⟨oc_d_u_law_sign, od_d_u_law_sign, .func (PySem.W.fnOf "_law_sign" "_law_sign" (defArgs s_d_u_law_sign) (defBody s_d_u_law_sign) (defScope s_d_u_law_sign) .none kV_d_u_law_sign dc_d_u_law_sign pm_d_u_law_sign an_d_u_law_sign cd_d_u_law_sign ct_d_u_law_sign), sl_d_u_law_sign⟩) (c_d_u_law_sign : PySem.W.codeIn K cd_d_u_law_sign "_law_sign" = true) (k_d_u_law_sign : PySem.W.keepIn K (.ref a_d_u_law_sign) = true)
    {od_d_u_law_value_at an_d_u_law_value_at : Option Addr} {sl_d_u_law_value_at : Array (Option Value)} {oc_d_u_law_value_at kV_d_u_law_value_at dc_d_u_law_value_at pm_d_u_law_value_at cd_d_u_law_value_at ct_d_u_law_value_at : Value}
    (n_d_u_law_value_at : PySem.W.nsIn K mainGlobals "_law_value_at" = some (some (.ref a_d_u_law_value_at))) (l_d_u_law_value_at : K.lookup a_d_u_law_value_at = some ⟨oc_d_u_law_value_at, od_d_u_law_value_at, .func (PySem.W.fnOf "_law_value_at" "_law_value_at" (defArgs s_d_u_law_value_at) (defBody s_d_u_law_value_at) (defScope s_d_u_law_value_at) .none kV_d_u_law_value_at dc_d_u_law_value_at pm_d_u_law_value_at an_d_u_law_value_at cd_d_u_law_value_at ct_d_u_law_value_at), sl_d_u_law_value_at⟩) (c_d_u_law_value_at : PySem.W.codeIn K cd_d_u_law_value_at "_law_value_at" = true) (k_d_u_law_value_at : PySem.W.keepIn K (.ref a_d_u_law_value_at) = true)
    {od_d_u_law_whole an_d_u_law_whole : Option Addr} {sl_d_u_law_whole : Array (Option Value)} {oc_d_u_law_whole kV_d_u_law_whole dc_d_u_law_whole pm_d_u_law_whole cd_d_u_law_whole ct_d_u_law_whole : Value}
    (n_d_u_law_whole : PySem.W.nsIn K mainGlobals "_law_whole" = some (some (.ref a_d_u_law_whole))) (l_d_u_law_whole : K.lookup a_d_u_law_whole = some ⟨oc_d_u_law_whole, od_d_u_law_whole, .func (PySem.W.fnOf "_law_whole" "_law_whole" (defArgs s_d_u_law_whole) (defBody s_d_u_law_whole) (defScope s_d_u_law_whole) .none kV_d_u_law_whole dc_d_u_law_whole pm_d_u_law_whole an_d_u_law_whole cd_d_u_law_whole ct_d_u_law_whole), sl_d_u_law_whole⟩) (c_d_u_law_whole : PySem.W.codeIn K cd_d_u_law_whole "_law_whole" = true) (k_d_u_law_whole : PySem.W.keepIn K (.ref a_d_u_law_whole) = true)
    {od_d_u_law_spoilt an_d_u_law_spoilt : Option Addr} {sl_d_u_law_spoilt : Array (Option Value)} {oc_d_u_law_spoilt kV_d_u_law_spoilt dc_d_u_law_spoilt pm_d_u_law_spoilt cd_d_u_law_spoilt ct_d_u_law_spoilt : Value}
    (n_d_u_law_spoilt : PySem.W.nsIn K mainGlobals "_law_spoilt" = some (some (.ref a_d_u_law_spoilt))) (l_d_u_law_spoilt : K.lookup a_d_u_law_spoilt = some ⟨oc_d_u_law_spoilt, od_d_u_law_spoilt, .func (PySem.W.fnOf "_law_spoilt" "_law_spoilt" (defArgs s_d_u_law_spoilt) (defBody s_d_u_law_spoilt) (defScope s_d_u_law_spoilt) .none kV_d_u_law_spoilt dc_d_u_law_spoilt pm_d_u_law_spoilt an_d_u_law_spoilt cd_d_u_law_spoilt ct_d_u_law_spoilt), sl_d_u_law_spoilt⟩) (c_d_u_law_spoilt : PySem.W.codeIn K cd_d_u_law_spoilt "_law_spoilt" = true) (k_d_u_law_spoilt : PySem.W.keepIn K (.ref a_d_u_law_spoilt) = true)
    {od_d_u_digits an_d_u_digits : Option Addr} {sl_d_u_digits : Array (Option Value)} {oc_d_u_digits kV_d_u_digits dc_d_u_digits pm_d_u_digits cd_d_u_digits ct_d_u_digits : Value}
    (n_d_u_digits : PySem.W.nsIn K mainGlobals "_digits" = some (some (.ref a_d_u_digits))) (l_d_u_digits : K.lookup a_d_u_digits = some ⟨oc_d_u_digits, od_d_u_digits, .func (PySem.W.fnOf "_digits" "_digits" (defArgs s_d_u_digits) (defBody s_d_u_digits) (defScope s_d_u_digits) .none kV_d_u_digits dc_d_u_digits pm_d_u_digits an_d_u_digits cd_d_u_digits ct_d_u_digits), sl_d_u_digits⟩) (c_d_u_digits : PySem.W.codeIn K cd_d_u_digits "_digits" = true) (k_d_u_digits : PySem.W.keepIn K (.ref a_d_u_digits) = true)
    {od_d_u_sign an_d_u_sign : Option Addr} {sl_d_u_sign : Array (Option Value)} {oc_d_u_sign kV_d_u_sign dc_d_u_sign pm_d_u_sign cd_d_u_sign ct_d_u_sign : Value}
    (n_d_u_sign : PySem.W.nsIn K mainGlobals "_sign" = some (some (.ref a_d_u_sign))) (l_d_u_sign : K.lookup a_d_u_sign = some ⟨oc_d_u_sign, od_d_u_sign, .func (PySem.W.fnOf "_sign" "_sign" (defArgs s_d_u_sign) (defBody s_d_u_sign) (defScope s_d_u_sign) .none kV_d_u_sign dc_d_u_sign pm_d_u_sign an_d_u_sign cd_d_u_sign ct_d_u_sign), sl_d_u_sign⟩) (c_d_u_sign : PySem.W.codeIn K cd_d_u_sign "_sign" = true) (k_d_u_sign : PySem.W.keepIn K (.ref a_d_u_sign) = true)
    {od_d_u_written an_d_u_written : Option Addr} {sl_d_u_written : Array (Option Value)} {oc_d_u_written kV_d_u_written dc_d_u_written pm_d_u_written cd_d_u_written ct_d_u_written : Value}
    (n_d_u_written : PySem.W.nsIn K mainGlobals "_written" = some (some (.ref a_d_u_written))) (l_d_u_written : K.lookup a_d_u_written = some ⟨oc_d_u_written, od_d_u_written, .func (PySem.W.fnOf "_written" "_written" (defArgs s_d_u_written) (defBody s_d_u_written) (defScope s_d_u_written) .none kV_d_u_written dc_d_u_written pm_d_u_written an_d_u_written cd_d_u_written ct_d_u_written), sl_d_u_written⟩) (c_d_u_written : PySem.W.codeIn K cd_d_u_written "_written" = true) (k_d_u_written : PySem.W.keepIn K (.ref a_d_u_written) = true)
    {od_d_written an_d_written : Option Addr} {sl_d_written : Array (Option Value)} {oc_d_written kV_d_written dc_d_written pm_d_written cd_d_written ct_d_written : Value}
    (n_d_written : PySem.W.nsIn K mainGlobals "written" = some (some (.ref a_d_written))) (l_d_written : K.lookup a_d_written = some ⟨oc_d_written, od_d_written, .func (PySem.W.fnOf "written" "written" (defArgs s_d_written) (defBody s_d_written) (defScope s_d_written) .none kV_d_written dc_d_written pm_d_written an_d_written cd_d_written ct_d_written), sl_d_written⟩) (c_d_written : PySem.W.codeIn K cd_d_written "written" = true) (k_d_written : PySem.W.keepIn K (.ref a_d_written) = true)
    {od_d_u_law_refused an_d_u_law_refused : Option Addr} {sl_d_u_law_refused : Array (Option Value)} {oc_d_u_law_refused kV_d_u_law_refused dc_d_u_law_refused pm_d_u_law_refused cd_d_u_law_refused ct_d_u_law_refused : Value}
    (n_d_u_law_refused : PySem.W.nsIn K mainGlobals "_law_refused" = some (some (.ref a_d_u_law_refused))) (l_d_u_law_refused : K.lookup a_d_u_law_refused = some ⟨oc_d_u_law_refused, od_d_u_law_refused, .func (PySem.W.fnOf "_law_refused" "_law_refused" (defArgs s_d_u_law_refused) (defBody s_d_u_law_refused) (defScope s_d_u_law_refused) .none kV_d_u_law_refused dc_d_u_law_refused pm_d_u_law_refused an_d_u_law_refused cd_d_u_law_refused ct_d_u_law_refused), sl_d_u_law_refused⟩) (c_d_u_law_refused : PySem.W.codeIn K cd_d_u_law_refused "_law_refused" = true) (k_d_u_law_refused : PySem.W.keepIn K (.ref a_d_u_law_refused) = true)
    {od_d_u_number an_d_u_number : Option Addr} {sl_d_u_number : Array (Option Value)} {oc_d_u_number kV_d_u_number dc_d_u_number pm_d_u_number cd_d_u_number ct_d_u_number : Value}
    (n_d_u_number : PySem.W.nsIn K mainGlobals "_number" = some (some (.ref a_d_u_number))) (l_d_u_number : K.lookup a_d_u_number = some ⟨oc_d_u_number, od_d_u_number, .func (PySem.W.fnOf "_number" "_number" (defArgs s_d_u_number) (defBody s_d_u_number) (defScope s_d_u_number) .none kV_d_u_number dc_d_u_number pm_d_u_number an_d_u_number cd_d_u_number ct_d_u_number), sl_d_u_number⟩) (c_d_u_number : PySem.W.codeIn K cd_d_u_number "_number" = true) (k_d_u_number : PySem.W.keepIn K (.ref a_d_u_number) = true)
    {od_d_u_whole an_d_u_whole : Option Addr} {sl_d_u_whole : Array (Option Value)} {oc_d_u_whole kV_d_u_whole dc_d_u_whole pm_d_u_whole cd_d_u_whole ct_d_u_whole : Value}
    (n_d_u_whole : PySem.W.nsIn K mainGlobals "_whole" = some (some (.ref a_d_u_whole))) (l_d_u_whole : K.lookup a_d_u_whole = some ⟨oc_d_u_whole, od_d_u_whole, .func (PySem.W.fnOf "_whole" "_whole" (defArgs s_d_u_whole) (defBody s_d_u_whole) (defScope s_d_u_whole) .none kV_d_u_whole dc_d_u_whole pm_d_u_whole an_d_u_whole cd_d_u_whole ct_d_u_whole), sl_d_u_whole⟩) (c_d_u_whole : PySem.W.codeIn K cd_d_u_whole "_whole" = true) (k_d_u_whole : PySem.W.keepIn K (.ref a_d_u_whole) = true)
    {od_d_u_read an_d_u_read : Option Addr} {sl_d_u_read : Array (Option Value)} {oc_d_u_read kV_d_u_read dc_d_u_read pm_d_u_read cd_d_u_read ct_d_u_read : Value}
    (n_d_u_read : PySem.W.nsIn K mainGlobals "_read" = some (some (.ref a_d_u_read))) (l_d_u_read : K.lookup a_d_u_read = some ⟨oc_d_u_read, od_d_u_read, .func (PySem.W.fnOf "_read" "_read" (defArgs s_d_u_read) (defBody s_d_u_read) (defScope s_d_u_read) .none kV_d_u_read dc_d_u_read pm_d_u_read an_d_u_read cd_d_u_read ct_d_u_read), sl_d_u_read⟩) (c_d_u_read : PySem.W.codeIn K cd_d_u_read "_read" = true) (k_d_u_read : PySem.W.keepIn K (.ref a_d_u_read) = true)
    {od_d_read an_d_read : Option Addr} {sl_d_read : Array (Option Value)} {oc_d_read kV_d_read dc_d_read pm_d_read cd_d_read ct_d_read : Value}
    (n_d_read : PySem.W.nsIn K mainGlobals "read" = some (some (.ref a_d_read))) (l_d_read : K.lookup a_d_read = some ⟨oc_d_read, od_d_read, .func (PySem.W.fnOf "read" "read" (defArgs s_d_read) (defBody s_d_read) (defScope s_d_read) .none kV_d_read dc_d_read pm_d_read an_d_read cd_d_read ct_d_read), sl_d_read⟩) (c_d_read : PySem.W.codeIn K cd_d_read "read" = true) (k_d_read : PySem.W.keepIn K (.ref a_d_read) = true)
    {od_d_u_law_told an_d_u_law_told : Option Addr} {sl_d_u_law_told : Array (Option Value)} {oc_d_u_law_told kV_d_u_law_told dc_d_u_law_told pm_d_u_law_told cd_d_u_law_told ct_d_u_law_told : Value}
    (n_d_u_law_told : PySem.W.nsIn K mainGlobals "_law_told" = some (some (.ref a_d_u_law_told))) (l_d_u_law_told : K.lookup a_d_u_law_told = some ⟨oc_d_u_law_told, od_d_u_law_told, .func (PySem.W.fnOf "_law_told" "_law_told" (defArgs s_d_u_law_told) (defBody s_d_u_law_told) (defScope s_d_u_law_told) .none kV_d_u_law_told dc_d_u_law_told pm_d_u_law_told an_d_u_law_told cd_d_u_law_told ct_d_u_law_told), sl_d_u_law_told⟩) (c_d_u_law_told : PySem.W.codeIn K cd_d_u_law_told "_law_told" = true) (k_d_u_law_told : PySem.W.keepIn K (.ref a_d_u_law_told) = true)
    {od_d_law an_d_law : Option Addr} {sl_d_law : Array (Option Value)} {oc_d_law kV_d_law dc_d_law pm_d_law cd_d_law ct_d_law : Value}
    (n_d_law : PySem.W.nsIn K mainGlobals "law" = some (some (.ref a_d_law))) (l_d_law : K.lookup a_d_law = some ⟨oc_d_law, od_d_law, .func (PySem.W.fnOf "law" "law" (defArgs s_d_law) (defBody s_d_law) (defScope s_d_law) .none kV_d_law dc_d_law pm_d_law an_d_law cd_d_law ct_d_law), sl_d_law⟩) (c_d_law : PySem.W.codeIn K cd_d_law "law" = true) (k_d_law : PySem.W.keepIn K (.ref a_d_law) = true)
    (x_n : PySem.W.nsIn K mainGlobals "BadForm" = some (some (.ref a_XC))) (x_k : PySem.W.keepIn K (.ref a_XC) = true) (x_e : PySem.W.excIn K a_XC [.type "ValueError", .type "Exception", .type "BaseException", .type "object"] "ValueError.__new__" = true)
    (x_s : PySem.W.subIn K (.ref a_XC) (.type "BaseException") = some true) (x_t : PySem.W.typeIn K (.ref a_XC) = some (.type "type")) (x_i : PySem.W.isClsIn K a_XC = true) (x_o : PySem.W.subIn K (.ref a_XC) (.ref a_XC) = some true)
    {t_DEEPEST : Tok} (g_DEEPEST : PySem.W.nsIn K mainGlobals "DEEPEST" = some (some (.int 400 t_DEEPEST)))
    {t_HIGH : Tok} (g_HIGH : PySem.W.nsIn K mainGlobals "HIGH" = some (some (.str "&'()*+,-./0123456789:;<=>?@ABCDEFGHIJKLMNOPQRSTUVWXYZ[\\]^_`abcdefghijklmnopqrstuvwxyz{|}~" t_HIGH)))
    {t_LOW : Tok} (g_LOW : PySem.W.nsIn K mainGlobals "LOW" = some (some (.str " !\"#$" t_LOW)))
    (z_abs : PySem.W.nsIn K mainGlobals "abs" = some none)
    (z_bool : PySem.W.nsIn K mainGlobals "bool" = some none)
    (z_int : PySem.W.nsIn K mainGlobals "int" = some none)
    (z_isinstance : PySem.W.nsIn K mainGlobals "isinstance" = some none)
    (z_len : PySem.W.nsIn K mainGlobals "len" = some none)
    (z_ord : PySem.W.nsIn K mainGlobals "ord" = some none)
    (z_range : PySem.W.nsIn K mainGlobals "range" = some none)
    (z_repr : PySem.W.nsIn K mainGlobals "repr" = some none)
    (z_str : PySem.W.nsIn K mainGlobals "str" = some none)
    (z_tuple : PySem.W.nsIn K mainGlobals "tuple" = some none)
    : ∃ fd : FuncData, (∀ (s : Shared) (v : Value), BindsTo s fd ⟨[v], []⟩ [("script", v)]) ∧ ∀ (P : Program) (base : Heap), FnX P w K mg base CX0 (Rm 602) fa fd ["script"] (spP K f_d_law) := by
  have e := hfa.symm.trans (PySem.W.mg_of X G n_d_law)
  have ef : a_d_law = fa := by cases e; rfl
  subst ef
  have T : Blt mg := ⟨PySem.W.mg_none_of X G z_abs, PySem.W.mg_none_of X G z_bool, PySem.W.mg_none_of X G z_int, PySem.W.mg_none_of X G z_isinstance, PySem.W.mg_none_of X G z_len, PySem.W.mg_none_of X G z_ord, PySem.W.mg_none_of X G z_range, PySem.W.mg_none_of X G z_repr, PySem.W.mg_none_of X G z_str, PySem.W.mg_none_of X G z_tuple, ⟨_, PySem.W.mg_of X G g_DEEPEST⟩, ⟨_, PySem.W.mg_of X G g_HIGH⟩, ⟨_, PySem.W.mg_of X G g_LOW⟩⟩
  have XC : XCls K mg "BadForm" a_XC := ⟨PySem.W.mg_of X G x_n, x_k, ⟨_, _, _, _, PySem.F.excBase_ValueError, x_e⟩, x_s, x_t, own_exm x_s x_i x_t x_o⟩
  have F_d_u_law_box := fun_mk (st := s_d_u_law_box) l_d_u_law_box c_d_u_law_box k_d_u_law_box
  have D_d_u_law_box : Def1 K mg "_law_box" s_d_u_law_box ["script"] a_d_u_law_box _ := ⟨F_d_u_law_box, PySem.W.mg_of X G n_d_u_law_box, k_d_u_law_box, F_d_u_law_box.binds (ps := ["script"]) fun _ _ _ _ _ _ us hl => match us, hl with | [_], _ => rfl⟩
  have F_d_u_law_take := fun_mk (st := s_d_u_law_take) l_d_u_law_take c_d_u_law_take k_d_u_law_take
  have D_d_u_law_take : Def1 K mg "_law_take" s_d_u_law_take ["box", "m"] a_d_u_law_take _ := ⟨F_d_u_law_take, PySem.W.mg_of X G n_d_u_law_take, k_d_u_law_take, F_d_u_law_take.binds (ps := ["box", "m"]) fun _ _ _ _ _ _ us hl => match us, hl with | [_, _], _ => rfl⟩
  have F_d_u_law_pick := fun_mk (st := s_d_u_law_pick) l_d_u_law_pick c_d_u_law_pick k_d_u_law_pick
  have D_d_u_law_pick : Def1 K mg "_law_pick" s_d_u_law_pick ["box", "menu"] a_d_u_law_pick _ := ⟨F_d_u_law_pick, PySem.W.mg_of X G n_d_u_law_pick, k_d_u_law_pick, F_d_u_law_pick.binds (ps := ["box", "menu"]) fun _ _ _ _ _ _ us hl => match us, hl with | [_, _], _ => rfl⟩
  have F_d_u_law_plain := fun_mk (st := s_d_u_law_plain) l_d_u_law_plain c_d_u_law_plain k_d_u_law_plain
  have D_d_u_law_plain : Def1 K mg "_law_plain" s_d_u_law_plain ["box", "deep"] a_d_u_law_plain _ := ⟨F_d_u_law_plain, PySem.W.mg_of X G n_d_u_law_plain, k_d_u_law_plain, F_d_u_law_plain.binds (ps := ["box", "deep"]) fun _ _ _ _ _ _ us hl => match us, hl with | [_, _], _ => rfl⟩
  have F_d_u_law_octets := fun_mk (st := s_d_u_law_octets) l_d_u_law_octets c_d_u_law_octets k_d_u_law_octets
  have D_d_u_law_octets : Def1 K mg "_law_octets" s_d_u_law_octets ["value"] a_d_u_law_octets _ := ⟨F_d_u_law_octets, PySem.W.mg_of X G n_d_u_law_octets, k_d_u_law_octets, F_d_u_law_octets.binds (ps := ["value"]) fun _ _ _ _ _ _ us hl => match us, hl with | [_], _ => rfl⟩
  have F_d_u_law_number := fun_mk (st := s_d_u_law_number) l_d_u_law_number c_d_u_law_number k_d_u_law_number
  have D_d_u_law_number : Def1 K mg "_law_number" s_d_u_law_number ["octets", "at", "end"] a_d_u_law_number _ := ⟨F_d_u_law_number, PySem.W.mg_of X G n_d_u_law_number, k_d_u_law_number, F_d_u_law_number.binds (ps := ["octets", "at", "end"]) fun _ _ _ _ _ _ us hl => match us, hl with | [_, _, _], _ => rfl⟩
  have F_d_u_law_sign := fun_mk (st := s_d_u_law_sign) l_d_u_law_sign c_d_u_law_sign k_d_u_law_sign
  have D_d_u_law_sign : Def1 K mg "_law_sign" s_d_u_law_sign ["code"] a_d_u_law_sign _ := ⟨F_d_u_law_sign, PySem.W.mg_of X G n_d_u_law_sign, k_d_u_law_sign, F_d_u_law_sign.binds (ps := ["code"]) fun _ _ _ _ _ _ us hl => match us, hl with | [_], _ => rfl⟩
  have F_d_u_law_value_at := fun_mk (st := s_d_u_law_value_at) l_d_u_law_value_at c_d_u_law_value_at k_d_u_law_value_at
  have D_d_u_law_value_at : Def1 K mg "_law_value_at" s_d_u_law_value_at ["octets", "at", "deep"] a_d_u_law_value_at _ := ⟨F_d_u_law_value_at, PySem.W.mg_of X G n_d_u_law_value_at, k_d_u_law_value_at, F_d_u_law_value_at.binds (ps := ["octets", "at", "deep"]) fun _ _ _ _ _ _ us hl => match us, hl with | [_, _, _], _ => rfl⟩
  have F_d_u_law_whole := fun_mk (st := s_d_u_law_whole) l_d_u_law_whole c_d_u_law_whole k_d_u_law_whole
  have D_d_u_law_whole : Def1 K mg "_law_whole" s_d_u_law_whole ["octets"] a_d_u_law_whole _ := ⟨F_d_u_law_whole, PySem.W.mg_of X G n_d_u_law_whole, k_d_u_law_whole, F_d_u_law_whole.binds (ps := ["octets"]) fun _ _ _ _ _ _ us hl => match us, hl with | [_], _ => rfl⟩
  have F_d_u_law_spoilt := fun_mk (st := s_d_u_law_spoilt) l_d_u_law_spoilt c_d_u_law_spoilt k_d_u_law_spoilt
  have D_d_u_law_spoilt : Def1 K mg "_law_spoilt" s_d_u_law_spoilt ["box", "octets"] a_d_u_law_spoilt _ := ⟨F_d_u_law_spoilt, PySem.W.mg_of X G n_d_u_law_spoilt, k_d_u_law_spoilt, F_d_u_law_spoilt.binds (ps := ["box", "octets"]) fun _ _ _ _ _ _ us hl => match us, hl with | [_, _], _ => rfl⟩
  have F_d_u_digits := fun_mk (st := s_d_u_digits) l_d_u_digits c_d_u_digits k_d_u_digits
  have D_d_u_digits : Def1 K mg "_digits" s_d_u_digits ["number"] a_d_u_digits _ := ⟨F_d_u_digits, PySem.W.mg_of X G n_d_u_digits, k_d_u_digits, F_d_u_digits.binds (ps := ["number"]) fun _ _ _ _ _ _ us hl => match us, hl with | [_], _ => rfl⟩
  have F_d_u_sign := fun_mk (st := s_d_u_sign) l_d_u_sign c_d_u_sign k_d_u_sign
  have D_d_u_sign : Def1 K mg "_sign" s_d_u_sign ["code"] a_d_u_sign _ := ⟨F_d_u_sign, PySem.W.mg_of X G n_d_u_sign, k_d_u_sign, F_d_u_sign.binds (ps := ["code"]) fun _ _ _ _ _ _ us hl => match us, hl with | [_], _ => rfl⟩
  have F_d_u_written := fun_mk (st := s_d_u_written) l_d_u_written c_d_u_written k_d_u_written
  have D_d_u_written : Def1 K mg "_written" s_d_u_written ["value", "deep"] a_d_u_written _ := ⟨F_d_u_written, PySem.W.mg_of X G n_d_u_written, k_d_u_written, F_d_u_written.binds (ps := ["value", "deep"]) fun _ _ _ _ _ _ us hl => match us, hl with | [_, _], _ => rfl⟩
  have F_d_written := fun_mk (st := s_d_written) l_d_written c_d_written k_d_written
  have D_d_written : Def1 K mg "written" s_d_written ["value"] a_d_written _ := ⟨F_d_written, PySem.W.mg_of X G n_d_written, k_d_written, F_d_written.binds (ps := ["value"]) fun _ _ _ _ _ _ us hl => match us, hl with | [_], _ => rfl⟩
  have F_d_u_law_refused := fun_mk (st := s_d_u_law_refused) l_d_u_law_refused c_d_u_law_refused k_d_u_law_refused
  have D_d_u_law_refused : Def1 K mg "_law_refused" s_d_u_law_refused ["value"] a_d_u_law_refused _ := ⟨F_d_u_law_refused, PySem.W.mg_of X G n_d_u_law_refused, k_d_u_law_refused, F_d_u_law_refused.binds (ps := ["value"]) fun _ _ _ _ _ _ us hl => match us, hl with | [_], _ => rfl⟩
  have F_d_u_number := fun_mk (st := s_d_u_number) l_d_u_number c_d_u_number k_d_u_number
  have D_d_u_number : Def1 K mg "_number" s_d_u_number ["octets", "at", "end"] a_d_u_number _ := ⟨F_d_u_number, PySem.W.mg_of X G n_d_u_number, k_d_u_number, F_d_u_number.binds (ps := ["octets", "at", "end"]) fun _ _ _ _ _ _ us hl => match us, hl with | [_, _, _], _ => rfl⟩
  have F_d_u_whole := fun_mk (st := s_d_u_whole) l_d_u_whole c_d_u_whole k_d_u_whole
  have D_d_u_whole : Def1 K mg "_whole" s_d_u_whole ["octets", "at"] a_d_u_whole _ := ⟨F_d_u_whole, PySem.W.mg_of X G n_d_u_whole, k_d_u_whole, F_d_u_whole.binds (ps := ["octets", "at"]) fun _ _ _ _ _ _ us hl => match us, hl with | [_, _], _ => rfl⟩
  have F_d_u_read := fun_mk (st := s_d_u_read) l_d_u_read c_d_u_read k_d_u_read
  have D_d_u_read : Def1 K mg "_read" s_d_u_read ["octets", "at", "deep"] a_d_u_read _ := ⟨F_d_u_read, PySem.W.mg_of X G n_d_u_read, k_d_u_read, F_d_u_read.binds (ps := ["octets", "at", "deep"]) fun _ _ _ _ _ _ us hl => match us, hl with | [_, _, _], _ => rfl⟩
  have F_d_read := fun_mk (st := s_d_read) l_d_read c_d_read k_d_read
  have D_d_read : Def1 K mg "read" s_d_read ["octets"] a_d_read _ := ⟨F_d_read, PySem.W.mg_of X G n_d_read, k_d_read, F_d_read.binds (ps := ["octets"]) fun _ _ _ _ _ _ us hl => match us, hl with | [_], _ => rfl⟩
  have F_d_u_law_told := fun_mk (st := s_d_u_law_told) l_d_u_law_told c_d_u_law_told k_d_u_law_told
  have D_d_u_law_told : Def1 K mg "_law_told" s_d_u_law_told ["octets"] a_d_u_law_told _ := ⟨F_d_u_law_told, PySem.W.mg_of X G n_d_u_law_told, k_d_u_law_told, F_d_u_law_told.binds (ps := ["octets"]) fun _ _ _ _ _ _ us hl => match us, hl with | [_], _ => rfl⟩
  have F_d_law := fun_mk (st := s_d_law) l_d_law c_d_law k_d_law
  have D_d_law : Def1 K mg "law" s_d_law ["script"] a_d_law _ := ⟨F_d_law, PySem.W.mg_of X G n_d_law, k_d_law, F_d_law.binds (ps := ["script"]) fun _ _ _ _ _ _ us hl => match us, hl with | [_], _ => rfl⟩
  refine ⟨PySem.W.fnOf "law" "law" (defArgs s_d_law) (defBody s_d_law) (defScope s_d_law) .none kV_d_law dc_d_law pm_d_law an_d_law cd_d_law ct_d_law, fun s v => .of_eq rfl, fun P base => ?_⟩
  have C_d_u_law_box := ok_d_u_law_box (C := a_XC) (P := P) (w := w) (base := base) D_d_u_law_box T XC 
  have C_d_u_law_take := ok_d_u_law_take (C := a_XC) (P := P) (w := w) (base := base) D_d_u_law_take T XC 
  have C_d_u_law_pick := ok_d_u_law_pick (C := a_XC) (P := P) (w := w) (base := base) D_d_u_law_pick T XC C_d_u_law_take
  have C_d_u_law_plain := ok_d_u_law_plain (C := a_XC) (P := P) (w := w) (base := base) D_d_u_law_plain T XC C_d_u_law_take C_d_u_law_pick 5
  have C_d_u_law_octets := ok_d_u_law_octets (C := a_XC) (P := P) (w := w) (base := base) D_d_u_law_octets T XC  600
  have C_d_u_law_number := ok_d_u_law_number (C := a_XC) (P := P) (w := w) (base := base) D_d_u_law_number T XC 
  have C_d_u_law_sign := ok_d_u_law_sign (C := a_XC) (P := P) (w := w) (base := base) D_d_u_law_sign T XC 
  have C_d_u_law_value_at := ok_d_u_law_value_at (C := a_XC) (P := P) (w := w) (base := base) D_d_u_law_value_at T XC C_d_u_law_number C_d_u_law_sign 420
  have C_d_u_law_whole := ok_d_u_law_whole (C := a_XC) (P := P) (w := w) (base := base) D_d_u_law_whole T XC C_d_u_law_value_at
  have C_d_u_law_spoilt := ok_d_u_law_spoilt (C := a_XC) (P := P) (w := w) (base := base) D_d_u_law_spoilt T XC C_d_u_law_pick C_d_u_law_take C_d_u_law_octets C_d_u_law_plain
  have C_d_u_digits := ok_d_u_digits (C := a_XC) (P := P) (w := w) (base := base) D_d_u_digits T XC 
  have C_d_u_sign := ok_d_u_sign (C := a_XC) (P := P) (w := w) (base := base) D_d_u_sign T XC 
  have C_d_u_written := ok_d_u_written (C := a_XC) (P := P) (w := w) (base := base) D_d_u_written T XC C_d_u_digits C_d_u_sign 420
  have C_d_written := ok_d_written (C := a_XC) (P := P) (w := w) (base := base) D_d_written T XC C_d_u_written
  have C_d_u_law_refused := ok_d_u_law_refused (C := a_XC) (P := P) (w := w) (base := base) D_d_u_law_refused T XC C_d_written
  have C_d_u_number := ok_d_u_number (C := a_XC) (P := P) (w := w) (base := base) D_d_u_number T XC 
  have C_d_u_whole := ok_d_u_whole (C := a_XC) (P := P) (w := w) (base := base) D_d_u_whole T XC C_d_u_number
  have C_d_u_read := ok_d_u_read (C := a_XC) (P := P) (w := w) (base := base) D_d_u_read T XC C_d_u_whole C_d_u_number C_d_u_sign 420
  have C_d_read := ok_d_read (C := a_XC) (P := P) (w := w) (base := base) D_d_read T XC C_d_u_read
  have C_d_u_law_told := ok_d_u_law_told (C := a_XC) (P := P) (w := w) (base := base) D_d_u_law_told T XC C_d_read
  exact ok_d_law (P := P) (w := w) (base := base) D_d_law T XC C_d_u_law_box C_d_u_law_plain C_d_u_law_pick C_d_u_law_octets C_d_u_law_whole C_d_u_law_spoilt C_d_u_law_refused C_d_u_law_take C_d_u_law_told C_d_written C_d_read
end K27
namespace K27
open PySem L2 Dat
theorem le_bigN {n : Nat} (h : n ≤ 100000) : n ≤ BIG := Nat.le_trans h (by decide)
theorem shaped_int (i : Int) : SeqAt.shaped (.int i) = true := rfl
theorem shaped_bool (i : Bool) : SeqAt.shaped (.bool i) = true := rfl
/-- a box -/
def Box (o : O) : Prop := ∃ (v n a : Int) (cs : List Int), 0 ≤ a ∧ o = .lst [.int v, .int n, .int a, .list (cs.map .int)]
def TakeGood (m : Int) (p : Option (D × O)) : Prop := ∃ (r : Int) (o' : O), p = some (.int r, o') ∧ Box o' ∧ 0 ≤ r ∧ r < m
theorem take_good {o : O} (h : Box o) {m : Int} (h0 : 0 < m) (hm : m < 1073741824) : ∀ p, f_d_u_law_take o [.int m] = p → TakeGood m p := by
  obtain ⟨v, n, a, cs, ha, rfl⟩ := h
  have md : ∀ x : Int, 0 ≤ x % m ∧ x % m < m := fun x => ⟨Int.emod_nonneg _ (by omega), Int.emod_lt_of_pos _ h0⟩
  intro p e
  by_cases hn : n = 0
  · subst hn
    by_cases hl : a < cs.length
    · have hi : a.toNat < cs.length := by omega
      by_cases hc : (1000000000000000000 : Int) ≤ cs[a.toNat]
      · by_cases hq : 0 < cs[a.toNat] / m
        · simp [f_d_u_law_take, m_d_u_law_take, runP, runB, runO, mSeq, mIfS, mThen, mAsB, mOp2, mBind, mVar, mC, mRet, mLift, mTup, mLst, mCons, mNil, mkSeq, frcs, app2, rdD, fIx, atI, ixN, fEq, fNe, asB, tru, truD, mTru, mNot, mAnd, mOr, fGt, fLt, fLe, fGe, fInt2, mAsg, frc, asgS, asgD_np, asgO_np, npAt, np_un, np_dat, np_own, newL, mNewL, mAppend, pushL, fTupleOf, mSeqT, mSeqL, seqT, seqL, stepS, stepC, wipeS, mOp1, app1, fIntOf, fAbs, fLen, fNeg, fMod, fMul, mulOk, fDiv, fPow, fSub, fPlus, fP1, fP2, fAdd, fAddS, fAddT, fAddL, mSetItem, isOL, asI, ownL, setL, mIf, mRetS, retD, mSkip, mCont, mBrk, mCall, appF, mCallB, appB, shaped_int, shaped_bool, PyData.eqv, BIG, ↓reduceIte, ha, hl, hi, hc, hq, h0, hm] at e
          subst e
          exact ⟨_, _, rfl, ⟨_, _, _, cs, by omega, rfl⟩, md _⟩
        · simp [f_d_u_law_take, m_d_u_law_take, runP, runB, runO, mSeq, mIfS, mThen, mAsB, mOp2, mBind, mVar, mC, mRet, mLift, mTup, mLst, mCons, mNil, mkSeq, frcs, app2, rdD, fIx, atI, ixN, fEq, fNe, asB, tru, truD, mTru, mNot, mAnd, mOr, fGt, fLt, fLe, fGe, fInt2, mAsg, frc, asgS, asgD_np, asgO_np, npAt, np_un, np_dat, np_own, newL, mNewL, mAppend, pushL, fTupleOf, mSeqT, mSeqL, seqT, seqL, stepS, stepC, wipeS, mOp1, app1, fIntOf, fAbs, fLen, fNeg, fMod, fMul, mulOk, fDiv, fPow, fSub, fPlus, fP1, fP2, fAdd, fAddS, fAddT, fAddL, mSetItem, isOL, asI, ownL, setL, mIf, mRetS, retD, mSkip, mCont, mBrk, mCall, appF, mCallB, appB, shaped_int, shaped_bool, PyData.eqv, BIG, ↓reduceIte, ha, hl, hi, hc, hq, h0, hm] at e
          subst e
          exact ⟨_, _, rfl, ⟨_, _, _, cs, by omega, rfl⟩, md _⟩
      · simp [f_d_u_law_take, m_d_u_law_take, runP, runB, runO, mSeq, mIfS, mThen, mAsB, mOp2, mBind, mVar, mC, mRet, mLift, mTup, mLst, mCons, mNil, mkSeq, frcs, app2, rdD, fIx, atI, ixN, fEq, fNe, asB, tru, truD, mTru, mNot, mAnd, mOr, fGt, fLt, fLe, fGe, fInt2, mAsg, frc, asgS, asgD_np, asgO_np, npAt, np_un, np_dat, np_own, newL, mNewL, mAppend, pushL, fTupleOf, mSeqT, mSeqL, seqT, seqL, stepS, stepC, wipeS, mOp1, app1, fIntOf, fAbs, fLen, fNeg, fMod, fMul, mulOk, fDiv, fPow, fSub, fPlus, fP1, fP2, fAdd, fAddS, fAddT, fAddL, mSetItem, isOL, asI, ownL, setL, mIf, mRetS, retD, mSkip, mCont, mBrk, mCall, appF, mCallB, appB, shaped_int, shaped_bool, PyData.eqv, BIG, ↓reduceIte, ha, hl, hi, hc, h0, hm] at e
        subst e
        exact ⟨_, _, rfl, ⟨_, _, _, cs, by omega, rfl⟩, md _⟩
    · simp [f_d_u_law_take, m_d_u_law_take, runP, runB, runO, mSeq, mIfS, mThen, mAsB, mOp2, mBind, mVar, mC, mRet, mLift, mTup, mLst, mCons, mNil, mkSeq, frcs, app2, rdD, fIx, atI, ixN, fEq, fNe, asB, tru, truD, mTru, mNot, mAnd, mOr, fGt, fLt, fLe, fGe, fInt2, mAsg, frc, asgS, asgD_np, asgO_np, npAt, np_un, np_dat, np_own, newL, mNewL, mAppend, pushL, fTupleOf, mSeqT, mSeqL, seqT, seqL, stepS, stepC, wipeS, mOp1, app1, fIntOf, fAbs, fLen, fNeg, fMod, fMul, mulOk, fDiv, fPow, fSub, fPlus, fP1, fP2, fAdd, fAddS, fAddT, fAddL, mSetItem, isOL, asI, ownL, setL, mIf, mRetS, retD, mSkip, mCont, mBrk, mCall, appF, mCallB, appB, shaped_int, shaped_bool, PyData.eqv, BIG, ↓reduceIte, ha, hl, h0, hm] at e
      subst e
      exact ⟨_, _, rfl, ⟨_, _, _, cs, by omega, rfl⟩, by omega, by omega⟩
  · by_cases hp : 0 < n
    · by_cases hq : 0 < v / m
      · simp [f_d_u_law_take, m_d_u_law_take, runP, runB, runO, mSeq, mIfS, mThen, mAsB, mOp2, mBind, mVar, mC, mRet, mLift, mTup, mLst, mCons, mNil, mkSeq, frcs, app2, rdD, fIx, atI, ixN, fEq, fNe, asB, tru, truD, mTru, mNot, mAnd, mOr, fGt, fLt, fLe, fGe, fInt2, mAsg, frc, asgS, asgD_np, asgO_np, npAt, np_un, np_dat, np_own, newL, mNewL, mAppend, pushL, fTupleOf, mSeqT, mSeqL, seqT, seqL, stepS, stepC, wipeS, mOp1, app1, fIntOf, fAbs, fLen, fNeg, fMod, fMul, mulOk, fDiv, fPow, fSub, fPlus, fP1, fP2, fAdd, fAddS, fAddT, fAddL, mSetItem, isOL, asI, ownL, setL, mIf, mRetS, retD, mSkip, mCont, mBrk, mCall, appF, mCallB, appB, shaped_int, shaped_bool, PyData.eqv, BIG, ↓reduceIte, hn, hp, hq, h0, hm] at e
        subst e
        exact ⟨_, _, rfl, ⟨_, _, _, cs, ha, rfl⟩, md _⟩
      · simp [f_d_u_law_take, m_d_u_law_take, runP, runB, runO, mSeq, mIfS, mThen, mAsB, mOp2, mBind, mVar, mC, mRet, mLift, mTup, mLst, mCons, mNil, mkSeq, frcs, app2, rdD, fIx, atI, ixN, fEq, fNe, asB, tru, truD, mTru, mNot, mAnd, mOr, fGt, fLt, fLe, fGe, fInt2, mAsg, frc, asgS, asgD_np, asgO_np, npAt, np_un, np_dat, np_own, newL, mNewL, mAppend, pushL, fTupleOf, mSeqT, mSeqL, seqT, seqL, stepS, stepC, wipeS, mOp1, app1, fIntOf, fAbs, fLen, fNeg, fMod, fMul, mulOk, fDiv, fPow, fSub, fPlus, fP1, fP2, fAdd, fAddS, fAddT, fAddL, mSetItem, isOL, asI, ownL, setL, mIf, mRetS, retD, mSkip, mCont, mBrk, mCall, appF, mCallB, appB, shaped_int, shaped_bool, PyData.eqv, BIG, ↓reduceIte, hn, hp, hq, h0, hm] at e
        subst e
        exact ⟨_, _, rfl, ⟨_, _, _, cs, ha, rfl⟩, md _⟩
    · simp [f_d_u_law_take, m_d_u_law_take, runP, runB, runO, mSeq, mIfS, mThen, mAsB, mOp2, mBind, mVar, mC, mRet, mLift, mTup, mLst, mCons, mNil, mkSeq, frcs, app2, rdD, fIx, atI, ixN, fEq, fNe, asB, tru, truD, mTru, mNot, mAnd, mOr, fGt, fLt, fLe, fGe, fInt2, mAsg, frc, asgS, asgD_np, asgO_np, npAt, np_un, np_dat, np_own, newL, mNewL, mAppend, pushL, fTupleOf, mSeqT, mSeqL, seqT, seqL, stepS, stepC, wipeS, mOp1, app1, fIntOf, fAbs, fLen, fNeg, fMod, fMul, mulOk, fDiv, fPow, fSub, fPlus, fP1, fP2, fAdd, fAddS, fAddT, fAddL, mSetItem, isOL, asI, ownL, setL, mIf, mRetS, retD, mSkip, mCont, mBrk, mCall, appF, mCallB, appB, shaped_int, shaped_bool, PyData.eqv, BIG, ↓reduceIte, hn, hp, h0, hm] at e
      subst e
      exact ⟨_, _, rfl, ⟨_, _, _, cs, ha, rfl⟩, md _⟩
theorem take_ok {o : O} (h : Box o) {m : Int} (h0 : 0 < m) (hm : m < 1073741824) : TakeGood m (f_d_u_law_take o [.int m]) := take_good h h0 hm _ rfl
theorem pick_ok {o : O} (h : Box o) {ds : List D} (h0 : ds ≠ []) (hm : ds.length < 1000) : ∃ d o', f_d_u_law_pick o [.list ds] = some (d, o') ∧ d ∈ ds ∧ Box o' := by
  have hl : 0 < ds.length := List.length_pos_iff.mpr h0
  obtain ⟨r, o', e, hb, hr0, hr⟩ := take_ok h (m := (ds.length : Int)) (by omega) (by omega)
  have hi : r.toNat < ds.length := by omega
  refine ⟨ds[r.toNat], o', ?_, List.getElem_mem hi, hb⟩
  simp [f_d_u_law_pick, m_d_u_law_pick, runP, runB, runO, mSeq, mIfS, mThen, mAsB, mOp2, mBind, mVar, mC, mRet, mLift, mTup, mLst, mCons, mNil, mkSeq, frcs, app2, rdD, fIx, atI, ixN, fEq, fNe, asB, tru, truD, mTru, mNot, mAnd, mOr, fGt, fLt, fLe, fGe, fInt2, mAsg, frc, asgS, asgD_np, asgO_np, npAt, np_un, np_dat, np_own, newL, mNewL, mAppend, pushL, fTupleOf, mSeqT, mSeqL, seqT, seqL, stepS, stepC, wipeS, mOp1, app1, fIntOf, fAbs, fLen, fNeg, fMod, fMul, mulOk, fDiv, fPow, fSub, fPlus, fP1, fP2, fAdd, fAddS, fAddT, fAddL, mSetItem, isOL, asI, ownL, setL, mIf, mRetS, retD, mSkip, mCont, mBrk, mCall, appF, mCallB, appB, shaped_int, shaped_bool, PyData.eqv, BIG, ↓reduceIte, e, hr0, hr, hi]
/-! ### the octets of a plain value -/
def codes (x : Str) : List Int := x.cps.toList.map fun (c : Nat) => (c : Int)
mutual
def oct : D → List Int
  | .none => [110]
  | .bool b => [if b then 116 else 102]
  | .int i => [105] ++ codes (toString i) ++ [59]
  | .str x => [115] ++ (codes (toString (x.length : Int)) ++ [58] ++ codes x)
  | .tuple ds => [40] ++ octs ds ++ [41]
  | .list _ => []
  | .dict _ => []
def octs : List D → List Int
  | [] => []
  | d :: ds => oct d ++ octs ds
end
def octD (xs : List Int) : D := .list (xs.map .int)
theorem octs_append : ∀ (xs ys : List D), octs (xs ++ ys) = octs xs ++ octs ys
  | [], ys => by simp [octs]
  | x :: xs, ys => by simp [octs, octs_append xs ys, List.append_assoc]
mutual
/-- how deep a plain value is nested; what its parts may be -/
def okV : Nat → D → Bool
  | _, .none => true
  | _, .bool _ => true
  | _, .int i => decide (i.natAbs < STRW)
  | _, .str x => decide (x.length ≤ 90000)
  | n + 1, .tuple ds => okVs n ds && decide (ds.length ≤ 90000)
  | 0, .tuple _ => false
  | _, .list _ => false
  | _, .dict _ => false
def okVs : Nat → List D → Bool
  | _, [] => true
  | n, d :: ds => okV n d && okVs n ds
end
theorem ord1 (c : Nat) : fOrd (.str ⟨#[c]⟩) = some (.int (c : Int)) := by
  show (if (⟨#[c]⟩ : Str).length = 1 then some (PyData.int (((⟨#[c]⟩ : Str).cps.getD 0 0 : Nat) : Int)) else none) = _
  rw [if_pos (show (⟨#[c]⟩ : Str).length = 1 from rfl)]
  rfl
theorem ints_eq (xs ys : List Int) : fPlus (.list (xs.map .int)) (.list (ys.map .int)) = if xs.length + ys.length ≤ 1000000 then some (.list ((xs ++ ys).map .int)) else none := by
  show fAddL (.list (xs.map .int)) (.list (ys.map .int)) = _
  show (if (xs.map PyData.int).length + (ys.map PyData.int).length ≤ BIG then some (PyData.list (xs.map PyData.int ++ ys.map PyData.int)) else none) = _
  rw [List.length_map, List.length_map, List.map_append]
end K27
namespace K27
open PySem L2 Dat
theorem signs_enc (x : Str) : signsD x = x.cps.toList.map fun c => PyData.str ⟨#[c]⟩ := rfl
theorem stepC_yes {gm : GM} {mt : M Bool} {me : M Vw} {vs : List Nat} {d y : D} {ρ ρ1 ρ2 ρ3 : List Sl} (hg : gm d ρ = some ρ1) (ht : mt ρ1 = some (.ok true, ρ2)) (he : mBind me frc ρ2 = some (.ok y, ρ3)) : stepC gm mt me vs d ρ = some (some y, wipeS ρ3 vs) := by
  unfold stepC
  rw [hg]
  simp only [ht, he]
theorem digits_eq {i : Int} (hi : i.natAbs < STRW) (hl : (toString i : Str).length ≤ 100000) : f_d_u_digits [.int i] = some (octD (codes (toString i))) := by
  have e0 : mSeqS (mOp1 fStrW (mVar 0)) [.dat (.int i), .un] = some (.ok ((toString i : Str).cps.toList.map fun c => PyData.str ⟨#[c]⟩), [.dat (.int i), .un]) := by
    have e1 : mOp1 fStrW (mVar 0) [.dat (.int i), .un] = some (.ok (.dat (.str (toString i))), [.dat (.int i), .un]) := mOp1_ok (a := .loc 0) rfl rfl (by
      show (if i.natAbs < STRW then some (PyData.str (toString i)) else none) = _
      rw [if_pos hi])
    unfold mSeqS
    rw [mBind_ok e1]
    rfl
  have hlen : (toString i : Str).cps.toList.length ≤ 100000 := hl
  have := mLc_pure (mi := mSeqS (mOp1 fStrW (mVar 0))) (gm := asgD 1) (mt := T_d_u_digits_1) (me := E_d_u_digits_0) (vs := [1]) (enc := fun c => PyData.str ⟨#[c]⟩) (fun c => some (PyData.int (c : Nat))) (toString i : Str).cps.toList (ρ := [.dat (.int i), .un]) (ρ0 := [.dat (.int i), .un])
    e0 (le_bigN hlen) (fun c hc => by
      have e2 : mBind E_d_u_digits_0 frc [.dat (.int i), .dat (.str ⟨#[c]⟩)] = some (.ok (.int (c : Nat)), [.dat (.int i), .dat (.str ⟨#[c]⟩)]) := by
        unfold E_d_u_digits_0
        rw [mBind_ok (mOp1_ok (a := .loc 1) rfl rfl (ord1 c))]
        rfl
      exact stepC_yes (ρ1 := [.dat (.int i), .dat (.str ⟨#[c]⟩)]) (ρ2 := [.dat (.int i), .dat (.str ⟨#[c]⟩)]) (ρ3 := [.dat (.int i), .dat (.str ⟨#[c]⟩)]) (asgD_np rfl) rfl e2)
  have e3 : (toString i : Str).cps.toList.filterMap (fun c => some (PyData.int (c : Nat))) = (codes (toString i)).map PyData.int := by
    rw [List.filterMap_eq_map']
    unfold codes
    rw [List.map_map]
    rfl
  rw [e3] at this
  have e4 : L_d_u_digits_2 [.dat (.int i), .un] = some (.ok (.dat (octD (codes (toString i)))), [.dat (.int i), .un]) := this
  have e5 : runP 1 2 m_d_u_digits [.int i] = match m_d_u_digits [.dat (.int i), .un] with
    | some (.rt d, _) => some d
    | some (.nx, _) => some .none
    | _ => none := rfl
  unfold f_d_u_digits
  rw [e5]
  unfold m_d_u_digits
  rw [mRetS_ok e4]
end K27
namespace K27
open PySem L2 Dat
theorem lc_ord {mi : M (List D)} {i : Nat} {ρ : List Sl} {x : Str} (h : mi ρ = some (.ok (signsD x), ρ)) (hl : x.length ≤ 100000) (hn : npAt i ρ = true) (hz : wipeS ρ [i] = ρ) (hw : ∀ d, wipeS (ρ.set i (.dat d)) [i] = ρ)
    (hv : ∀ d, mVar i (ρ.set i (.dat d)) = some (.ok (.loc i), ρ.set i (.dat d)) ∧ rdD (.loc i) (ρ.set i (.dat d)) = some d) :
    mLc mi (asgD i) (mRet true) (mOp1 fOrd (mVar i)) [i] ρ = some (.ok (.dat (octD (codes x))), ρ) := by
  have hlen : x.cps.toList.length ≤ 100000 := hl
  have := mLc_pure (mi := mi) (gm := asgD i) (mt := mRet true) (me := mOp1 fOrd (mVar i)) (vs := [i]) (enc := fun c => PyData.str ⟨#[c]⟩) (fun c => some (PyData.int (c : Nat))) x.cps.toList (ρ := ρ) (ρ0 := ρ)
    h (le_bigN hlen) (fun c hc => by
      have e2 : mBind (mOp1 fOrd (mVar i)) frc (ρ.set i (.dat (.str ⟨#[c]⟩))) = some (.ok (.int (c : Nat)), ρ.set i (.dat (.str ⟨#[c]⟩))) := by
        rw [mBind_ok (mOp1_ok (a := .loc i) (hv _).1 (hv _).2 (ord1 c))]
        rfl
      have := stepC_yes (vs := [i]) (asgD_np (d := .str ⟨#[c]⟩) hn) (show mRet true _ = some (.ok true, _) from rfl) e2
      rw [hw] at this
      rw [hz]
      exact this)
  have e3 : x.cps.toList.filterMap (fun c => some (PyData.int (c : Nat))) = (codes x).map PyData.int := by
    rw [List.filterMap_eq_map']
    unfold codes
    rw [List.map_map]
    rfl
  rw [e3, hz, hz] at this
  exact this
theorem seqS_of {ma : M Vw} {x : Str} {ρ : List Sl} (h : ma ρ = some (.ok (.dat (.str x)), ρ)) : mSeqS ma ρ = some (.ok (signsD x), ρ) := by
  unfold mSeqS
  rw [mBind_ok h]
  rfl
theorem str_ok {i : Int} (hi : i.natAbs < STRW) : fStrW (.int i) = some (.str (toString i)) := by
  show (if i.natAbs < STRW then some (PyData.str (toString i)) else none) = _
  rw [if_pos hi]
theorem plus_s (a b : Str) (h : a.length + b.length ≤ 100000) : fPlus (.str a) (.str b) = some (.str (a ++ b)) := by
  have e : fAddS (.str a) (.str b) = some (.str (a ++ b)) := by
    show (if a.length + b.length ≤ BIG then some (PyData.str (a ++ b)) else none) = _
    rw [if_pos (le_bigN h)]
  have e1 : fP1 (.str a) (.str b) = some (.str (a ++ b)) := e
  have e2 : fP2 (.str a) (.str b) = some (.str (a ++ b)) := by
    unfold fP2
    rw [e1]
  unfold fPlus
  rw [e2]
end K27
namespace K27
open PySem L2 Dat
theorem law_none (n : Nat) : f_d_u_law_octets (n + 1) [.none] = some (octD (oct .none)) := by
  unfold f_d_u_law_octets
  rfl
theorem law_bool (n : Nat) (b : Bool) : f_d_u_law_octets (n + 1) [.bool b] = some (octD (oct (.bool b))) := by
  unfold f_d_u_law_octets
  cases b <;> rfl
theorem runP14 (m : MS) (v : D) : runP 1 4 m [v] = match m [.dat v, .un, .un, .un] with
    | some (.rt d, _) => some d
    | some (.nx, _) => some .none
    | _ => none := rfl
theorem plusL (a b : List D) (h : a.length + b.length ≤ 1000000) : fPlus (.list a) (.list b) = some (.list (a ++ b)) := by
  show (if a.length + b.length ≤ BIG then some (PyData.list (a ++ b)) else none) = _
  rw [if_pos (Nat.le_trans h (by decide))]
theorem plusO (a b : List Int) (h : a.length + b.length ≤ 1000000) : fPlus (octD a) (octD b) = some (octD (a ++ b)) := by
  unfold octD
  rw [plusL _ _ (by rw [List.length_map, List.length_map]; exact h), List.map_append]
theorem codes_len (x : Str) : (codes x).length = x.length := by
  unfold codes
  rw [List.length_map]
  rfl
theorem law_int (n : Nat) (i : Int) (hi : i.natAbs < STRW) (hl : (toString i : Str).length ≤ 100000) : f_d_u_law_octets (n + 1) [.int i] = some (octD (oct (.int i))) := by
  have e1 : mSeqS (mOp1 fStrW (mVar 0)) [.dat (.int i), .un, .un, .un] = some (.ok (signsD (toString i)), [.dat (.int i), .un, .un, .un]) :=
    seqS_of (mOp1_ok (a := .loc 0) rfl rfl (str_ok hi))
  have e2 : L_d_u_law_octets_7 (f_d_u_law_octets n) [.dat (.int i), .un, .un, .un] = some (.ok (.dat (octD (codes (toString i)))), [.dat (.int i), .un, .un, .un]) :=
    lc_ord (i := 1) e1 hl rfl rfl (fun _ => rfl) (fun _ => ⟨rfl, rfl⟩)
  have e3 : mOp2 fPlus (mOp2 fPlus (mLst (mCons (mC (.int 105)) mNil)) (L_d_u_law_octets_7 (f_d_u_law_octets n))) (mLst (mCons (mC (.int 59)) mNil)) [.dat (.int i), .un, .un, .un] = some (.ok (.dat (octD (oct (.int i)))), [.dat (.int i), .un, .un, .un]) := by
    have hl' := codes_len (toString i)
    refine mOp2_ok (d := octD ([105] ++ codes (toString i))) (e := octD [59]) (mOp2_ok (d := octD [105]) rfl e2 rfl rfl (plusO _ _ (by simp only [List.length_append, List.length_singleton]; omega))) rfl rfl rfl (plusO _ _ (by simp only [List.length_append, List.length_singleton]; omega))
  unfold f_d_u_law_octets
  rw [runP14]
  have e4 : m_d_u_law_octets (f_d_u_law_octets n) [.dat (.int i), .un, .un, .un] = mRetS (mOp2 fPlus (mOp2 fPlus (mLst (mCons (mC (.int 105)) mNil)) (L_d_u_law_octets_7 (f_d_u_law_octets n))) (mLst (mCons (mC (.int 59)) mNil))) [.dat (.int i), .un, .un, .un] := by
    unfold m_d_u_law_octets
    rw [mSeq_ok (ρ1 := [.dat (.int i), .un, .un, .un]) rfl, mSeq_ok (ρ1 := [.dat (.int i), .un, .un, .un]) rfl]
    unfold mSeq
    have : mIfS (mTru (mOp1 (fIsi isInt) (mVar 0))) (mRetS (mOp2 fPlus (mOp2 fPlus (mLst (mCons (mC (.int 105)) mNil)) (L_d_u_law_octets_7 (f_d_u_law_octets n))) (mLst (mCons (mC (.int 59)) mNil)))) mSkip [.dat (.int i), .un, .un, .un] = mRetS (mOp2 fPlus (mOp2 fPlus (mLst (mCons (mC (.int 105)) mNil)) (L_d_u_law_octets_7 (f_d_u_law_octets n))) (mLst (mCons (mC (.int 59)) mNil))) [.dat (.int i), .un, .un, .un] := by
      rw [mIfS_ok (b := true) rfl]
      rfl
    rw [this, mRetS_ok e3]
  rw [e4, mRetS_ok e3]
theorem len_s {x : Str} (h : x.length ≤ 100000) : fLen (.str x) = some (.int (x.length : Int)) := by
  show (if x.length ≤ BIG then some (PyData.int x.length) else none) = _
  rw [if_pos (le_bigN h)]
theorem app_len (a b : Str) : (a ++ b).length = a.length + b.length := by
  show (a.cps ++ b.cps).size = a.cps.size + b.cps.size
  exact Array.size_append
theorem app_codes (a b : Str) : codes (a ++ b) = codes a ++ codes b := by
  show ((a.cps ++ b.cps).toList.map fun (c : Nat) => (c : Int)) = _
  rw [Array.toList_append, List.map_append]
  rfl
theorem law_str (n : Nat) (x : Str) (hx : x.length ≤ 90000) (ht : (toString (x.length : Int) : Str).length ≤ 90) : f_d_u_law_octets (n + 1) [.str x] = some (octD (oct (.str x))) := by
  have hS : ((x.length : Int)).natAbs < STRW := by
    have : ((x.length : Int)).natAbs = x.length := by omega
    rw [this]
    exact Nat.lt_of_le_of_lt hx (by decide)
  have c1 : (":" : Str).length = 1 := rfl
  have l1 : ((toString (x.length : Int) : Str) ++ ":").length ≤ 91 := by
    rw [app_len, c1]; omega
  have l2 : ((toString (x.length : Int) : Str) ++ ":" ++ x).length ≤ 100000 := by
    rw [app_len]; omega
  have e0 : mOp2 fPlus (mOp2 fPlus (mOp1 fStrW (mOp1 fLen (mVar 0))) (mC (.str ":"))) (mVar 0) [.dat (.str x), .un, .un, .un] = some (.ok (.dat (.str ((toString (x.length : Int) : Str) ++ ":" ++ x))), [.dat (.str x), .un, .un, .un]) :=
    mOp2_ok (b := .loc 0) (ρ1 := [.dat (.str x), .un, .un, .un]) (ρ2 := [.dat (.str x), .un, .un, .un]) (mOp2_ok (b := .dat (.str ":")) (ρ1 := [.dat (.str x), .un, .un, .un]) (ρ2 := [.dat (.str x), .un, .un, .un]) (mOp1_ok (a := .dat (.int (x.length : Int))) (ρ1 := [.dat (.str x), .un, .un, .un]) (mOp1_ok (a := .loc 0) rfl rfl (len_s (by omega))) rfl (str_ok hS)) rfl rfl rfl (plus_s _ _ (by rw [c1]; omega))) rfl rfl rfl (plus_s _ _ (by omega))
  have e2 : L_d_u_law_octets_4 (f_d_u_law_octets n) [.dat (.str x), .un, .un, .un] = some (.ok (.dat (octD (codes ((toString (x.length : Int) : Str) ++ ":" ++ x)))), [.dat (.str x), .un, .un, .un]) :=
    lc_ord (i := 1) (seqS_of e0) l2 rfl rfl (fun _ => rfl) (fun _ => ⟨rfl, rfl⟩)
  have hc : codes ((toString (x.length : Int) : Str) ++ ":" ++ x) = codes (toString (x.length : Int)) ++ [58] ++ codes x := by
    rw [app_codes, app_codes]
    rfl
  rw [hc] at e2
  have hl' := codes_len (toString (x.length : Int))
  have hl2 := codes_len x
  have e3 : mOp2 fPlus (mLst (mCons (mC (.int 115)) mNil)) (L_d_u_law_octets_4 (f_d_u_law_octets n)) [.dat (.str x), .un, .un, .un] = some (.ok (.dat (octD (oct (.str x)))), [.dat (.str x), .un, .un, .un]) :=
    mOp2_ok (d := octD [115]) rfl e2 rfl rfl (plusO _ _ (by simp only [List.length_append, List.length_singleton]; omega))
  unfold f_d_u_law_octets
  rw [runP14]
  have e4 : m_d_u_law_octets (f_d_u_law_octets n) [.dat (.str x), .un, .un, .un] = some (.rt (octD (oct (.str x))), [.dat (.str x), .un, .un, .un]) := by
    unfold m_d_u_law_octets
    rw [mSeq_ok (ρ1 := [.dat (.str x), .un, .un, .un]) rfl, mSeq_ok (ρ1 := [.dat (.str x), .un, .un, .un]) rfl, mSeq_ok (ρ1 := [.dat (.str x), .un, .un, .un]) rfl]
    unfold mSeq
    have : mIfS (mTru (mOp1 (fIsi isStr) (mVar 0))) (mRetS (mOp2 fPlus (mLst (mCons (mC (.int 115)) mNil)) (L_d_u_law_octets_4 (f_d_u_law_octets n)))) mSkip [.dat (.str x), .un, .un, .un] = some (.rt (octD (oct (.str x))), [.dat (.str x), .un, .un, .un]) := by
      rw [mIfS_ok (b := true) (ρ1 := [.dat (.str x), .un, .un, .un]) rfl]
      exact mRetS_ok e3
    rw [this]
  rw [e4]
end K27
namespace K27
open PySem L2 Dat
theorem octs_fold : ∀ (ds : List D) (a : List Int), ds.foldl (fun a d => a ++ oct d) a = a ++ octs ds
  | [], a => by simp [octs]
  | d :: ds, a => by rw [List.foldl_cons, octs_fold ds]; simp [octs, List.append_assoc]
theorem octs_take (ds : List D) (n : Nat) : (octs (ds.take n)).length ≤ (octs ds).length := by
  have := octs_append (ds.take n) (ds.drop n)
  rw [List.take_append_drop] at this
  rw [this, List.length_append]
  omega
theorem law_tuple (n : Nat) (ds : List D) (hd : ds.length ≤ 90000) (hl : (octs ds).length ≤ 100000) (ih : ∀ d ∈ ds, f_d_u_law_octets n [d] = some (octD (oct d))) : f_d_u_law_octets (n + 1) [.tuple ds] = some (octD (oct (.tuple ds))) := by
  let I : Nat → List Int → List Sl → Prop := fun k a ρ => a = [40] ++ octs (ds.take k) ∧ ∃ s1 s3, np s3 = true ∧ ρ = [.dat (.tuple ds), s1, .dat (octD a), s3]
  obtain ⟨ρ', e, h'⟩ := mFor_fold (mi := mSeqT (mVar 0)) (gm := asgD 3) (body := B_d_u_law_octets_0 (f_d_u_law_octets n)) (enc := fun d => d) I (fun a d => a ++ oct d) ds (b := [40]) (ρ := [.dat (.tuple ds), .un, .dat (octD [40]), .un]) (ρ0 := [.dat (.tuple ds), .un, .dat (octD [40]), .un])
    (by rw [List.map_id']; rfl)
    (fun k x hx a ρ hI => by
      obtain ⟨ha, s1, s3, hs, rfl⟩ := hI
      have hm : x ∈ ds := List.mem_of_getElem? hx
      have ht : octs (ds.take (k + 1)) = octs (ds.take k) ++ oct x := by
        rw [List.take_add_one, hx, octs_append]
        simp [octs]
      have hk := octs_take ds (k + 1)
      rw [ht, List.length_append] at hk
      have hal : a.length = 1 + (octs (ds.take k)).length := by rw [ha, List.length_append]; rfl
      have e1 : mCall (f_d_u_law_octets n) (mCons (mVar 3) mNil) [.dat (.tuple ds), s1, .dat (octD a), .dat x] = some (.ok (.dat (octD (oct x))), [.dat (.tuple ds), s1, .dat (octD a), .dat x]) := by
        unfold mCall
        show mBind (appF (f_d_u_law_octets n) |> fun f => mRet [Vw.loc 3]) (appF (f_d_u_law_octets n)) _ = _
        show mLift ((f_d_u_law_octets n [x]).map Vw.dat) _ = _
        rw [ih x hm]
        rfl
      refine ⟨.nx, [.dat (.tuple ds), s1, .dat (octD (a ++ oct x)), .dat x], ?_, .inl rfl, ?_, s1, .dat x, rfl, rfl⟩
      · unfold stepS
        rw [asgD_np (show npAt 3 [.dat (.tuple ds), s1, .dat (octD a), s3] = true from hs)]
        exact mAsg_ok (mOp2_ok (a := .loc 2) rfl e1 rfl rfl (plusO _ _ (by omega))) (asgD_np rfl)
      · rw [ht, ha, List.append_assoc])
    ⟨by simp [octs], .un, .un, rfl, rfl⟩
  obtain ⟨_, s1, s3, _, rfl⟩ := h'
  rw [octs_fold] at e
  have e2 : mRetS (mOp2 fPlus (mVar 2) (mLst (mCons (mC (.int 41)) mNil))) [.dat (.tuple ds), s1, .dat (octD ([40] ++ octs ds)), s3] = some (.rt (octD (oct (.tuple ds))), [.dat (.tuple ds), s1, .dat (octD ([40] ++ octs ds)), s3]) :=
    mRetS_ok (mOp2_ok (a := .loc 2) (e := octD [41]) rfl rfl rfl rfl (plusO _ _ (by simp only [List.length_append, List.length_singleton]; omega)))
  unfold f_d_u_law_octets
  rw [runP14]
  have e4 : m_d_u_law_octets (f_d_u_law_octets n) [.dat (.tuple ds), .un, .un, .un] = some (.rt (octD (oct (.tuple ds))), [.dat (.tuple ds), s1, .dat (octD ([40] ++ octs ds)), s3]) := by
    unfold m_d_u_law_octets
    rw [mSeq_ok (ρ1 := [.dat (.tuple ds), .un, .un, .un]) rfl, mSeq_ok (ρ1 := [.dat (.tuple ds), .un, .un, .un]) rfl, mSeq_ok (ρ1 := [.dat (.tuple ds), .un, .un, .un]) rfl, mSeq_ok (ρ1 := [.dat (.tuple ds), .un, .un, .un]) rfl, mSeq_ok (ρ1 := [.dat (.tuple ds), .un, .dat (octD [40]), .un]) rfl]
    unfold L_d_u_law_octets_1
    rw [mSeq_ok e]
    exact e2
  rw [e4]
end K27
namespace K27
open PySem L2 Dat
/-- the digits of a number, as octets -/
def dig (n : Nat) : List Nat := (Nat.toDigits 10 n).map Char.toNat
def up (xs : List Nat) : List Int := xs.map fun (c : Nat) => (c : Int)
theorem codes_nat (n : Nat) : codes (toString (n : Int)) = up (dig n) := by
  unfold codes up dig
  rw [PySem.W.KIN.signs_num]
theorem codes_neg {i : Int} (h : i < 0) : codes (toString i) = 45 :: up (dig i.natAbs) := by
  have e : toString i = "-" ++ toString ((i.natAbs : Nat) : Int) := by
    show Int.repr i = "-" ++ Int.repr _
    rw [Int.repr_eq_if, if_neg (by omega), Int.repr_eq_if, if_pos (by omega)]
    rw [show (-i).toNat = i.natAbs by omega, show ((i.natAbs : Nat) : Int).toNat = i.natAbs by omega]
  unfold codes
  rw [e, PyProof.Rows.signs_ofString, String.toList_append, List.map_append, List.map_append]
  have := codes_nat i.natAbs
  unfold codes at this
  rw [PyProof.Rows.signs_ofString] at this
  rw [this]
  rfl
theorem codes_pos {i : Int} (h : 0 ≤ i) : codes (toString i) = up (dig i.natAbs) := by
  have := codes_nat i.natAbs
  rw [show ((i.natAbs : Nat) : Int) = i by omega] at this
  exact this
theorem dig_len {n : Nat} (h : n < STRW) : (dig n).length ≤ 77 := by
  unfold dig
  rw [List.length_map]
  exact (Nat.length_toDigits_le_iff (by decide) (by decide)).mpr h
theorem str_len {i : Int} (h : i.natAbs < STRW) : (toString i : Str).length ≤ 78 := by
  have hd := dig_len h
  rw [← codes_len]
  by_cases h0 : 0 ≤ i
  · rw [codes_pos h0]; unfold up; rw [List.length_map]; omega
  · rw [codes_neg (by omega)]; unfold up; rw [List.length_cons, List.length_map]; omega
mutual
theorem oct_law : ∀ (n : Nat) (v : D), okV n v = true → (oct v).length ≤ 100000 → f_d_u_law_octets (n + 1) [v] = some (octD (oct v))
  | n, .none, _, _ => law_none n
  | n, .bool b, _, _ => law_bool n b
  | n, .int i, h, _ => by
    have h : decide (i.natAbs < STRW) = true := by cases n <;> exact h
    exact law_int n i (of_decide_eq_true h) (Nat.le_trans (str_len (of_decide_eq_true h)) (by decide))
  | n, .str x, h, _ => by
    have h : decide (x.length ≤ 90000) = true := by cases n <;> exact h
    have h := of_decide_eq_true h
    exact law_str n x h (Nat.le_trans (str_len (i := (x.length : Int)) (by
      rw [show ((x.length : Int)).natAbs = x.length by omega]; exact Nat.lt_of_le_of_lt h (by decide))) (by decide))
  | n + 1, .tuple ds, h, hl => by
    have h : (okVs n ds && decide (ds.length ≤ 90000)) = true := h
    rw [Bool.and_eq_true] at h
    have hl' : (octs ds).length ≤ 100000 := by
      have : (oct (.tuple ds)).length = (octs ds).length + 2 := by
        show ([40] ++ octs ds ++ [41]).length = _
        simp only [List.length_append, List.length_singleton]; omega
      omega
    exact law_tuple (n + 1) ds (of_decide_eq_true h.2) hl' (oct_laws n ds h.1 hl')
  | 0, .tuple ds, h, _ => by cases h
  | n, .list _, h, _ => by cases n <;> cases h
  | n, .dict _, h, _ => by cases n <;> cases h
theorem oct_laws : ∀ (n : Nat) (ds : List D), okVs n ds = true → (octs ds).length ≤ 100000 → ∀ d ∈ ds, f_d_u_law_octets (n + 1) [d] = some (octD (oct d))
  | n, [], _, _ => fun _ h => nomatch h
  | n, d :: ds, h, hl => by
    have h : (okV n d && okVs n ds) = true := by cases n <;> exact h
    rw [Bool.and_eq_true] at h
    have hl : (oct d ++ octs ds).length ≤ 100000 := hl
    rw [List.length_append] at hl
    intro x hx
    rcases List.mem_cons.mp hx with e | hx
    · rw [e]
      exact oct_law n d h.1 (by omega)
    · exact oct_laws n ds h.2 (by omega) x hx
end
end K27
namespace K27
open PySem Dat
open PySem.W.KIN PySem.NumText
def isDg (c : Int) : Bool := decide (48 ≤ c) && decide (c ≤ 57)
theorem isDg_iff {c : Int} : isDg c = true ↔ 48 ≤ c ∧ c ≤ 57 := by
  unfold isDg; rw [Bool.and_eq_true, decide_eq_true_eq, decide_eq_true_eq]
def valI (ds : List Int) : Int := ds.foldl (fun a c => a * 10 + c - 48) 0
def canon (ds : List Int) : Bool := match ds with
  | [] => false
  | [_] => true
  | c :: _ => decide (c ≠ 48)
theorem digs_all (n : Nat) : AllDigits (dig n) := by
  intro c hc
  unfold dig at hc
  obtain ⟨x, hx, rfl⟩ := List.mem_map.mp hc
  have := Nat.isDigit_of_mem_toDigits (by decide) (by decide) hx
  unfold Char.isDigit at this
  rw [Bool.and_eq_true, decide_eq_true_eq, decide_eq_true_eq] at this
  exact ⟨this.1, this.2⟩
theorem dig_pos (n : Nat) : 0 < (dig n).length := by
  unfold dig
  rw [List.length_map]
  exact Nat.length_toDigits_pos
theorem val_dig (n : Nat) : digitsVal (dig n) = n := val_back n
theorem fold_up : ∀ (cs : List Nat) (a : Nat), AllDigits cs → (up cs).foldl (fun (a : Int) c => a * 10 + c - 48) (a : Int) = ((cs.foldl (fun a c => a * 10 + (c - 48)) a : Nat) : Int)
  | [], a, _ => rfl
  | c :: cs, a, h => by
    have h1 := h.head
    have := fold_up cs (a * 10 + (c - 48)) h.tail
    rw [show ((a * 10 + (c - 48) : Nat) : Int) = (a : Int) * 10 + (c : Int) - 48 by omega] at this
    exact this
theorem val_up {cs : List Nat} (h : AllDigits cs) : valI (up cs) = ((digitsVal cs : Nat) : Int) := fold_up cs 0 h
theorem val_updig (n : Nat) : valI (up (dig n)) = (n : Int) := by rw [val_up (digs_all n), val_dig]
theorem isDg_up {cs : List Nat} (h : AllDigits cs) : ∀ c ∈ up cs, isDg c = true := by
  intro c hc
  unfold up at hc
  obtain ⟨x, hx, rfl⟩ := List.mem_map.mp hc
  have := h x hx
  rw [isDg_iff]; omega
theorem foldl_ge' (cs : List Nat) (a : Nat) : a ≤ cs.foldl (fun acc c => acc * 10 + (c - 48)) a := PySem.NumText.foldl_ge cs a
theorem fold_lt : ∀ (cs : List Nat) (a : Nat), AllDigits cs → cs.foldl (fun acc c => acc * 10 + (c - 48)) a < (a + 1) * 10 ^ cs.length
  | [], a, _ => by simp
  | c :: cs, a, h => by
    have h1 := h.head
    refine Nat.lt_of_lt_of_le (fold_lt cs (a * 10 + (c - 48)) h.tail) ?_
    rw [List.length_cons, Nat.pow_succ, Nat.mul_comm (10 ^ cs.length) 10, ← Nat.mul_assoc]
    exact Nat.mul_le_mul_right _ (by omega)
theorem digitsVal_lt (cs : List Nat) (h : AllDigits cs) : digitsVal cs < 10 ^ cs.length := by
  have := fold_lt cs 0 h
  rw [Nat.zero_add, Nat.one_mul] at this
  exact this
theorem canon_dig (n : Nat) : canon (up (dig n)) = true := by
  have h0 := dig_pos n
  have hv := val_dig n
  have ha := digs_all n
  cases hd : dig n with
  | nil => rw [hd] at h0; cases h0
  | cons c cs =>
    cases cs with
    | nil => rfl
    | cons c' cs =>
      show decide ((c : Int) ≠ 48) = true
      rw [decide_eq_true_eq]
      intro e
      have e : c = 48 := by omega
      subst e
      -- the number has fewer digits
      rw [hd] at hv ha
      have h2 : digitsVal (48 :: c' :: cs) = digitsVal (c' :: cs) := rfl
      have hlt : digitsVal (c' :: cs) < 10 ^ (c' :: cs).length := digitsVal_lt (c' :: cs) ha.tail
      rw [h2] at hv
      rw [hv] at hlt
      have hl : (dig n).length ≤ (c' :: cs).length := by
        unfold dig
        rw [List.length_map]
        exact (Nat.length_toDigits_le_iff (by decide) (by simp)).mpr hlt
      rw [hd] at hl
      simp only [List.length_cons] at hl
      omega
theorem dig_canon {cs : List Nat} (h : AllDigits cs) (hc : canon (up cs) = true) : dig (digitsVal cs) = cs := by
  cases cs with
  | nil => cases hc
  | cons c cs =>
    have e : Nat.toDigits 10 (digitsVal (c :: cs)) = (c :: cs).map Char.ofNat := by
      refine toDigits_digitsVal cs.length (c :: cs) rfl h ?_
      cases cs with
      | nil => exact .inl rfl
      | cons c' cs =>
        right
        have hc : decide ((c : Int) ≠ 48) = true := hc
        rw [decide_eq_true_eq] at hc
        have := h.head
        exact ⟨c, _, rfl, by omega⟩
    unfold dig
    rw [e, List.map_map]
    have : ∀ (xs : List Nat), AllDigits xs → xs.map (Char.toNat ∘ Char.ofNat) = xs := by
      intro xs
      induction xs with
      | nil => intro _; rfl
      | cons x xs ih =>
        intro hx
        rw [List.map_cons, ih hx.tail]
        have h1 := hx.head
        congr 1
        show (Char.ofNat x).toNat = x
        rw [Char.ofNat, dif_pos (show x.isValidChar from Or.inl (by omega))]
        rfl
    exact this _ h
theorem down {ds : List Int} (h : ∀ c ∈ ds, isDg c = true) : ∃ cs, ds = up cs ∧ AllDigits cs := by
  refine ⟨ds.map Int.toNat, ?_, ?_⟩
  · unfold up
    rw [List.map_map]
    conv => lhs; rw [← List.map_id ds]
    refine List.map_congr_left fun c hc => ?_
    have := isDg_iff.mp (h c hc)
    show c = ((c.toNat : Nat) : Int)
    omega
  · intro c hc
    obtain ⟨x, hx, rfl⟩ := List.mem_map.mp hc
    have := isDg_iff.mp (h x hx)
    omega
/-! ### a number of octets -/
def numS (e : Int) (l : List Int) : Option (Int × List Int) := match l.dropWhile isDg with
  | c :: r => if c = e ∧ canon (l.takeWhile isDg) = true then some (valI (l.takeWhile isDg), r) else none
  | [] => none
theorem tw_app {ds : List Int} (h : ∀ c ∈ ds, isDg c = true) {e : Int} (he : isDg e = false) (r : List Int) : (ds ++ e :: r).takeWhile isDg = ds ∧ (ds ++ e :: r).dropWhile isDg = e :: r := by
  induction ds with
  | nil => simp [List.takeWhile_cons, List.dropWhile_cons, he]
  | cons d ds ih =>
    obtain ⟨h1, h2⟩ := ih fun c hc => h c (List.mem_cons_of_mem _ hc)
    have h3 := h d (List.mem_cons_self ..)
    simp only [List.cons_append, List.takeWhile_cons, List.dropWhile_cons, h3, ↓reduceIte, h1, h2, and_self]
theorem num_full {e : Int} (he : isDg e = false) (n : Nat) (r : List Int) : numS e (up (dig n) ++ e :: r) = some ((n : Int), r) := by
  obtain ⟨h1, h2⟩ := tw_app (isDg_up (digs_all n)) he r
  unfold numS
  rw [h2, h1]
  simp only [canon_dig, and_self, ↓reduceIte, val_updig]
theorem num_sound {e : Int} {l : List Int} {v : Int} {r : List Int} (h : numS e l = some (v, r)) : ∃ n : Nat, v = (n : Int) ∧ l = up (dig n) ++ e :: r ∧ (l.takeWhile isDg) = up (dig n) := by
  unfold numS at h
  cases hd : l.dropWhile isDg with
  | nil => rw [hd] at h; cases h
  | cons c r' =>
    rw [hd] at h
    simp only at h
    by_cases hc : c = e ∧ canon (l.takeWhile isDg) = true
    · rw [if_pos hc] at h
      cases h
      obtain ⟨rfl, hc⟩ := hc
      obtain ⟨cs, hcs, ha⟩ := down (ds := l.takeWhile isDg) (fun c hc => by
        exact List.all_eq_true.mp List.all_takeWhile c hc)
      have hl := (List.takeWhile_append_dropWhile (p := isDg) (l := l))
      rw [hd, hcs] at hl
      rw [hcs] at hc
      refine ⟨digitsVal cs, ?_, ?_, ?_⟩
      · rw [hcs, val_up ha]
      · rw [dig_canon ha hc, hl]
      · rw [dig_canon ha hc, hcs]
    · rw [if_neg hc] at h; cases h
end K27
namespace K27
open PySem Dat
/-- what may stand in a text -/
def okC (c : Int) : Bool := (decide (32 ≤ c) && decide (c ≤ 36)) || (decide (38 ≤ c) && decide (c ≤ 126)) || decide (c = 10) || decide (c = 9)
def ofCodes (t : List Int) : Str := ⟨(t.map Int.toNat).toArray⟩
theorem okC_nn {c : Int} (h : okC c = true) : 0 ≤ c ∧ c < 256 := by
  unfold okC at h
  simp only [Bool.or_eq_true, Bool.and_eq_true, decide_eq_true_eq] at h
  omega
theorem codes_ofC {t : List Int} (h : ∀ c ∈ t, 0 ≤ c) : codes (ofCodes t) = t := by
  unfold codes ofCodes
  show ((t.map Int.toNat).toArray.toList.map fun (c : Nat) => (c : Int)) = t
  rw [List.map_map]
  conv => rhs; rw [← List.map_id t]
  refine List.map_congr_left fun c hc => ?_
  have := h c hc
  show ((c.toNat : Nat) : Int) = c
  omega
theorem of_codes (x : Str) : ofCodes (codes x) = x := by
  unfold codes ofCodes
  rw [List.map_map]
  have : (x.cps.toList.map (Int.toNat ∘ fun (c : Nat) => (c : Int))) = x.cps.toList := by
    conv => rhs; rw [← List.map_id x.cps.toList]
    exact List.map_congr_left fun c _ => by show ((c : Int)).toNat = c; omega
  rw [this]
theorem of_len (t : List Int) : (ofCodes t).length = t.length := by
  show (t.map Int.toNat).toArray.size = t.length
  simp
mutual
def good : D → Bool
  | .none => true
  | .bool _ => true
  | .int _ => true
  | .str x => (codes x).all okC
  | .tuple ds => goods ds
  | .list _ => false
  | .dict _ => false
def goods : List D → Bool
  | [] => true
  | d :: ds => good d && goods ds
end
def textS (l : List Int) : Option (D × List Int) := match numS 58 l with
  | none => none
  | some (m, r) => if ((r.take m.toNat).length : Int) = m ∧ (r.take m.toNat).all okC = true then some (.str (ofCodes (r.take m.toNat)), r.drop m.toNat) else none
def wholeS (l : List Int) : Option (D × List Int) := match l with
  | [] => none
  | c :: l' => if c = 45 then (match numS 59 l' with
    | some (v, r) => if v = 0 then none else some (.int (-v), r)
    | none => none) else (match numS 59 (c :: l') with
    | some (v, r) => some (.int v, r)
    | none => none)
def rdL (rd : List Int → Option (D × List Int)) : Nat → List Int → Option (List D × List Int)
  | 0, _ => none
  | _ + 1, [] => none
  | k + 1, c :: l => if c = 41 then some ([], l) else match rd (c :: l) with
    | none => none
    | some (d, r) => match rdL rd k r with
      | none => none
      | some (ds, r') => some (d :: ds, r')
def rd : Nat → List Int → Option (D × List Int)
  | 0, _ => none
  | _ + 1, [] => none
  | n + 1, c :: l => if c = 110 then some (.none, l) else if c = 116 ∨ c = 102 then some (.bool (decide (c = 116)), l) else if c = 105 then wholeS l else if c = 115 then textS l
    else if c = 40 then (match rdL (rd n) (l.length + 1) l with
      | none => none
      | some (ds, r) => some (.tuple ds, r)) else none
/-! ### what is read was written -/
theorem whole_sound {l : List Int} {v : D} {r : List Int} (h : wholeS l = some (v, r)) : 105 :: l = oct v ++ r ∧ good v = true := by
  unfold wholeS at h
  cases l with
  | nil => cases h
  | cons c l' =>
    simp only at h
    by_cases hc : c = 45
    · rw [if_pos hc] at h
      cases hn : numS 59 l' with
      | none => rw [hn] at h; cases h
      | some p =>
        obtain ⟨w, r'⟩ := p
        rw [hn] at h
        simp only at h
        by_cases hw : w = 0
        · rw [if_pos hw] at h; cases h
        · rw [if_neg hw] at h
          cases h
          obtain ⟨n, rfl, hl, _⟩ := num_sound hn
          refine ⟨?_, rfl⟩
          show 105 :: c :: l' = ([105] ++ codes (toString (-(n : Int))) ++ [59]) ++ r
          rw [codes_neg (by omega), hl, hc]
          rw [show (-(n : Int)).natAbs = n by omega]
          simp [List.append_assoc]
    · rw [if_neg hc] at h
      cases hn : numS 59 (c :: l') with
      | none => rw [hn] at h; cases h
      | some p =>
        obtain ⟨w, r'⟩ := p
        rw [hn] at h
        cases h
        obtain ⟨n, rfl, hl, _⟩ := num_sound hn
        refine ⟨?_, rfl⟩
        show 105 :: c :: l' = ([105] ++ codes (toString (n : Int)) ++ [59]) ++ r
        rw [codes_nat, hl]
        simp [List.append_assoc]
theorem text_sound {l : List Int} {v : D} {r : List Int} (h : textS l = some (v, r)) : 115 :: l = oct v ++ r ∧ good v = true := by
  unfold textS at h
  cases hn : numS 58 l with
  | none => rw [hn] at h; cases h
  | some p =>
    obtain ⟨m, r'⟩ := p
    rw [hn] at h
    simp only at h
    by_cases hc : ((r'.take m.toNat).length : Int) = m ∧ (r'.take m.toNat).all okC = true
    · rw [if_pos hc] at h
      cases h
      obtain ⟨h1, h2⟩ := hc
      obtain ⟨n, rfl, hl, _⟩ := num_sound hn
      have h0 : codes (ofCodes (r'.take (n : Int).toNat)) = r'.take (n : Int).toNat := codes_ofC fun c hc => (okC_nn (List.all_eq_true.mp h2 c hc)).1
      refine ⟨?_, ?_⟩
      · show 115 :: l = ([115] ++ (codes (toString (((ofCodes (r'.take (n : Int).toNat)).length : Nat) : Int)) ++ [58] ++ codes (ofCodes (r'.take (n : Int).toNat)))) ++ r'.drop (n : Int).toNat
        rw [h0, of_len, codes_nat]
        rw [show (r'.take (n : Int).toNat).length = n by omega, hl]
        have := List.take_append_drop (n : Int).toNat r'
        simp only [List.append_assoc, List.cons_append, List.nil_append, this]
      · show (codes (ofCodes (r'.take (n : Int).toNat))).all okC = true
        rw [h0]; exact h2
    · rw [if_neg hc] at h; cases h
theorem rdL_sound {rd : List Int → Option (D × List Int)} (hr : ∀ l v r, rd l = some (v, r) → l = oct v ++ r ∧ good v = true) : ∀ (k : Nat) (l : List Int) (ds : List D) (r : List Int), rdL rd k l = some (ds, r) → l = octs ds ++ 41 :: r ∧ goods ds = true
  | 0, _, _, _, h => by cases h
  | _ + 1, [], _, _, h => by cases h
  | k + 1, c :: l, ds, r, h => by
    rw [rdL] at h
    by_cases hc : c = 41
    · rw [if_pos hc] at h
      cases h
      rw [hc]
      exact ⟨rfl, rfl⟩
    · rw [if_neg hc] at h
      cases h1 : rd (c :: l) with
      | none => rw [h1] at h; cases h
      | some p =>
        obtain ⟨d, r1⟩ := p
        rw [h1] at h
        simp only at h
        cases h2 : rdL rd k r1 with
        | none => rw [h2] at h; cases h
        | some p =>
          obtain ⟨es, r2⟩ := p
          rw [h2] at h
          cases h
          obtain ⟨e1, g1⟩ := hr _ _ _ h1
          obtain ⟨e2, g2⟩ := rdL_sound hr k r1 es r h2
          refine ⟨?_, ?_⟩
          · rw [e1, e2]
            show _ = (oct d ++ octs es) ++ _
            rw [List.append_assoc]
          · show (good d && goods es) = true
            rw [g1, g2]; rfl
theorem rd_sound : ∀ (n : Nat) (l : List Int) (v : D) (r : List Int), rd n l = some (v, r) → l = oct v ++ r ∧ good v = true
  | 0, _, _, _, h => by cases h
  | _ + 1, [], _, _, h => by cases h
  | n + 1, c :: l, v, r, h => by
    rw [rd] at h
    by_cases h1 : c = 110
    · rw [if_pos h1] at h; cases h; rw [h1]; exact ⟨rfl, rfl⟩
    rw [if_neg h1] at h
    by_cases h2 : c = 116 ∨ c = 102
    · rw [if_pos h2] at h; cases h
      refine ⟨?_, rfl⟩
      rcases h2 with rfl | rfl <;> rfl
    rw [if_neg h2] at h
    by_cases h3 : c = 105
    · rw [if_pos h3] at h; rw [h3]; exact whole_sound h
    rw [if_neg h3] at h
    by_cases h4 : c = 115
    · rw [if_pos h4] at h; rw [h4]; exact text_sound h
    rw [if_neg h4] at h
    by_cases h5 : c = 40
    · rw [if_pos h5] at h
      cases h6 : rdL (rd n) (l.length + 1) l with
      | none => rw [h6] at h; cases h
      | some p =>
        obtain ⟨ds, r'⟩ := p
        rw [h6] at h
        cases h
        obtain ⟨e, g⟩ := rdL_sound (rd_sound n) _ _ _ _ h6
        refine ⟨?_, g⟩
        rw [h5, e]
        show _ = ([40] ++ octs ds ++ [41]) ++ r
        simp [List.append_assoc]
    · rw [if_neg h5] at h; cases h
/-! ### what is written is read -/
def cnt (l : List Int) : Nat := (l.filter fun c => decide (c = 40)).length
theorem cnt_app (a b : List Int) : cnt (a ++ b) = cnt a + cnt b := by unfold cnt; rw [List.filter_append, List.length_append]
theorem cnt_40 (l : List Int) : cnt (40 :: l) = cnt l + 1 := rfl
theorem cnt_le (l : List Int) : cnt l ≤ l.length := List.length_filter_le _ _
theorem whole_full (i : Int) (r : List Int) : wholeS (codes (toString i) ++ 59 :: r) = some (.int i, r) := by
  by_cases h : i < 0
  · rw [codes_neg h]
    show wholeS (45 :: (up (dig i.natAbs) ++ 59 :: r)) = _
    unfold wholeS
    simp only [↓reduceIte]
    rw [num_full rfl]
    simp only
    rw [if_neg (by omega), show -((i.natAbs : Nat) : Int) = i by omega]
  · rw [codes_pos (by omega)]
    have hf := num_full (e := 59) rfl i.natAbs r
    have h0 := dig_pos i.natAbs
    have ha := isDg_up (digs_all i.natAbs)
    cases hd : dig i.natAbs with
    | nil => rw [hd] at h0; cases h0
    | cons c cs =>
      rw [hd] at hf ha
      have hc : 48 ≤ (c : Int) ∧ (c : Int) ≤ 57 := isDg_iff.mp (ha _ (List.mem_cons_self ..))
      show wholeS ((c : Int) :: (up cs ++ 59 :: r)) = _
      unfold wholeS
      simp only
      rw [if_neg (by omega)]
      have hf : numS 59 ((c : Int) :: (up cs ++ 59 :: r)) = some (((i.natAbs : Nat) : Int), r) := hf
      rw [hf]
      simp only
      rw [show ((i.natAbs : Nat) : Int) = i by omega]
theorem text_full (x : Str) (h : (codes x).all okC = true) (r : List Int) : textS ((codes (toString (x.length : Int)) ++ [58] ++ codes x) ++ r) = some (.str x, r) := by
  rw [codes_nat]
  have := num_full (e := 58) rfl x.length (codes x ++ r)
  unfold textS
  rw [show (up (dig x.length) ++ [58] ++ codes x) ++ r = up (dig x.length) ++ 58 :: (codes x ++ r) by simp [List.append_assoc], this]
  simp only
  have hl := codes_len x
  have e1 : (codes x ++ r).take ((x.length : Nat) : Int).toNat = codes x := by
    rw [show ((x.length : Nat) : Int).toNat = (codes x).length by omega]
    exact List.take_left
  have e2 : (codes x ++ r).drop ((x.length : Nat) : Int).toNat = r := by
    rw [show ((x.length : Nat) : Int).toNat = (codes x).length by omega]
    exact List.drop_left
  rw [e1, e2, if_pos ⟨by omega, h⟩, of_codes]
/-- how a value begins -/
def heads (c : Int) : Bool := decide (c = 110) || decide (c = 116) || decide (c = 102) || decide (c = 105) || decide (c = 115) || decide (c = 40)
theorem oct_head {d : D} (h : good d = true) : ∃ c l, oct d = c :: l ∧ heads c = true := by
  cases d with
  | none => exact ⟨_, _, rfl, rfl⟩
  | bool b => cases b <;> exact ⟨_, _, rfl, rfl⟩
  | int i => exact ⟨_, _, rfl, rfl⟩
  | str x => exact ⟨_, _, rfl, rfl⟩
  | tuple ds => exact ⟨_, _, rfl, rfl⟩
  | list _ => cases h
  | dict _ => cases h
theorem heads_not {c : Int} (h : heads c = true) : c ≠ 41 ∧ isDg c = false := by
  unfold heads at h
  simp only [Bool.or_eq_true, decide_eq_true_eq] at h
  rcases h with ((((h | h) | h) | h) | h) | h <;> subst h <;> exact ⟨by decide, rfl⟩
theorem octs_len {ds : List D} : goods ds = true → ds.length ≤ (octs ds).length := by
  induction ds with
  | nil => intro _; exact Nat.zero_le _
  | cons d ds ih =>
    intro h
    have h : (good d && goods ds) = true := h
    rw [Bool.and_eq_true] at h
    obtain ⟨c, l, e, _⟩ := oct_head h.1
    show _ ≤ (oct d ++ octs ds).length
    have := ih h.2
    rw [List.length_append, e, List.length_cons, List.length_cons]
    omega
mutual
/-- how deep a reader must be let -/
def need : D → Nat
  | .tuple ds => needs ds + 1
  | .none => 1
  | .bool _ => 1
  | .int _ => 1
  | .str _ => 1
  | .list _ => 1
  | .dict _ => 1
def needs : List D → Nat
  | [] => 0
  | d :: ds => max (need d) (needs ds)
end
theorem need_pos (v : D) : 1 ≤ need v := by cases v <;> exact Nat.succ_le_succ (Nat.zero_le _)
mutual
theorem rd_exact : ∀ (v : D) (n : Nat) (r : List Int), good v = true → rd n (oct v ++ r) = if need v ≤ n then some (v, r) else none
  | v, 0, r, _ => by
    have := need_pos v
    rw [if_neg (by omega)]
    rfl
  | .none, n + 1, r, _ => by rw [if_pos (show need .none ≤ n + 1 from Nat.succ_le_succ (Nat.zero_le n))]; rfl
  | .bool b, n + 1, r, _ => by rw [if_pos (show need (.bool b) ≤ n + 1 from Nat.succ_le_succ (Nat.zero_le n))]; cases b <;> rfl
  | .int i, n + 1, r, _ => by
    rw [if_pos (show need (.int i) ≤ n + 1 from Nat.succ_le_succ (Nat.zero_le n))]
    show rd (n + 1) (([105] ++ codes (toString i) ++ [59]) ++ r) = _
    rw [show ([105] ++ codes (toString i) ++ [59]) ++ r = 105 :: (codes (toString i) ++ 59 :: r) by simp [List.append_assoc]]
    exact whole_full i r
  | .str x, n + 1, r, h => by
    rw [if_pos (show need (.str x) ≤ n + 1 from Nat.succ_le_succ (Nat.zero_le n))]
    show rd (n + 1) (([115] ++ (codes (toString (x.length : Int)) ++ [58] ++ codes x)) ++ r) = _
    rw [show ([115] ++ (codes (toString (x.length : Int)) ++ [58] ++ codes x)) ++ r = 115 :: ((codes (toString (x.length : Int)) ++ [58] ++ codes x) ++ r) by simp [List.append_assoc]]
    exact text_full x h r
  | .tuple ds, n + 1, r, h => by
    have hl := octs_len (ds := ds) h
    have := rds_exact ds n (octs ds ++ 41 :: r).length.succ r h (by rw [List.length_append]; simp; omega)
    show rd (n + 1) (([40] ++ octs ds ++ [41]) ++ r) = _
    rw [show ([40] ++ octs ds ++ [41]) ++ r = 40 :: (octs ds ++ 41 :: r) by simp [List.append_assoc]]
    show (match rdL (rd n) ((octs ds ++ 41 :: r).length + 1) (octs ds ++ 41 :: r) with
      | none => none
      | some (ds, r) => some (PyData.tuple ds, r)) = _
    rw [this]
    by_cases c : needs ds ≤ n
    · rw [if_pos c, if_pos (show need (.tuple ds) ≤ n + 1 from Nat.succ_le_succ c)]
    · rw [if_neg c, if_neg (show ¬ need (.tuple ds) ≤ n + 1 from fun h => c (Nat.le_of_succ_le_succ h))]
  | .list _, n + 1, _, h => by cases h
  | .dict _, n + 1, _, h => by cases h
theorem rds_exact : ∀ (ds : List D) (n k : Nat) (r : List Int), goods ds = true → ds.length < k → rdL (rd n) k (octs ds ++ 41 :: r) = if needs ds ≤ n then some (ds, r) else none
  | ds, n, 0, r, _, hk => by omega
  | [], n, k + 1, r, _, _ => by rw [if_pos (show needs [] ≤ n from Nat.zero_le n)]; rfl
  | d :: ds, n, k + 1, r, h, hk => by
    have h : (good d && goods ds) = true := h
    rw [Bool.and_eq_true] at h
    obtain ⟨c, l, e, hc⟩ := oct_head h.1
    have h1 := rd_exact d n (octs ds ++ 41 :: r) h.1
    have h2 := rds_exact ds n k r h.2 (by rw [List.length_cons] at hk; omega)
    show rdL (rd n) (k + 1) ((oct d ++ octs ds) ++ 41 :: r) = _
    rw [List.append_assoc, e, List.cons_append, rdL, if_neg (heads_not hc).1]
    rw [e, List.cons_append] at h1
    rw [h1]
    have hn : needs (d :: ds) = max (need d) (needs ds) := rfl
    by_cases c1 : need d ≤ n
    · rw [if_pos c1]
      simp only [h2]
      by_cases c2 : needs ds ≤ n
      · rw [if_pos c2, if_pos (by rw [hn]; exact Nat.max_le.mpr ⟨c1, c2⟩)]
      · rw [if_neg c2, if_neg (by rw [hn]; exact fun h => c2 (Nat.max_le.mp h).2)]
    · rw [if_neg c1, if_neg (by rw [hn]; exact fun h => c1 (Nat.max_le.mp h).1)]
end
/-- what read tells -/
def readS (xs : List Int) : Option D := match rd 401 xs with
  | some (v, []) => some v
  | _ => none
theorem readS_oct {v : D} (g : good v = true) : readS (oct v) = if need v ≤ 401 then some v else none := by
  have := rd_exact v 401 [] g
  rw [List.append_nil] at this
  unfold readS
  rw [this]
  by_cases c : need v ≤ 401
  · rw [if_pos c, if_pos c]
  · rw [if_neg c, if_neg c]
theorem readS_sound {xs : List Int} {v : D} (h : readS xs = some v) : xs = oct v ∧ good v = true := by
  unfold readS at h
  cases hq : rd 401 xs with
  | none => rw [hq] at h; cases h
  | some q =>
    obtain ⟨w, r⟩ := q
    rw [hq] at h
    cases r with
    | nil =>
      cases h
      have := rd_sound _ _ _ _ hq
      rw [List.append_nil] at this
      exact this
    | cons _ _ => cases h
end K27
namespace K27
open PySem Dat
/-! ### runs of digits -/
def NR (k : Nat) (l : List Int) : Prop := ∀ i, ((l.drop i).takeWhile isDg).length ≤ k
theorem tw_le (a b : List Int) : ((a ++ b).takeWhile isDg).length ≤ (a.takeWhile isDg).length + (b.takeWhile isDg).length := by
  rw [List.takeWhile_append]
  split
  · rename_i h; rw [List.length_append]; omega
  · omega
theorem tw_ge (a b : List Int) : (a.takeWhile isDg).length ≤ ((a ++ b).takeWhile isDg).length := by
  rw [List.takeWhile_append]
  split
  · rename_i h; rw [List.length_append]; omega
  · omega
theorem NR.mono {j k : Nat} {l : List Int} (h : NR j l) (hk : j ≤ k) : NR k l := fun i => Nat.le_trans (h i) hk
theorem NR.len {k : Nat} {l : List Int} (h : l.length ≤ k) : NR k l := fun i => by
  have h1 := (List.takeWhile_prefix (l := l.drop i) isDg).length_le
  rw [List.length_drop] at h1
  omega
theorem NR.left {k : Nat} {a b : List Int} (h : NR k (a ++ b)) : NR k a := fun i => by
  have := h i
  rw [List.drop_append] at this
  exact Nat.le_trans (tw_ge _ _) this
theorem NR.right {k : Nat} {a b : List Int} (h : NR k (a ++ b)) : NR k b := fun i => by
  have := h (a.length + i)
  rw [List.drop_append, List.drop_eq_nil_of_le (by omega), List.nil_append, show a.length + i - a.length = i by omega] at this
  exact this
theorem NR.app {j k : Nat} {a b : List Int} (ha : NR j a) (hb : NR k b) : NR (j + k) (a ++ b) := fun i => by
  rw [List.drop_append]
  have h1 := ha i
  have h2 := hb (i - a.length)
  have := tw_le (a.drop i) (b.drop (i - a.length))
  omega
theorem NR.sep {k : Nat} {a b : List Int} (ha : NR k a) (hb : NR k b) (h0 : b.takeWhile isDg = []) : NR k (a ++ b) := fun i => by
  rw [List.drop_append]
  by_cases hi : i ≤ a.length
  · rw [show i - a.length = 0 by omega, List.drop_zero]
    have := tw_le (a.drop i) b
    rw [h0] at this
    exact Nat.le_trans this (ha i)
  · rw [List.drop_eq_nil_of_le (by omega), List.nil_append]
    exact hb _
theorem NR.take {k : Nat} {a : List Int} (h : NR k a) (n : Nat) : NR k (a.take n) := by
  rw [← List.take_append_drop n a] at h
  exact h.left
theorem NR.drop {k : Nat} {a : List Int} (h : NR k a) (n : Nat) : NR k (a.drop n) := by
  rw [← List.take_append_drop n a] at h
  exact h.right
theorem NR.cons {k : Nat} {c : Int} {a : List Int} (hc : isDg c = false) (h : NR k a) : NR k (c :: a) := fun i => by
  cases i with
  | zero => rw [List.drop_zero, List.takeWhile_cons, hc]; exact Nat.zero_le _
  | succ i => exact h i
theorem head_tw {c : Int} {l : List Int} (hc : isDg c = false) : (c :: l).takeWhile isDg = [] := by rw [List.takeWhile_cons, hc]; rfl
/-! ### bounded values -/
theorem nat_lt_of_run {n k : Nat} (h : (up (dig n)).length ≤ k) (hk : 0 < k) : n < 10 ^ k := by
  unfold up dig at h
  rw [List.length_map, List.length_map] at h
  exact (Nat.length_toDigits_le_iff (by decide) hk).mp h
theorem strw_of {n : Nat} (h : (up (dig n)).length ≤ 77) : n < STRW := nat_lt_of_run h (by decide)
theorem tw_all {ds : List Int} (h : ∀ c ∈ ds, isDg c = true) : ds.takeWhile isDg = ds := by
  induction ds with
  | nil => rfl
  | cons d ds ih => rw [List.takeWhile_cons, h d (List.mem_cons_self ..), ih fun c hc => h c (List.mem_cons_of_mem _ hc)]; rfl
theorem NR.digits {n k : Nat} {a b : List Int} (h : NR k (a ++ (up (dig n) ++ b))) : (up (dig n)).length ≤ k := by
  have := h.right.left 0
  rw [List.drop_zero, tw_all (isDg_up (digs_all n))] at this
  exact this
mutual
theorem okV_of : ∀ (n : Nat) (v : D), good v = true → cnt (oct v) ≤ n → NR 77 (oct v) → (oct v).length ≤ 90000 → okV n v = true
  | n, .none, _, _, _, _ => by cases n <;> rfl
  | n, .bool _, _, _, _, _ => by cases n <;> rfl
  | n, .int i, _, _, hr, _ => by
    have : i.natAbs < STRW := by
      have hr : NR 77 ([105] ++ codes (toString i) ++ [59]) := hr
      by_cases h : i < 0
      · rw [codes_neg h] at hr
        have : NR 77 ([105, 45] ++ (up (dig i.natAbs) ++ [59])) := hr
        exact strw_of this.digits
      · rw [codes_pos (by omega), List.append_assoc] at hr
        exact strw_of hr.digits
    cases n <;> exact decide_eq_true this
  | n, .str x, _, _, _, hl => by
    have : x.length ≤ 90000 := by
      have hl : ([115] ++ (codes (toString (x.length : Int)) ++ [58] ++ codes x)).length ≤ 90000 := hl
      rw [List.length_append, List.length_append, codes_len x] at hl
      omega
    cases n <;> exact decide_eq_true this
  | 0, .tuple ds, _, hc, _, _ => by
    have : cnt (40 :: (octs ds ++ [41])) ≤ 0 := hc
    rw [cnt_40] at this
    omega
  | n + 1, .tuple ds, g, hc, hr, hl => by
    have hc : cnt (40 :: (octs ds ++ [41])) ≤ n + 1 := hc
    rw [cnt_40, cnt_app] at hc
    have hr : NR 77 ([40] ++ octs ds ++ [41]) := hr
    have hl : ([40] ++ octs ds ++ [41]).length ≤ 90000 := hl
    rw [List.length_append, List.length_append] at hl
    have g : goods ds = true := g
    have h1 := okVs_of n ds g (by omega) hr.left.right (by omega)
    have h2 := octs_len g
    show (okVs n ds && decide (ds.length ≤ 90000)) = true
    rw [h1, decide_eq_true (by omega)]
    rfl
  | n, .list _, g, _, _, _ => by cases g
  | n, .dict _, g, _, _, _ => by cases g
theorem okVs_of : ∀ (n : Nat) (ds : List D), goods ds = true → cnt (octs ds) ≤ n → NR 77 (octs ds) → (octs ds).length ≤ 90000 → okVs n ds = true
  | n, [], _, _, _, _ => by cases n <;> rfl
  | n, d :: ds, g, hc, hr, hl => by
    have g : (good d && goods ds) = true := g
    rw [Bool.and_eq_true] at g
    have hc : cnt (oct d ++ octs ds) ≤ n := hc
    have hr : NR 77 (oct d ++ octs ds) := hr
    have hl : (oct d ++ octs ds).length ≤ 90000 := hl
    rw [cnt_app] at hc
    rw [List.length_append] at hl
    have h1 := okV_of n d g.1 (by omega) hr.left (by omega)
    have h2 := okVs_of n ds g.2 (by omega) hr.right (by omega)
    have e : okVs n (d :: ds) = (okV n d && okVs n ds) := by cases n <;> rfl
    rw [e, h1, h2]
    rfl
end
/-- a small value -/
structure Pv (L C : Nat) (v : D) : Prop where
  g : good v = true
  l : (oct v).length ≤ L
  c : cnt (oct v) ≤ C
  r : NR 31 (oct v)
theorem Pv.mono {L C L' C' : Nat} {v : D} (h : Pv L C v) (hL : L ≤ L') (hC : C ≤ C') : Pv L' C' v := ⟨h.g, Nat.le_trans h.l hL, Nat.le_trans h.c hC, h.r⟩
theorem pv_none : Pv 34 1 .none := ⟨rfl, by decide, by decide, NR.len (by decide)⟩
theorem pv_bool (b : Bool) : Pv 34 1 (.bool b) := by cases b <;> exact ⟨rfl, by decide, by decide, NR.len (by decide)⟩
theorem pv_unit : Pv 34 1 (.tuple []) := ⟨rfl, by decide, by decide, NR.len (by decide)⟩
theorem cnt_dig (n : Nat) : cnt (up (dig n)) = 0 := by
  unfold cnt
  rw [List.filter_eq_nil_iff.mpr, List.length_nil]
  intro c hc
  have := isDg_iff.mp (isDg_up (digs_all n) c hc)
  rw [decide_eq_true_eq]
  omega
theorem dig_len' {n k : Nat} (hk : 0 < k) (h : n < 10 ^ k) : (up (dig n)).length ≤ k := by
  unfold up dig
  rw [List.length_map, List.length_map]
  exact (Nat.length_toDigits_le_iff (by decide) hk).mpr h
theorem pv_int (i : Int) (h : i.natAbs < 10 ^ 31) : Pv 34 1 (.int i) := by
  have hd := dig_len' (k := 31) (by decide) h
  have hc := cnt_dig i.natAbs
  have nr : NR 31 (up (dig i.natAbs) ++ [59]) := NR.sep (NR.len hd) (NR.len (by decide)) rfl
  by_cases h : i < 0
  · have e : oct (.int i) = [105, 45] ++ (up (dig i.natAbs) ++ [59]) := by
      show [105] ++ codes (toString i) ++ [59] = _
      rw [codes_neg h]; rfl
    refine ⟨rfl, ?_, ?_, ?_⟩
    · rw [e, List.length_append, List.length_append]; simp only [List.length_cons, List.length_nil]; omega
    · rw [e, cnt_app, cnt_app, hc]; decide
    · rw [e]; exact NR.cons rfl (NR.cons rfl nr)
  · have e : oct (.int i) = [105] ++ (up (dig i.natAbs) ++ [59]) := by
      show [105] ++ codes (toString i) ++ [59] = _
      rw [codes_pos (by omega), List.append_assoc]
    refine ⟨rfl, ?_, ?_, ?_⟩
    · rw [e, List.length_append, List.length_append]; simp only [List.length_cons, List.length_nil]; omega
    · rw [e, cnt_app, cnt_app, hc]; decide
    · rw [e]; exact NR.cons rfl nr
theorem pv_str (x : Str) (h1 : (codes x).all okC = true) (h2 : x.length ≤ 12) (h3 : cnt (codes x) ≤ 1) : Pv 34 1 (.str x) := by
  have hd := dig_len' (n := x.length) (k := 2) (by decide) (by omega)
  have hc := cnt_dig x.length
  have hl := codes_len x
  have e : oct (.str x) = [115] ++ (up (dig x.length) ++ [58] ++ codes x) := by
    show [115] ++ (codes (toString (x.length : Int)) ++ [58] ++ codes x) = _
    rw [codes_nat]
  have l : (oct (.str x)).length ≤ 16 := by
    rw [e, List.length_append, List.length_append, List.length_append]; simp only [List.length_cons, List.length_nil]; omega
  refine ⟨h1, Nat.le_trans l (by decide), ?_, NR.len (Nat.le_trans l (by decide))⟩
  rw [e, cnt_app, cnt_app, cnt_app, hc]
  have : cnt [115] = 0 := rfl
  have : cnt [58] = 0 := rfl
  omega
theorem pv_as (n : Nat) (hn : n < 1000) (x : Str) (hx : codes x = List.replicate n 97) : Pv 1010 0 (.str x) := by
  have hl : x.length = n := by rw [← codes_len, hx, List.length_replicate]
  have hd := dig_len' (n := n) (k := 3) (by decide) (by omega)
  have hc := cnt_dig n
  have e : oct (.str x) = [115] ++ (up (dig n) ++ ([58] ++ List.replicate n 97)) := by
    show [115] ++ (codes (toString (x.length : Int)) ++ [58] ++ codes x) = _
    rw [codes_nat, hl, hx, List.append_assoc]
  have c0 : cnt (List.replicate n 97) = 0 := by
    unfold cnt
    rw [List.filter_eq_nil_iff.mpr, List.length_nil]
    intro c hc
    rw [List.eq_of_mem_replicate hc]
    decide
  have r0 : ∀ m, NR 0 (List.replicate m 97) := by
    intro m
    induction m with
    | zero => exact NR.len (by decide)
    | succ m ih => rw [List.replicate_succ]; exact NR.cons rfl ih
  refine ⟨?_, ?_, ?_, ?_⟩
  · show (codes x).all okC = true
    rw [hx, List.all_replicate]
    simp [okC]
  · rw [e, List.length_append, List.length_append, List.length_append, List.length_replicate]; simp only [List.length_cons, List.length_nil]; omega
  · rw [e, cnt_app, cnt_app, cnt_app, hc, c0]; decide
  · rw [e]
    have a1 : NR 31 (up (dig n)) := (NR.len hd).mono (by decide)
    have a2 : NR 31 ([58] ++ List.replicate n 97) := NR.cons rfl ((r0 n).mono (by decide))
    have a3 : NR 31 (up (dig n) ++ ([58] ++ List.replicate n 97)) := NR.sep a1 a2 (head_tw rfl)
    exact NR.cons rfl a3
theorem pv_octs {L C : Nat} : ∀ (ds : List D), (∀ d ∈ ds, Pv L C d) → goods ds = true ∧ (octs ds).length ≤ ds.length * L ∧ cnt (octs ds) ≤ ds.length * C ∧ NR 31 (octs ds) ∧ (octs ds).takeWhile isDg = []
  | [], _ => ⟨rfl, by simp [octs], by simp [octs, cnt], NR.len (by decide), rfl⟩
  | d :: ds, h => by
    have h1 := h d (List.mem_cons_self ..)
    obtain ⟨g, l, c, r, t⟩ := pv_octs ds fun x hx => h x (List.mem_cons_of_mem _ hx)
    obtain ⟨x, y, e, hx⟩ := oct_head h1.g
    refine ⟨?_, ?_, ?_, NR.sep h1.r r t, ?_⟩
    · show (good d && goods ds) = true
      rw [h1.g, g]; rfl
    · show (oct d ++ octs ds).length ≤ (ds.length + 1) * L
      rw [List.length_append, Nat.succ_mul]
      have := h1.l
      omega
    · show cnt (oct d ++ octs ds) ≤ (ds.length + 1) * C
      rw [cnt_app, Nat.succ_mul]
      have := h1.c
      omega
    · show (oct d ++ octs ds).takeWhile isDg = []
      rw [e]
      exact head_tw (heads_not hx).2
theorem pv_tuple {L C : Nat} {ds : List D} {n : Nat} (h : ∀ d ∈ ds, Pv L C d) (hn : ds.length ≤ n) : Pv (n * L + 2) (n * C + 1) (.tuple ds) := by
  obtain ⟨g, l, c, r, t⟩ := pv_octs ds h
  have e : oct (.tuple ds) = [40] ++ (octs ds ++ [41]) := by
    show [40] ++ octs ds ++ [41] = _
    rw [List.append_assoc]
  have h1 := Nat.mul_le_mul_right L hn
  have h2 := Nat.mul_le_mul_right C hn
  refine ⟨g, ?_, ?_, ?_⟩
  · rw [e, List.length_append, List.length_append]; simp only [List.length_cons, List.length_nil]; omega
  · rw [e, cnt_app, cnt_app]
    have : cnt [40] = 1 := rfl
    have : cnt [41] = 0 := rfl
    omega
  · rw [e]
    have a3 : NR 31 (octs ds ++ [41]) := NR.sep r (NR.len (by decide)) rfl
    exact NR.cons rfl a3
end K27
namespace K27
open PySem L2 Dat
/-! ### lists of octets as data -/
theorem len_o (xs : List Int) : fLen (octD xs) = some (.int (xs.length : Int)) := by
  show some (PyData.int ((xs.map PyData.int).length : Nat)) = _
  rw [List.length_map]
theorem ix_o {xs : List Int} {k : Nat} {c : Int} (h : xs[k]? = some c) {i : Int} (hi : i = (k : Int)) : fIx (octD xs) (.int i) = some (.int c) := by
  subst hi
  obtain ⟨hk, hc⟩ := List.getElem?_eq_some_iff.mp h
  show atI (xs.map PyData.int) (k : Int) = _
  unfold atI ixN
  rw [List.length_map]
  simp [hk, hc]
theorem lt_i (a b : Int) : fLt (.int a) (.int b) = some (.bool (decide (a < b))) := rfl
theorem eq_i (a b : Int) : fEq (.int a) (.int b) = some (.bool (a == b)) := rfl
theorem ne_i (a b : Int) : fNe (.int a) (.int b) = some (.bool (!(a == b))) := rfl
theorem add_i (a b : Int) : fPlus (.int a) (.int b) = some (.int (a + b)) := rfl
/-- what a read gives, against its plain counterpart -/
def Reads (res : Option (Rs D)) (xs : List Int) : Option (D × List Int) → Prop
  | none => ∃ c, res = some (.er c)
  | some (v, r) => ∃ p : Nat, res = some (.ok (.tuple [v, .int (p : Int)])) ∧ p ≤ xs.length ∧ xs.drop p = r
theorem drop_at {xs : List Int} {k : Nat} {c : Int} {l : List Int} (h : xs.drop k = c :: l) : xs[k]? = some c ∧ k < xs.length ∧ xs.drop (k + 1) = l := by
  have h1 : k < xs.length := by
    rcases Nat.lt_or_ge k xs.length with h1 | h1
    · exact h1
    · rw [List.drop_eq_nil_of_le h1] at h; cases h
  have h2 := List.drop_eq_getElem_cons h1
  rw [h] at h2
  injection h2 with h3 h4
  exact ⟨by rw [List.getElem?_eq_getElem h1, h3], h1, h4.symm⟩
theorem drop_nil {xs : List Int} {k : Nat} (h : xs.drop k = []) : xs.length ≤ k := by
  rcases Nat.lt_or_ge k xs.length with h1 | h1
  · rw [List.drop_eq_getElem_cons h1] at h; cases h
  · exact h1
/-! ### _number -/
def TN : M Bool := (mAnd (mAsB (mOp2 fLt (mVar 1) (mOp1 fLen (mVar 0)))) (mChain fLe fLe (mOp1 fOrd (mC (.str "0"))) (mOp2 fIx (mVar 0) (mVar 1)) (mOp1 fOrd (mC (.str "9")))))
def BN : MS := (mSeq (mAsg (mOp2 fSub (mOp2 fPlus (mOp2 fMul (mVar 4) (mC (.int 10))) (mOp2 fIx (mVar 0) (mVar 1))) (mOp1 fOrd (mC (.str "0")))) (asgD 4))
  (mAsg (mOp2 fPlus (mVar 1) (mC (.int 1))) (asgD 1)))
abbrev stN (xs : List Int) (at_ : Int) (e : D) (s a : Int) : List Sl := [.dat (octD xs), .dat (.int at_), .dat e, .dat (.int s), .dat (.int a)]
theorem lt_len {xs : List Int} (hl : xs.length ≤ 90000) (p : Int) {ρ : List Sl} (h0 : ρ[0]? = some (.dat (octD xs))) (h1 : ρ[1]? = some (.dat (.int p))) : Tb (mAsB (mOp2 fLt (mVar 1) (mOp1 fLen (mVar 0)))) ρ (decide (p < (xs.length : Int))) :=
  Tb.asB (Ef.op2 (Ef.v h1).ev (Ef.op1 (Ef.v h0).ev (len_o xs)).ev (lt_i _ _)).ev
theorem ix_at {xs : List Int} {k : Nat} {c : Int} (h : xs[k]? = some c) {ρ : List Sl} (h0 : ρ[0]? = some (.dat (octD xs))) {j : Nat} (h1 : ρ[j]? = some (.dat (.int (k : Int)))) : Ev (mOp2 fIx (mVar 0) (mVar j)) ρ (.int c) :=
  (Ef.op2 (Ef.v h0).ev (Ef.v h1).ev (ix_o h rfl)).ev
theorem ord_k {x : Str} {c : Int} (h : fOrd (.str x) = some (.int c)) (ρ : List Sl) : Ev (mOp1 fOrd (mC (.str x))) ρ (.int c) := (Ef.op1 (Ef.c _ ρ).ev h).ev
theorem tn_in {xs : List Int} (hl : xs.length ≤ 90000) {k : Nat} {c : Int} (h : xs[k]? = some c) (e : D) (s a : Int) : Tb TN (stN xs k e s a) (isDg c) := by
  have hk : k < xs.length := (List.getElem?_eq_some_iff.mp h).1
  have e1 : Tb (mAsB (mOp2 fLt (mVar 1) (mOp1 fLen (mVar 0)))) (stN xs k e s a) true := (lt_len hl k rfl rfl).to (decide_eq_true (by omega))
  have hx : Ev (mOp2 fIx (mVar 0) (mVar 1)) (stN xs k e s a) (.int c) := ix_at h rfl rfl
  have h0 : Ev (mOp1 fOrd (mC (.str "0"))) (stN xs k e s a) (.int 48) := ord_k rfl _
  have h9 : Ev (mOp1 fOrd (mC (.str "9"))) (stN xs k e s a) (.int 57) := ord_k rfl _
  refine Tb.andt e1 ?_
  by_cases c1 : (48 : Int) ≤ c
  · have : isDg c = decide (c ≤ 57) := by unfold isDg; rw [decide_eq_true c1]; rfl
    rw [this]
    exact Tb.chaint h0 hx h9 (by show some (PyData.bool (decide ((48 : Int) ≤ c))) = _; rw [decide_eq_true c1]) rfl
  · have : isDg c = false := by unfold isDg; rw [decide_eq_false c1]; rfl
    rw [this]
    exact Tb.chainf h0 hx (by show some (PyData.bool (decide ((48 : Int) ≤ c))) = _; rw [decide_eq_false c1])
theorem tn_out {xs : List Int} (hl : xs.length ≤ 90000) {k : Nat} (h : xs.length ≤ k) (e : D) (s a : Int) : Tb TN (stN xs k e s a) false :=
  Tb.andf ((lt_len hl k rfl rfl).to (decide_eq_false (by omega)))
theorem mul10 (a : Int) : fMul (.int a) (.int 10) = some (.int (a * 10)) := by
  show (if mulOk a 10 = true then some (PyData.int (a * 10)) else none) = _
  rw [if_pos (by unfold mulOk; simp)]
theorem bn_ok {xs : List Int} {k : Nat} {c : Int} (h : xs[k]? = some c) (e : D) (s a : Int) : BN (stN xs k e s a) = some (.nx, stN xs ((k + 1 : Nat) : Int) e s (a * 10 + c - 48)) := by
  have hx : Ev (mOp2 fIx (mVar 0) (mVar 1)) (stN xs k e s a) (.int c) := ix_at h rfl rfl
  have e1 : Ef (mOp2 fSub (mOp2 fPlus (mOp2 fMul (mVar 4) (mC (.int 10))) (mOp2 fIx (mVar 0) (mVar 1))) (mOp1 fOrd (mC (.str "0")))) (stN xs k e s a) (.int (a * 10 + c - 48)) :=
    Ef.op2 (Ef.op2 (Ef.op2 (Ef.v rfl).ev (Ef.c _ _).ev (mul10 a)).ev hx rfl).ev (ord_k rfl _) rfl
  unfold BN
  rw [seq_asg (ρ' := stN xs k e s (a * 10 + c - 48)) e1 rfl]
  exact st_asg (Ef.op2 (Ef.v (d := .int (k : Int)) rfl).ev (Ef.c _ _).ev rfl) rfl
theorem loop_n {xs : List Int} (hl : xs.length ≤ 90000) (e : D) (s : Int) : ∀ (ds rest : List Int) (k : Nat) (a : Int) (n : Nat), xs.drop k = ds ++ rest → (∀ c ∈ ds, isDg c = true) → (∀ c r, rest = c :: r → isDg c = false) → ds.length < n →
    loopW TN BN n (stN xs k e s a) = some (.nx, stN xs ((k + ds.length : Nat) : Int) e s (ds.foldl (fun a c => a * 10 + c - 48) a))
  | _, _, _, _, 0, _, _, _, hn => by omega
  | [], rest, k, a, n + 1, hd, _, hr, _ => by
    have : Tb TN (stN xs k e s a) false := by
      cases rest with
      | nil => exact tn_out hl (drop_nil hd) e s a
      | cons c r => exact (tn_in hl (drop_at hd).1 e s a).to (hr c r rfl)
    unfold loopW
    rw [this]
    rfl
  | c :: ds, rest, k, a, n + 1, hd, ha, hr, hn => by
    obtain ⟨h1, h2, h3⟩ := drop_at hd
    have ht : Tb TN (stN xs k e s a) true := (tn_in hl h1 e s a).to (ha c (List.mem_cons_self ..))
    have ih := loop_n hl e s ds rest (k + 1) (a * 10 + c - 48) n h3 (fun x hx => ha x (List.mem_cons_of_mem _ hx)) hr (by rw [List.length_cons] at hn; omega)
    unfold loopW
    rw [ht]
    simp only [bn_ok h1]
    rw [ih, List.length_cons, List.foldl_cons, show k + 1 + ds.length = k + (ds.length + 1) by omega]
theorem number_ok {xs : List Int} (hl : xs.length ≤ 90000) {e : Str} {ec : Int} (he : fOrd (.str e) = some (.int ec)) (k : Nat) (hk : k ≤ xs.length) : Reads (f_d_u_number [octD xs, .int (k : Int), .str e]) xs ((numS ec (xs.drop k)).map fun p => (.int p.1, p.2)) := by
  have hf : f_d_u_number [octD xs, .int (k : Int), .str e] = match m_d_u_number [.dat (octD xs), .dat (.int (k : Int)), .dat (.str e), .un, .un] with
    | some (.rt d, _) => some (.ok d)
    | some (.nx, _) => some (.ok .none)
    | some (.er c, _) => some (.er c)
    | _ => none := rfl
  have hl2 := List.takeWhile_append_dropWhile (p := isDg) (l := xs.drop k)
  generalize hds : (xs.drop k).takeWhile isDg = ds at hl2
  generalize hrs : (xs.drop k).dropWhile isDg = rest at hl2
  have hd : ∀ c ∈ ds, isDg c = true := fun c hc => by
    rw [← hds] at hc
    exact List.all_eq_true.mp List.all_takeWhile c hc
  have hr : ∀ c r, rest = c :: r → isDg c = false := fun c r h => by
    have := List.head?_dropWhile_not isDg (xs.drop k)
    rw [hrs, h] at this
    simpa using this
  have hlen : k + ds.length + rest.length = xs.length := by
    have := congrArg List.length hl2
    rw [List.length_append, List.length_drop] at this
    omega
  have hloop := loop_n hl (.str e) k ds rest k 0 100000 hl2.symm hd hr (by omega)
  have hend : xs.drop (k + ds.length) = rest := by
    rw [← List.drop_drop, ← hl2, List.drop_left]
  -- the walk up to the loop's end
  have e1 : m_d_u_number [.dat (octD xs), .dat (.int (k : Int)), .dat (.str e), .un, .un] =
      (mSeq (mIfS (mOr (mAsB (mOp2 fEq (mVar 1) (mVar 3))) (mOr (mAsB (mOp2 fGe (mVar 1) (mOp1 fLen (mVar 0)))) (mAsB (mOp2 fNe (mOp2 fIx (mVar 0) (mVar 1)) (mOp1 fOrd (mVar 2)))))) mRaise mSkip)
  (mSeq (mIfS (mAnd (mAsB (mOp2 fEq (mOp2 fIx (mVar 0) (mVar 3)) (mOp1 fOrd (mC (.str "0"))))) (mAsB (mOp2 fGt (mOp2 fSub (mVar 1) (mVar 3)) (mC (.int 1))))) mRaise mSkip)
  (mRetS (mTup (mCons (mVar 4) (mCons (mOp2 fPlus (mVar 1) (mC (.int 1))) mNil)))))) (stN xs ((k + ds.length : Nat) : Int) (.str e) k (valI ds)) := by
    unfold m_d_u_number
    rw [seq_asg (ρ' := [.dat (octD xs), .dat (.int (k : Int)), .dat (.str e), .dat (.int (k : Int)), .un]) (Ef.v (d := .int (k : Int)) rfl) rfl, seq_asg (ρ' := stN xs k (.str e) k 0) (Ef.c (.int 0) _) rfl]
    exact mSeq_ok hloop
  -- the first test
  have t1 : Tb (mAsB (mOp2 fEq (mVar 1) (mVar 3))) (stN xs ((k + ds.length : Nat) : Int) (.str e) k (valI ds)) (((k + ds.length : Nat) : Int) == (k : Int)) := Tb.asB (Ef.op2 (Ef.v rfl).ev (Ef.v rfl).ev (eq_i _ _)).ev
  have t2 : Tb (mAsB (mOp2 fGe (mVar 1) (mOp1 fLen (mVar 0)))) (stN xs ((k + ds.length : Nat) : Int) (.str e) k (valI ds)) (decide ((xs.length : Int) ≤ ((k + ds.length : Nat) : Int))) := Tb.asB (Ef.op2 (Ef.v rfl).ev (Ef.op1 (Ef.v rfl).ev (len_o xs)).ev rfl).ev
  rw [hf, e1]
  unfold numS
  rw [hrs, hds]
  by_cases c0 : ds = []
  · have : Tb (mAsB (mOp2 fEq (mVar 1) (mVar 3))) (stN xs ((k + ds.length : Nat) : Int) (.str e) k (valI ds)) true := t1.to (by rw [c0]; simp)
    rw [if_raise (Tb.ort this)]
    rw [c0]
    cases rest with
    | nil => exact ⟨0, rfl⟩
    | cons c r =>
      have : ¬ (c = ec ∧ canon [] = true) := fun h => nomatch h.2
      simp only [if_neg this]
      exact ⟨0, rfl⟩
  have hpos : 0 < ds.length := List.length_pos_iff.mpr c0
  have t1' := t1.to (b' := false) (by simp; omega)
  cases rest with
  | nil =>
    have : Tb (mAsB (mOp2 fGe (mVar 1) (mOp1 fLen (mVar 0)))) (stN xs ((k + ds.length : Nat) : Int) (.str e) k (valI ds)) true := t2.to (decide_eq_true (by simp at hlen; omega))
    rw [if_raise (Tb.orf t1' (Tb.ort this))]
    exact ⟨0, rfl⟩
  | cons c r =>
    obtain ⟨g1, g2, g3⟩ := drop_at hend
    have t2' := t2.to (b' := false) (decide_eq_false (by omega))
    have t3 : Tb (mAsB (mOp2 fNe (mOp2 fIx (mVar 0) (mVar 1)) (mOp1 fOrd (mVar 2)))) (stN xs ((k + ds.length : Nat) : Int) (.str e) k (valI ds)) (!(c == ec)) :=
      Tb.asB (Ef.op2 (ix_at g1 rfl rfl) (Ef.op1 (Ef.v rfl).ev he).ev (ne_i _ _)).ev
    by_cases c1 : c = ec
    · have t3' := t3.to (b' := false) (by simp [c1])
      rw [st_skip (Tb.orf t1' (Tb.orf t2' t3'))]
      obtain ⟨d0, ds', rfl⟩ : ∃ d0 ds', ds = d0 :: ds' := by
        cases ds with
        | nil => exact absurd rfl c0
        | cons a b => exact ⟨a, b, rfl⟩
      have gk : xs[k]? = some d0 := (drop_at (l := ds' ++ c :: r) hl2.symm).1
      have t4 : Tb (mAsB (mOp2 fEq (mOp2 fIx (mVar 0) (mVar 3)) (mOp1 fOrd (mC (.str "0"))))) (stN xs ((k + (d0 :: ds').length : Nat) : Int) (.str e) k (valI (d0 :: ds'))) (d0 == 48) :=
        Tb.asB (Ef.op2 (ix_at gk rfl rfl) (ord_k rfl _) (eq_i _ _)).ev
      have t5 : Tb (mAsB (mOp2 fGt (mOp2 fSub (mVar 1) (mVar 3)) (mC (.int 1)))) (stN xs ((k + (d0 :: ds').length : Nat) : Int) (.str e) k (valI (d0 :: ds'))) (decide ((1 : Int) < ((k + (d0 :: ds').length : Nat) : Int) - (k : Int))) :=
        Tb.asB (Ef.op2 (Ef.op2 (Ef.v rfl).ev (Ef.v rfl).ev rfl).ev (Ef.c _ _).ev rfl).ev
      by_cases c2 : canon (d0 :: ds') = true
      · have t6 : Tb (mAnd (mAsB (mOp2 fEq (mOp2 fIx (mVar 0) (mVar 3)) (mOp1 fOrd (mC (.str "0"))))) (mAsB (mOp2 fGt (mOp2 fSub (mVar 1) (mVar 3)) (mC (.int 1))))) (stN xs ((k + (d0 :: ds').length : Nat) : Int) (.str e) k (valI (d0 :: ds'))) false := by
          by_cases c3 : d0 = 48
          · have : ds' = [] := by
              cases ds' with
              | nil => rfl
              | cons x y => exact absurd c3 (of_decide_eq_true (p := d0 ≠ 48) c2)
            subst this
            exact Tb.andt (t4.to (by simp [c3])) (t5.to (decide_eq_false (by simp; omega)))
          · exact Tb.andf (t4.to (by simp [c3]))
        rw [st_skip t6]
        simp only [c1, c2, and_self, ↓reduceIte, Option.map_some]
        refine ⟨k + (d0 :: ds').length + 1, ?_, by omega, by rw [g3]⟩
        rw [st_ret (Ef.tup (.cons (Ef.v rfl) (.one (Ef.op2 (Ef.v rfl).ev (Ef.c _ _).ev rfl))))]
        rfl
      · have hds2 : d0 = 48 ∧ ds' ≠ [] := by
          cases ds' with
          | nil => exact absurd rfl c2
          | cons x y =>
            refine ⟨?_, fun z => nomatch z⟩
            rcases Decidable.em (d0 = 48) with h | h
            · exact h
            · exact absurd (decide_eq_true (p := d0 ≠ 48) h) c2
        have hp2 : 0 < ds'.length := List.length_pos_iff.mpr hds2.2
        rw [if_raise (Tb.andt (t4.to (by simp [hds2.1])) (t5.to (decide_eq_true (by simp only [List.length_cons]; omega))))]
        simp only [c2, and_false, ↓reduceIte, Option.map_none, Bool.false_eq_true]
        exact ⟨0, rfl⟩
    · have t3' := t3.to (b' := true) (by simp [c1])
      rw [if_raise (Tb.orf t1' (Tb.orf t2' t3'))]
      simp only [c1, false_and, ↓reduceIte, Option.map_none]
      exact ⟨0, rfl⟩
end K27
namespace K27
open PySem L2 Dat
theorem runR_rt {n N : Nat} {ms : MS} {ds : List D} {d : D} {ρ' : List Sl} (hn : ds.length = n) (h : ms (ds.map Sl.dat ++ List.replicate (N - n) .un) = some (.rt d, ρ')) : runR n N ms ds = some (.ok d) := by
  unfold runR
  rw [if_pos hn, h]
theorem runR_er {n N : Nat} {ms : MS} {ds : List D} {c : Nat} {ρ' : List Sl} (hn : ds.length = n) (h : ms (ds.map Sl.dat ++ List.replicate (N - n) .un) = some (.er c, ρ')) : runR n N ms ds = some (.er c) := by
  unfold runR
  rw [if_pos hn, h]
theorem runP_rt {n N : Nat} {ms : MS} {ds : List D} {d : D} {ρ' : List Sl} (hn : ds.length = n) (h : ms (ds.map Sl.dat ++ List.replicate (N - n) .un) = some (.rt d, ρ')) : runP n N ms ds = some d := by
  unfold runP
  rw [if_pos hn, h]
/-! ### _whole -/
abbrev stW (xs : List Int) (k : Int) (s2 s3 : Sl) : List Sl := [.dat (octD xs), .dat (.int k), s2, s3]
theorem int_cast1 (k : Nat) : ((k + 1 : Nat) : Int) = (k : Int) + 1 := rfl
theorem numArg {xs : List Int} {k : Nat} {e : Str} {ρ : List Sl} (h0 : ρ[0]? = some (.dat (octD xs))) (h1 : ρ[1]? = some (.dat (.int (k : Int)))) : Es (mCons (mVar 0) (mCons (mOp2 fPlus (mVar 1) (mC (.int 1))) (mCons (mC (.str e)) mNil))) ρ [octD xs, .int ((k + 1 : Nat) : Int), .str e] :=
  .cons (Ef.v h0) (.cons (Ef.op2 (Ef.v h1).ev (Ef.c _ _).ev rfl) (.one (Ef.c _ _)))
theorem whole_ok {xs : List Int} (hl : xs.length ≤ 90000) (k : Nat) (hk : k ≤ xs.length) : Reads (f_d_u_whole [octD xs, .int (k : Int)]) xs (wholeS (xs.drop k)) := by
  have t1 : Tb (mAsB (mOp2 fLt (mVar 1) (mOp1 fLen (mVar 0)))) (stW xs k .un .un) (decide ((k : Int) < (xs.length : Int))) := lt_len hl k rfl rfl
  have hn := number_ok hl (e := ";") (ec := 59) rfl k hk
  have hA : Es (mCons (mVar 0) (mCons (mVar 1) (mCons (mC (.str ";")) mNil))) (stW xs k .un .un) [octD xs, .int (k : Int), .str ";"] := .cons (Ef.v rfl) (.cons (Ef.v rfl) (.one (Ef.c _ _)))
  have plain : Tb (mAnd (mAsB (mOp2 fLt (mVar 1) (mOp1 fLen (mVar 0)))) (mAsB (mOp2 fEq (mOp2 fIx (mVar 0) (mVar 1)) (mOp1 fOrd (mC (.str "-")))))) (stW xs k .un .un) false →
      Reads (f_d_u_whole [octD xs, .int (k : Int)]) xs ((numS 59 (xs.drop k)).map fun p => (.int p.1, p.2)) := by
    intro ht
    have e1 : m_d_u_whole (stW xs k .un .un) = mRetS (mCallR f_d_u_number (mCons (mVar 0) (mCons (mVar 1) (mCons (mC (.str ";")) mNil)))) (stW xs k .un .un) := by
      unfold m_d_u_whole
      exact st_skip ht
    cases hs : numS 59 (xs.drop k) with
    | none =>
      rw [hs] at hn
      obtain ⟨c, hc⟩ := hn
      exact ⟨0, runR_er (ρ' := stW xs k .un .un) rfl (e1.trans (ret_er (callR_er hA hc)))⟩
    | some p =>
      rw [hs] at hn
      obtain ⟨q, hq, h1, h2⟩ := hn
      exact ⟨q, runR_rt (ρ' := stW xs k .un .un) rfl (e1.trans (st_ret (Ef.callR hA hq))), h1, h2⟩
  cases hx : xs.drop k with
  | nil =>
    have := plain (Tb.andf (t1.to (decide_eq_false (by have := drop_nil hx; omega))))
    rw [hx] at this
    exact this
  | cons c l =>
    obtain ⟨g1, g2, g3⟩ := drop_at hx
    have t1' := t1.to (b' := true) (decide_eq_true (by omega))
    have t2 : Tb (mAsB (mOp2 fEq (mOp2 fIx (mVar 0) (mVar 1)) (mOp1 fOrd (mC (.str "-"))))) (stW xs k .un .un) (c == 45) := Tb.asB (Ef.op2 (ix_at g1 rfl rfl) (ord_k rfl _) (eq_i _ _)).ev
    by_cases c1 : c = 45
    · have ht := Tb.andt t1' (t2.to (b' := true) (by simp [c1]))
      have hA2 : Es (mCons (mVar 0) (mCons (mOp2 fPlus (mVar 1) (mC (.int 1))) (mCons (mC (.str ";")) mNil))) (stW xs k .un .un) [octD xs, .int ((k + 1 : Nat) : Int), .str ";"] := numArg rfl rfl
      have hn2 := number_ok hl (e := ";") (ec := 59) rfl (k + 1) g2
      rw [g3] at hn2
      unfold wholeS
      simp only [if_pos c1]
      cases hs : numS 59 l with
      | none =>
        rw [hs] at hn2
        obtain ⟨e, he⟩ := hn2
        refine ⟨0, runR_er (ρ' := stW xs k .un .un) rfl ?_⟩
        show m_d_u_whole (stW xs k .un .un) = _
        unfold m_d_u_whole
        rw [st_then ht]
        exact seq_er (seq_er (asg_er (callR_er hA2 he)))
      | some p =>
        rw [hs] at hn2
        obtain ⟨q, hq, h1, h2⟩ := hn2
        have t3 : Tb (mAsB (mOp2 fEq (mVar 2) (mC (.int 0)))) (stW xs k (.dat (.int p.1)) (.dat (.int (q : Int)))) (p.1 == 0) := Tb.asB (Ef.op2 (Ef.v rfl).ev (Ef.c _ _).ev (eq_i _ _)).ev
        by_cases c2 : p.1 = 0
        · simp only [if_pos c2]
          refine ⟨0, runR_er (ρ' := stW xs k (.dat (.int p.1)) (.dat (.int (q : Int)))) rfl ?_⟩
          show m_d_u_whole (stW xs k .un .un) = _
          unfold m_d_u_whole
          rw [st_then ht]
          refine seq_er ?_
          rw [seq_asg (ρ' := stW xs k (.dat (.int p.1)) (.dat (.int (q : Int)))) (Ef.callR hA2 hq) rfl]
          exact if_raise (t3.to (by simp [c2]))
        · simp only [if_neg c2]
          refine ⟨q, runR_rt (ρ' := stW xs k (.dat (.int p.1)) (.dat (.int (q : Int)))) rfl ?_, h1, h2⟩
          show m_d_u_whole (stW xs k .un .un) = _
          unfold m_d_u_whole
          rw [st_then ht]
          refine seq_rt ?_
          rw [seq_asg (ρ' := stW xs k (.dat (.int p.1)) (.dat (.int (q : Int)))) (Ef.callR hA2 hq) rfl, st_skip (t3.to (by simp [c2]))]
          exact st_ret (Ef.tup (.cons (Ef.op1 (Ef.v rfl).ev rfl) (.one (Ef.v rfl))))
    · have := plain (Tb.andt t1' (t2.to (by simp [c1])))
      rw [hx] at this
      unfold wholeS
      simp only [if_neg c1]
      cases hs : numS 59 (c :: l) with
      | none => rw [hs] at this; exact this
      | some p => rw [hs] at this; exact this
/-! ### _sign -/
def sgT (n : Nat) : Bool := match f_d_u_sign [.int (n : Int)] with
  | some (.str s) => decide (s.cps.toList = if okC (n : Int) = true then [n] else [])
  | _ => false
theorem sg_all : (List.range 256).all sgT = true := by decide +kernel
def sg (c : Int) : Str := ofCodes (if okC c = true then [c] else [])
theorem sign_ok {c : Int} (h0 : 0 ≤ c) (h1 : c < 256) : f_d_u_sign [.int c] = some (.str (sg c)) := by
  have h := List.all_eq_true.mp sg_all c.toNat (List.mem_range.mpr (by omega))
  unfold sgT at h
  rw [show ((c.toNat : Nat) : Int) = c by omega] at h
  cases hf : f_d_u_sign [.int c] with
  | none => rw [hf] at h; cases h
  | some d =>
    rw [hf] at h
    cases d with
    | str s =>
      have h := of_decide_eq_true h
      have : s = sg c := by
        cases s with
        | mk cps =>
          unfold sg ofCodes
          have h : cps.toList = _ := h
          congr 1
          apply Array.toList_inj.mp
          rw [h]
          by_cases c1 : okC c = true
          · rw [if_pos c1, if_pos c1]; rfl
          · rw [if_neg c1, if_neg c1]; rfl
      rw [this]
    | none => cases h
    | bool _ => cases h
    | int _ => cases h
    | list _ => cases h
    | tuple _ => cases h
    | dict _ => cases h
/-- the signs of octets: none is empty -/
theorem sg_ne {c : Int} : (sg c == ("" : Str)) = !okC c := by
  by_cases c1 : okC c = true
  · rw [c1]
    have hl : (sg c).length = 1 := by unfold sg; rw [if_pos c1, of_len]; rfl
    have : ¬ sg c = ("" : Str) := fun h => by
      rw [h] at hl
      exact absurd hl (by decide)
    simpa using this
  · have : okC c = false := by simpa using c1
    rw [this]
    have : sg c = ("" : Str) := by unfold sg; rw [if_neg c1]; rfl
    rw [this]
    decide
theorem sg_join : ∀ (t : List Int), t.all okC = true → Str.join "" (t.map sg) = ofCodes t
  | [], _ => rfl
  | [c], h => by
    have h1 : okC c = true := by simpa using h
    show sg c = _
    unfold sg
    rw [if_pos h1]
  | c :: c' :: t, h => by
    have h := (Bool.and_eq_true _ _).mp (show (okC c && (c' :: t).all okC) = true from h)
    have ih := sg_join (c' :: t) h.2
    show sg c ++ "" ++ Str.join "" ((c' :: t).map sg) = _
    rw [ih]
    unfold sg
    rw [if_pos h.1]
    show Str.mk _ = Str.mk _
    congr 1
    apply Array.toList_inj.mp
    show ((ofCodes [c]).cps ++ ("" : Str).cps ++ (ofCodes (c' :: t)).cps).toList = _
    rw [Array.toList_append, Array.toList_append]
    rfl
end K27
namespace K27
open PySem L2 Dat
theorem st_append {i : Nat} {ma : M Vw} {ρ : List Sl} {d : D} {ds : List D} (h : Ef ma ρ d) (h0 : ρ[i]? = some (.own (.lst ds))) (hl : ds.length < BIG) : mAppend i ma ρ = some (.nx, ρ.set i (.own (.lst (ds ++ [d])))) := by
  obtain ⟨w, h1, _, h2⟩ := h
  unfold mAppend isOL
  simp only [h0]
  rw [mThen_ok h1, mThen_ok h2]
  unfold ownL
  simp only [h0]
  unfold pushL
  rw [if_pos hl]
theorem st_parL {i j : Nat} {mb : M Vw} {ρ ρ1 ρ2 : List Sl} {d : D} (h : Ef mb ρ d) (g1 : asgO i (.lst []) ρ = some (.nx, ρ1)) (g2 : asgD j d ρ1 = some ρ2) : mParL i j mNil mb ρ = some (.nx, ρ2) := by
  obtain ⟨w, h1, _, h2⟩ := h
  unfold mParL
  rw [mThen_ok (show mNil ρ = some (.ok [], ρ) from rfl), mThen_ok (show frcs [] ρ = some (.ok [], ρ) from rfl)]
  unfold parMid
  rw [if_pos (show ([] : List D).length ≤ BIG from Nat.zero_le _), mThen_ok h1, mThen_ok h2]
  unfold parEnd
  simp only [g1, g2]
def ReadsS (res : Option (Fl × List Sl)) (xs : List Int) : Option (D × List Int) → Prop
  | none => ∃ c ρ', res = some (.er c, ρ')
  | some (v, r) => ∃ (p : Nat) (ρ' : List Sl), res = some (.rt (.tuple [v, .int (p : Int)]), ρ') ∧ p ≤ xs.length ∧ xs.drop p = r
theorem ReadsS.seq {m k : MS} {ρ : List Sl} {xs : List Int} {s : Option (D × List Int)} (h : ReadsS (m ρ) xs s) : ReadsS (mSeq m k ρ) xs s := by
  cases s with
  | none =>
    obtain ⟨c, ρ', e⟩ := h
    exact ⟨c, ρ', seq_er e⟩
  | some q =>
    obtain ⟨p, ρ', e, h1, h2⟩ := h
    exact ⟨p, ρ', seq_rt e, h1, h2⟩
theorem ReadsS.run {n N : Nat} {ms : MS} {ds : List D} {xs : List Int} {s : Option (D × List Int)} (hn : ds.length = n) (h : ReadsS (ms (ds.map Sl.dat ++ List.replicate (N - n) .un)) xs s) : Reads (runR n N ms ds) xs s := by
  cases s with
  | none =>
    obtain ⟨c, ρ', e⟩ := h
    exact ⟨c, runR_er hn e⟩
  | some q =>
    obtain ⟨p, ρ', e, h1, h2⟩ := h
    exact ⟨p, runR_rt hn e, h1, h2⟩
/-! ### texts -/
theorem cut_o (xs : List Int) (p m : Nat) (hp : p ≤ xs.length) : cutD (xs.map PyData.int) (some (p : Int)) (some ((p : Int) + (m : Int))) = ((xs.drop p).take m).map PyData.int := by
  unfold cutD
  rw [HT.sIx_nat, show (p : Int) + (m : Int) = ((p + m : Nat) : Int) by omega, HT.sIx_nat, List.length_map, ← List.map_drop, ← List.map_take, show min p xs.length = p by omega]
  congr 1
  rw [List.take_eq_take_iff, List.length_drop]
  omega
def told (t : List Int) : List D := t.map fun c => .str (sg c)
theorem sg_strOk (c : Int) (h : c < 256) : PyData.strOk (sg c) = true := by
  unfold sg
  by_cases c1 : okC c = true
  · rw [if_pos c1]
    have := okC_nn c1
    show (ofCodes [c]).cps.all _ = true
    unfold ofCodes
    simp
    omega
  · rw [if_neg c1]
    show (ofCodes []).cps.all _ = true
    unfold ofCodes
    simp
theorem told_lay : ∀ (t : List Int), (∀ c ∈ t, c < 256) → PyData.canLayAll0 (told t) = true ∧ PyData.depthAll (told t) = 0
  | [], _ => ⟨rfl, rfl⟩
  | c :: t, h => by
    obtain ⟨h1, h2⟩ := told_lay t fun x hx => h x (List.mem_cons_of_mem _ hx)
    have h3 := sg_strOk c (h c (List.mem_cons_self ..))
    refine ⟨?_, ?_⟩
    · show (PyData.strOk (sg c) && PyData.canLayAll0 (told t)) = true
      rw [h1, h3]; rfl
    · show max 0 (PyData.depthAll (told t)) = 0
      rw [h2]; rfl
theorem told_in (t : List Int) (h : ∀ c ∈ t, c < 256) : fInS (.str "") (.list (told t)) = some (.bool (!t.all okC)) := by
  obtain ⟨h1, h2⟩ := told_lay t h
  have s1 : SeqAt.shaped (.list (told t)) = true := by
    show (PyData.canLayAll0 (told t) && decide (PyData.depthAll (told t) + 1 ≤ 64)) = true
    rw [h1, h2]; rfl
  have e : fIn (.str "") (.list (told t)) = some (.bool (!t.all okC)) := by
    show (if SeqAt.shaped (PyData.str "") = true ∧ SeqAt.shaped (.list (told t)) = true then some (PyData.bool ((told t).any fun z => PyData.eqv z (.str ""))) else none) = _
    rw [if_pos ⟨by decide +kernel, s1⟩]
    have : ((told t).any fun z => PyData.eqv z (.str "")) = !t.all okC := by
      clear s1 h1 h2
      induction t with
      | nil => rfl
      | cons c t ih =>
        show (PyData.eqv (.str (sg c)) (.str "") || (told t).any fun z => PyData.eqv z (.str "")) = _
        rw [ih fun x hx => h x (List.mem_cons_of_mem _ hx)]
        rw [show PyData.eqv (.str (sg c)) (.str "") = (sg c == ("" : Str)) by simp [PyData.eqv], sg_ne, List.all_cons]
        cases okC c <;> rfl
    rw [this]
  unfold fInS
  rw [e]
theorem told_join (t : List Int) (h : t.all okC = true) (hl : t.length ≤ 100000) : fJoin "" (.list (told t)) = some (.str (ofCodes t)) := by
  have e : strsD (told t) = some (t.map sg) := by
    clear h hl
    induction t with
    | nil => rfl
    | cons c t ih =>
      show (strsD (told t)).map (sg c :: ·) = _
      rw [ih]; rfl
  unfold fJoin
  simp only [e]
  have hs : ((t.map sg).map (·.length)).sum ≤ t.length := by
    clear e h hl
    induction t with
    | nil => exact Nat.le_refl _
    | cons c t ih =>
      have : (sg c).length ≤ 1 := by
        unfold sg
        split <;> rw [of_len] <;> simp
      rw [List.map_cons, List.map_cons, List.sum_cons, List.length_cons]
      omega
  have h0 : ("" : Str).length = 0 := rfl
  rw [if_pos (le_bigN (by rw [h0]; omega))]
  have : Txt.join "" (t.map sg) = ofCodes t := by
    show Builtin.Str.glued "" (t.map sg) = _
    rw [StrLaws.glued_eq_join, sg_join t h]
  rw [this]
def mS (slf : List D → Option (Rs D)) : MS := (mSeq (mAsg (mCallR f_d_u_number (mCons (mVar 0) (mCons (mOp2 fPlus (mVar 1) (mC (.int 1))) (mCons (mC (.str ":")) mNil)))) (gmTup 2 (gmCons (asgD 4) (gmCons (asgD 1) gmNil))))
  (mSeq (mAsg (L_d_u_read_2 slf) (asgD 5))
  (mSeq (mIfS (mOr (mAsB (mOp2 fLt (mOp1 fLen (mVar 5)) (mVar 4))) (mAsB (mOp2 fInS (mC (.str "")) (mVar 5)))) mRaise mSkip)
  (mRetS (mTup (mCons (mOp1 (fJoin "") (mVar 5)) (mCons (mOp2 fPlus (mVar 1) (mVar 4)) mNil)))))))
abbrev stR (xs : List Int) (k : Int) (deep w : D) (s4 s5 s6 s7 s8 : Sl) : List Sl := [.dat (octD xs), .dat (.int k), .dat deep, .dat w, s4, s5, s6, s7, s8]
theorem told_ok {slf : List D → Option (Rs D)} {xs : List Int} (hl : xs.length ≤ 90000) (ho : ∀ c ∈ xs, 0 ≤ c ∧ c < 256) (p m : Nat) (hp : p ≤ xs.length) (deep w : D) :
    L_d_u_read_2 slf (stR xs p deep w (.dat (.int (m : Int))) .un .un .un .un) = some (.ok (.dat (.list (told ((xs.drop p).take m)))), stR xs p deep w (.dat (.int (m : Int))) .un .un .un .un) := by
  have ht : ∀ c ∈ (xs.drop p).take m, 0 ≤ c ∧ c < 256 := fun c hc => ho c (List.drop_subset _ _ (List.take_subset _ _ hc))
  have hlen : ((xs.drop p).take m).length ≤ 100000 := by rw [List.length_take, List.length_drop]; omega
  obtain ⟨w', h1, _, h2⟩ : Ef (mCut (mVar 0) (mPart (mVar 1)) (mPart (mOp2 fPlus (mVar 1) (mVar 4)))) (stR xs p deep w (.dat (.int (m : Int))) .un .un .un .un) (.list (((xs.drop p).take m).map PyData.int)) := by
    rw [← cut_o xs p m hp]
    exact Ef.cut (Ef.v rfl).ev (part_ok (Ef.v rfl).ev) (part_ok (Ef.op2 (Ef.v rfl).ev (Ef.v rfl).ev rfl).ev)
  have e0 : mSeqL (mCut (mVar 0) (mPart (mVar 1)) (mPart (mOp2 fPlus (mVar 1) (mVar 4)))) (stR xs p deep w (.dat (.int (m : Int))) .un .un .un .un) = some (.ok (((xs.drop p).take m).map PyData.int), stR xs p deep w (.dat (.int (m : Int))) .un .un .un .un) := by
    unfold mSeqL
    rw [mBind_ok h1]
    unfold seqL
    rw [mBind_ok h2]
    rfl
  have := mLc_pure (gm := asgD 6) (mt := T_d_u_read_1 slf) (me := E_d_u_read_0 slf) (vs := [6]) (enc := PyData.int) (fun c => some (PyData.str (sg c))) ((xs.drop p).take m) e0 (le_bigN hlen) (fun c hc => by
    have e2 : mBind (E_d_u_read_0 slf) frc (stR xs p deep w (.dat (.int (m : Int))) .un (.dat (.int c)) .un .un) = some (.ok (.str (sg c)), stR xs p deep w (.dat (.int (m : Int))) .un (.dat (.int c)) .un .un) :=
      (Ef.call (.one (Ef.v rfl)) (sign_ok (ht c hc).1 (ht c hc).2)).bind
    exact stepC_yes (ρ1 := stR xs p deep w (.dat (.int (m : Int))) .un (.dat (.int c)) .un .un) (ρ2 := stR xs p deep w (.dat (.int (m : Int))) .un (.dat (.int c)) .un .un) (ρ3 := stR xs p deep w (.dat (.int (m : Int))) .un (.dat (.int c)) .un .un) rfl rfl e2)
  rw [List.filterMap_eq_map'] at this
  exact this
theorem text_blk {slf : List D → Option (Rs D)} {xs : List Int} (hl : xs.length ≤ 90000) (ho : ∀ c ∈ xs, 0 ≤ c ∧ c < 256) (k : Nat) (hk : k + 1 ≤ xs.length) (deep w : D) :
    ReadsS (mS slf (stR xs k deep w .un .un .un .un .un)) xs (textS (xs.drop (k + 1))) := by
  have hn := number_ok hl (e := ":") (ec := 58) rfl (k + 1) hk
  have hA : Es (mCons (mVar 0) (mCons (mOp2 fPlus (mVar 1) (mC (.int 1))) (mCons (mC (.str ":")) mNil))) (stR xs k deep w .un .un .un .un .un) [octD xs, .int ((k + 1 : Nat) : Int), .str ":"] := numArg rfl rfl
  unfold textS
  cases hs : numS 58 (xs.drop (k + 1)) with
  | none =>
    rw [hs] at hn
    obtain ⟨c, hc⟩ := hn
    exact ⟨0, _, seq_er (asg_er (callR_er hA hc))⟩
  | some q =>
    obtain ⟨v, r⟩ := q
    obtain ⟨m, rfl, _, _⟩ := num_sound hs
    rw [hs] at hn
    obtain ⟨p, hq, h1, h2⟩ := hn
    simp only at h2 ⊢
    have ht : ∀ c ∈ r.take m, c < 256 := fun c hc => by
      rw [← h2] at hc
      exact (ho c (List.drop_subset _ _ (List.take_subset _ _ hc))).2
    have hto := told_ok (slf := slf) hl ho p m h1 deep w
    rw [h2] at hto
    have e1 : mS slf (stR xs k deep w .un .un .un .un .un) = (mSeq (mIfS (mOr (mAsB (mOp2 fLt (mOp1 fLen (mVar 5)) (mVar 4))) (mAsB (mOp2 fInS (mC (.str "")) (mVar 5)))) mRaise mSkip)
  (mRetS (mTup (mCons (mOp1 (fJoin "") (mVar 5)) (mCons (mOp2 fPlus (mVar 1) (mVar 4)) mNil))))) (stR xs p deep w (.dat (.int (m : Int))) (.dat (.list (told (r.take m)))) .un .un .un) := by
      unfold mS
      rw [seq_asg (ρ' := stR xs p deep w (.dat (.int (m : Int))) .un .un .un .un) (Ef.callR hA hq) rfl, seq_asg (ρ' := stR xs p deep w (.dat (.int (m : Int))) (.dat (.list (told (r.take m)))) .un .un .un) (Ef.dat hto) rfl]
    have t1 : Tb (mAsB (mOp2 fLt (mOp1 fLen (mVar 5)) (mVar 4))) (stR xs p deep w (.dat (.int (m : Int))) (.dat (.list (told (r.take m)))) .un .un .un) (decide (((told (r.take m)).length : Int) < (m : Int))) :=
      Tb.asB (Ef.op2 (Ef.op1 (f := fLen) (Ef.v (i := 5) (d := .list (told (r.take m))) rfl).ev rfl).ev (Ef.v rfl).ev rfl).ev
    have t2 : Tb (mAsB (mOp2 fInS (mC (.str "")) (mVar 5))) (stR xs p deep w (.dat (.int (m : Int))) (.dat (.list (told (r.take m)))) .un .un .un) (!(r.take m).all okC) :=
      Tb.asB (Ef.op2 (Ef.c _ _).ev (Ef.v rfl).ev (told_in _ ht)).ev
    have htl : (told (r.take m)).length = (r.take m).length := by unfold told; rw [List.length_map]
    have htle : (r.take m).length ≤ m := by rw [List.length_take]; omega
    have hrl : r.length = xs.length - p := by rw [← h2, List.length_drop]
    rw [e1, show ((m : Nat) : Int).toNat = m by omega]
    by_cases c1 : ((r.take m).length : Int) = (m : Int) ∧ (r.take m).all okC = true
    · rw [if_pos c1]
      have hle : m ≤ r.length := by
        have := c1.1
        rw [List.length_take] at this
        omega
      refine ⟨p + m, stR xs p deep w (.dat (.int (m : Int))) (.dat (.list (told (r.take m)))) .un .un .un, ?_, by omega, by rw [← h2, List.drop_drop]⟩
      rw [st_skip (Tb.orf (t1.to (decide_eq_false (by omega))) (t2.to (by rw [c1.2]; rfl)))]
      exact st_ret (Ef.tup (.cons (Ef.op1 (Ef.v rfl).ev (told_join _ c1.2 (by omega))) (.one (Ef.op2 (Ef.v rfl).ev (Ef.v rfl).ev rfl))))
    · rw [if_neg c1]
      refine ⟨0, stR xs p deep w (.dat (.int (m : Int))) (.dat (.list (told (r.take m)))) .un .un .un, ?_⟩
      by_cases c2 : ((r.take m).length : Int) < (m : Int)
      · exact if_raise (Tb.ort (t1.to (decide_eq_true (by omega))))
      · refine if_raise (Tb.orf (t1.to (decide_eq_false (by omega))) (t2.to ?_))
        have : ¬ (r.take m).all okC = true := fun h => c1 ⟨by omega, h⟩
        cases h : (r.take m).all okC with
        | true => exact absurd h this
        | false => rfl
end K27
namespace K27
open PySem L2 Dat
def TR : M Bool := (mAnd (mAsB (mOp2 fLt (mVar 1) (mOp1 fLen (mVar 0)))) (mAsB (mOp2 fNe (mOp2 fIx (mVar 0) (mVar 1)) (mOp1 fOrd (mC (.str ")"))))))
def BR (slf : List D → Option (Rs D)) : MS := (mSeq (mAsg (mCallR (slf) (mCons (mVar 0) (mCons (mVar 1) (mCons (mOp2 fPlus (mVar 2) (mC (.int 1))) mNil)))) (gmTup 2 (gmCons (asgD 8) (gmCons (asgD 1) gmNil))))
  (mAppend 7 (mVar 8)))
abbrev stL (xs : List Int) (k : Int) (deep : Int) (acc : List D) (s8 : Sl) : List Sl := stR xs k (.int deep) (.int 40) .un .un .un (.own (.lst acc)) s8
def LoopOk (xs : List Int) (deep : Int) (acc : List D) (res : Option (Fl × List Sl)) : Option (List D × List Int) → Prop
  | none => (∃ c ρ', res = some (.er c, ρ')) ∨ ∃ (p : Nat) (acc' : List D) (s8 : Sl), xs.length ≤ p ∧ res = some (.nx, stL xs p deep acc' s8)
  | some (ds, r) => ∃ (p : Nat) (s8 : Sl), res = some (.nx, stL xs p deep (acc ++ ds) s8) ∧ p ≤ xs.length ∧ xs.drop p = 41 :: r
theorem loop_r {slf : List D → Option (Rs D)} {xs : List Int} (hl : xs.length ≤ 90000) (n : Nat) (deep : Int) (ih : ∀ at_ : Nat, at_ ≤ xs.length → Reads (slf [octD xs, .int (at_ : Int), .int (deep + 1)]) xs (rd n (xs.drop at_))) :
    ∀ (k at_ F : Nat) (acc : List D) (s8 : Sl) (l : List Int), xs.drop at_ = l → npAt 8 (stL xs at_ deep acc s8) = true → l.length < k → l.length < F → acc.length + l.length ≤ 90000 → at_ ≤ xs.length →
      LoopOk xs deep acc (loopW TR (BR slf) F (stL xs at_ deep acc s8)) (rdL (rd n) k l)
  | 0, _, _, _, _, _, _, _, h, _, _, _ => by omega
  | _ + 1, _, 0, _, _, _, _, _, _, h, _, _ => by omega
  | k + 1, at_, F + 1, acc, s8, [], hd, _, _, _, _, _ => by
    have hle := drop_nil hd
    have t1 : Tb TR (stL xs at_ deep acc s8) false := Tb.andf ((lt_len hl at_ rfl rfl).to (decide_eq_false (by omega)))
    right
    refine ⟨at_, acc, s8, hle, ?_⟩
    unfold loopW
    rw [t1]
  | k + 1, at_, F + 1, acc, s8, c :: l, hd, hnp, hk, hF, ha, hat => by
    obtain ⟨g1, g2, g3⟩ := drop_at hd
    have t0 : Tb (mAsB (mOp2 fLt (mVar 1) (mOp1 fLen (mVar 0)))) (stL xs at_ deep acc s8) true := (lt_len hl at_ rfl rfl).to (decide_eq_true (by omega))
    have t1 : Tb TR (stL xs at_ deep acc s8) (!(c == 41)) := Tb.andt t0 (Tb.asB (Ef.op2 (ix_at g1 rfl rfl) (ord_k rfl _) (ne_i _ _)).ev)
    unfold rdL
    by_cases c1 : c = 41
    · rw [if_pos c1]
      refine ⟨at_, s8, ?_, hat, by rw [hd, c1]⟩
      unfold loopW
      rw [t1.to (b' := false) (by simp [c1]), List.append_nil]
    · rw [if_neg c1]
      have t1' := t1.to (b' := true) (by simp [c1])
      have h := ih at_ hat
      rw [hd] at h
      have hA : Es (mCons (mVar 0) (mCons (mVar 1) (mCons (mOp2 fPlus (mVar 2) (mC (.int 1))) mNil))) (stL xs at_ deep acc s8) [octD xs, .int (at_ : Int), .int (deep + 1)] :=
        .cons (Ef.v rfl) (.cons (Ef.v rfl) (.one (Ef.op2 (Ef.v rfl).ev (Ef.c _ _).ev rfl)))
      cases hr : rd n (c :: l) with
      | none =>
        rw [hr] at h
        obtain ⟨e, he⟩ := h
        left
        refine ⟨0, stL xs at_ deep acc s8, ?_⟩
        unfold loopW
        rw [t1']
        have : BR slf (stL xs at_ deep acc s8) = some (.er 0, stL xs at_ deep acc s8) := seq_er (asg_er (callR_er hA he))
        simp only [this]
      | some q =>
        obtain ⟨d, r⟩ := q
        rw [hr] at h
        obtain ⟨p, hp, h1, h2⟩ := h
        obtain ⟨hs1, hs2⟩ := rd_sound n _ _ _ hr
        obtain ⟨x, y, hx, hxh⟩ := oct_head hs2
        have hlen := congrArg List.length hs1
        rw [hx, List.length_append, List.length_cons, List.length_cons] at hlen
        rw [List.length_cons] at hk hF ha
        have hb : BR slf (stL xs at_ deep acc s8) = some (.nx, stL xs p deep (acc ++ [d]) (.dat d)) := by
          unfold BR
          have e8 : asgD 8 d (stL xs at_ deep acc s8) = some (stL xs at_ deep acc (.dat d)) := asgD_np hnp
          have eg : gmTup 2 (gmCons (asgD 8) (gmCons (asgD 1) gmNil)) (.tuple [d, .int (p : Int)]) (stL xs at_ deep acc s8) = some (stL xs p deep acc (.dat d)) := by
            show (match asgD 8 d (stL xs at_ deep acc s8) with
              | none => none
              | some ρ' => gmCons (asgD 1) gmNil [.int (p : Int)] ρ') = _
            rw [e8]
            rfl
          rw [seq_asg (Ef.callR hA hp) eg]
          exact st_append (Ef.v rfl) rfl (Nat.lt_of_le_of_lt (show acc.length ≤ 90000 by omega) (by decide))
        have ih2 := loop_r hl n deep ih k p F (acc ++ [d]) (.dat d) r h2 rfl (by omega) (by omega) (by rw [List.length_append, List.length_singleton]; omega) h1
        have hw : loopW TR (BR slf) (F + 1) (stL xs at_ deep acc s8) = loopW TR (BR slf) F (stL xs p deep (acc ++ [d]) (.dat d)) := by
          conv => lhs; unfold loopW
          rw [t1']
          simp only [hb]
        rw [hw]
        simp only
        cases hrl : rdL (rd n) k r with
        | none =>
          rw [hrl] at ih2
          rcases ih2 with h | ⟨p', acc', s8', h3, h4⟩
          · exact .inl h
          · exact .inr ⟨p', acc', s8', h3, h4⟩
        | some q =>
          obtain ⟨es, r'⟩ := q
          rw [hrl] at ih2
          obtain ⟨p', s8', h3, h4, h5⟩ := ih2
          exact ⟨p', s8', by rw [h3, List.append_assoc]; rfl, h4, h5⟩
theorem in_tf (c : Int) : fInS (.int c) (.tuple [.int 116, .int 102]) = some (.bool (decide (c = 116 ∨ c = 102))) := by
  show some (PyData.bool ((PyData.eqv (.int 116) (.int c)) || ((PyData.eqv (.int 102) (.int c)) || false))) = _
  congr 2
  have e1 : PyData.eqv (.int 116) (.int c) = ((116 : Int) == c) := by simp [PyData.eqv]
  have e2 : PyData.eqv (.int 102) (.int c) = ((102 : Int) == c) := by simp [PyData.eqv]
  rw [e1, e2]
  by_cases h1 : c = 116
  · simp [h1]
  · by_cases h2 : c = 102
    · simp [h2]
    · have : ((116 : Int) == c) = false := by simp; omega
      have : ((102 : Int) == c) = false := by simp; omega
      simp [*]
abbrev st0 (xs : List Int) (k deep : Int) (s3 : Sl) : List Sl := [.dat (octD xs), .dat (.int k), .dat (.int deep), s3, .un, .un, .un, .un, .un]
theorem tw {xs : List Int} {k deep c : Int} {x : Str} {ec : Int} (h : fOrd (.str x) = some (.int ec)) : Tb (mAsB (mOp2 fEq (mVar 3) (mOp1 fOrd (mC (.str x))))) (st0 xs k deep (.dat (.int c))) (c == ec) :=
  Tb.asB (Ef.op2 (Ef.v rfl).ev (ord_k h _) (eq_i _ _)).ev
theorem place1 {xs : List Int} {k deep : Int} {s3 : Sl} : Ef (mOp2 fPlus (mVar 1) (mC (.int 1))) (st0 xs k deep s3) (.int (k + 1)) := Ef.op2 (Ef.v rfl).ev (Ef.c _ _).ev rfl
theorem read_ok {xs : List Int} (hl : xs.length ≤ 90000) (ho : ∀ c ∈ xs, 0 ≤ c ∧ c < 256) : ∀ (f n k : Nat) (deep : Int), k ≤ xs.length → n < f → deep + n = 401 → Reads (f_d_u_read f [octD xs, .int (k : Int), .int deep]) xs (rd n (xs.drop k))
  | 0, _, _, _, _, hf, _ => by omega
  | f + 1, 0, k, deep, hk, hf, hdp => by
    refine ⟨0, runR_er (ρ' := st0 xs k deep .un) rfl ?_⟩
    show m_d_u_read (f_d_u_read f) (st0 xs k deep .un) = _
    have t00 : Tb (mAsB (mOp2 fGt (mVar 2) (mC (.int 400)))) (st0 xs k deep .un) true := (Tb.asB (b := decide (400 < deep)) (Ef.op2 (Ef.v rfl).ev (Ef.c _ _).ev rfl).ev).to (decide_eq_true (by omega))
    have t0 : Tb (mAsB (mOp2 fGe (mVar 1) (mOp1 fLen (mVar 0)))) (st0 xs k deep .un) (decide ((xs.length : Int) ≤ (k : Int))) := Tb.asB (Ef.op2 (Ef.v rfl).ev (Ef.op1 (Ef.v rfl).ev (len_o xs)).ev rfl).ev
    unfold m_d_u_read
    by_cases c : (xs.length : Int) ≤ (k : Int)
    · exact if_raise (Tb.ort (t0.to (decide_eq_true c)))
    · exact if_raise (Tb.orf (t0.to (decide_eq_false c)) t00)
  | f + 1, n + 1, k, deep, hk, hf, hdp => by
    show Reads (runR 3 9 (m_d_u_read (f_d_u_read f)) [octD xs, .int (k : Int), .int deep]) xs _
    refine ReadsS.run rfl ?_
    show ReadsS (m_d_u_read (f_d_u_read f) (st0 xs k deep .un)) xs _
    have t0 : Tb (mAsB (mOp2 fGe (mVar 1) (mOp1 fLen (mVar 0)))) (st0 xs k deep .un) (decide ((xs.length : Int) ≤ (k : Int))) := Tb.asB (Ef.op2 (Ef.v rfl).ev (Ef.op1 (Ef.v rfl).ev (len_o xs)).ev rfl).ev
    have t00 : Tb (mAsB (mOp2 fGt (mVar 2) (mC (.int 400)))) (st0 xs k deep .un) false := (Tb.asB (b := decide (400 < deep)) (Ef.op2 (Ef.v rfl).ev (Ef.c _ _).ev rfl).ev).to (decide_eq_false (by omega))
    unfold m_d_u_read
    cases hx : xs.drop k with
    | nil =>
      have := drop_nil hx
      exact ⟨0, st0 xs k deep .un, if_raise (Tb.ort (t0.to (decide_eq_true (by omega))))⟩
    | cons c l =>
      obtain ⟨g1, g2, g3⟩ := drop_at hx
      have hk1 : k + 1 ≤ xs.length := g2
      rw [st_skip (Tb.orf (t0.to (decide_eq_false (by omega))) t00), seq_asg (ρ' := st0 xs k deep (.dat (.int c))) (by
        obtain ⟨w, h1, h2⟩ := ix_at (ρ := st0 xs k deep .un) (j := 1) g1 rfl rfl
        exact Ef.op2 (Ef.v rfl).ev (Ef.v rfl).ev (ix_o g1 rfl)) rfl]
      unfold rd
      have tn := tw (xs := xs) (k := k) (deep := deep) (c := c) (x := "n") (ec := 110) rfl
      have ti := tw (xs := xs) (k := k) (deep := deep) (c := c) (x := "i") (ec := 105) rfl
      have ts := tw (xs := xs) (k := k) (deep := deep) (c := c) (x := "s") (ec := 115) rfl
      have ttf : Tb (mAsB (mOp2 fInS (mVar 3) (mTup (mCons (mOp1 fOrd (mC (.str "t"))) (mCons (mOp1 fOrd (mC (.str "f"))) mNil))))) (st0 xs k deep (.dat (.int c))) (decide (c = 116 ∨ c = 102)) :=
        Tb.asB (Ef.op2 (Ef.v rfl).ev (Ef.tup (.cons (Ef.op1 (Ef.c _ _).ev rfl) (.one (Ef.op1 (Ef.c _ _).ev rfl)))).ev (in_tf c)).ev
      by_cases c1 : c = 110
      · rw [if_pos c1]
        exact ⟨k + 1, _, if_ret (tn.to (by simp [c1])) (Ef.tup (.cons (Ef.c _ _) (.one place1))), hk1, g3⟩
      rw [if_neg c1, st_skip (tn.to (by simp [c1]))]
      by_cases c2 : c = 116 ∨ c = 102
      · rw [if_pos c2]
        refine ⟨k + 1, st0 xs k deep (.dat (.int c)), ?_, hk1, g3⟩
        refine if_ret (ttf.to (decide_eq_true c2)) (Ef.tup (.cons ?_ (.one place1)))
        exact Ef.op2 (Ef.v rfl).ev (ord_k (c := 116) rfl _) rfl
      rw [if_neg c2, st_skip (ttf.to (decide_eq_false c2))]
      by_cases c3 : c = 105
      · rw [if_pos c3, st_then (ti.to (by simp [c3]))]
        have hw := whole_ok hl (k + 1) hk1
        rw [g3] at hw
        have hA : Es (mCons (mVar 0) (mCons (mOp2 fPlus (mVar 1) (mC (.int 1))) mNil)) (st0 xs k deep (.dat (.int c))) [octD xs, .int ((k + 1 : Nat) : Int)] := .cons (Ef.v rfl) (.one place1)
        cases hs : wholeS l with
        | none =>
          rw [hs] at hw
          obtain ⟨e, he⟩ := hw
          exact ⟨0, st0 xs k deep (.dat (.int c)), seq_er (ret_er (callR_er hA he))⟩
        | some q =>
          rw [hs] at hw
          obtain ⟨p, hp, h1, h2⟩ := hw
          exact ⟨p, st0 xs k deep (.dat (.int c)), seq_ret (Ef.callR hA hp), h1, h2⟩
      rw [if_neg c3, st_skip (ti.to (by simp [c3]))]
      by_cases c4 : c = 115
      · rw [if_pos c4, st_then (ts.to (by simp [c4]))]
        have := text_blk (slf := f_d_u_read f) hl ho k hk1 (.int deep) (.int c)
        rw [g3] at this
        exact ReadsS.seq (m := mS (f_d_u_read f)) this
      rw [if_neg c4, st_skip (ts.to (by simp [c4]))]
      have to : Tb (mAsB (mOp2 fNe (mVar 3) (mOp1 fOrd (mC (.str "("))))) (st0 xs k deep (.dat (.int c))) (!(c == 40)) := Tb.asB (Ef.op2 (Ef.v rfl).ev (ord_k rfl _) (ne_i _ _)).ev
      by_cases c5 : c = 40
      · rw [if_pos c5, st_skip (to.to (by simp [c5]))]
        subst c5
        rw [mSeq_ok (st_parL (ρ1 := stR xs k (.int deep) (.int 40) .un .un .un (.own (.lst [])) .un) (ρ2 := stL xs ((k + 1 : Nat) : Int) deep [] .un) place1 rfl rfl)]
        have hll : l.length ≤ 90000 := by rw [← g3, List.length_drop]; omega
        have hlo := loop_r (slf := f_d_u_read f) hl n deep (fun at_ h1 => read_ok hl ho f n at_ (deep + 1) h1 (by omega) (by omega)) (l.length + 1) (k + 1) 100000 [] .un l g3 rfl (Nat.lt_succ_self _) (by omega) (by simp; omega) hk1
        cases hs : rdL (rd n) (l.length + 1) l with
        | none =>
          rw [hs] at hlo
          rcases hlo with ⟨e, ρ', he⟩ | ⟨p, acc', s8, h1, h2⟩
          · exact ⟨e, ρ', seq_er he⟩
          · refine ⟨0, stL xs p deep acc' s8, ?_⟩
            have tp : Tb (mAsB (mOp2 fGe (mVar 1) (mOp1 fLen (mVar 0)))) (stL xs p deep acc' s8) true := (Tb.asB (b := decide ((xs.length : Int) ≤ (p : Int))) (Ef.op2 (Ef.v rfl).ev (Ef.op1 (Ef.v rfl).ev (len_o xs)).ev rfl).ev).to (decide_eq_true (by omega))
            refine (mSeq_ok h2).trans ?_
            exact if_raise tp
        | some q =>
          obtain ⟨ds, r⟩ := q
          rw [hs] at hlo
          obtain ⟨p, s8, h2, h3, h4⟩ := hlo
          obtain ⟨q1, q2, q3⟩ := drop_at h4
          have tp : Tb (mAsB (mOp2 fGe (mVar 1) (mOp1 fLen (mVar 0)))) (stL xs p deep ds s8) false := (Tb.asB (b := decide ((xs.length : Int) ≤ (p : Int))) (Ef.op2 (Ef.v rfl).ev (Ef.op1 (Ef.v rfl).ev (len_o xs)).ev rfl).ev).to (decide_eq_false (by omega))
          refine ⟨p + 1, stL xs p deep ds s8, ?_, q2, q3⟩
          refine (mSeq_ok h2).trans ?_
          rw [List.nil_append, st_skip tp]
          exact st_ret (Ef.tup (.cons (Ef.op1 (Ev.own rfl) rfl) (.one (Ef.op2 (Ef.v rfl).ev (Ef.c _ _).ev rfl))))
      · rw [if_neg c5]
        exact ⟨0, st0 xs k deep (.dat (.int c)), if_raise (to.to (by simp [c5]))⟩
/-! ### read -/
theorem readtop_ok {xs : List Int} (hl : xs.length ≤ 90000) (ho : ∀ c ∈ xs, 0 ≤ c ∧ c < 256) : match readS xs with
    | some v => f_d_read [octD xs] = some (.ok v)
    | none => ∃ c, f_d_read [octD xs] = some (.er c) := by
  have h := read_ok hl ho 420 401 0 0 (Nat.zero_le _) (by decide) (by decide)
  rw [List.drop_zero] at h
  have hA : Es (mCons (mVar 0) (mCons (mC (.int 0)) (mCons (mC (.int 0)) mNil))) [.dat (octD xs), .un, .un] [octD xs, .int ((0 : Nat) : Int), .int 0] := .cons (Ef.v rfl) (.cons (Ef.c _ _) (.one (Ef.c _ _)))
  unfold readS
  cases hr : rd 401 xs with
  | none =>
    rw [hr] at h
    obtain ⟨c, hc⟩ := h
    exact ⟨0, runR_er (ρ' := [.dat (octD xs), .un, .un]) rfl (seq_er (asg_er (callR_er hA hc)))⟩
  | some q =>
    obtain ⟨v, r⟩ := q
    rw [hr] at h
    obtain ⟨p, hp, h1, h2⟩ := h
    have e1 : m_d_read [.dat (octD xs), .un, .un] = (mSeq (mIfS (mAsB (mOp2 fNe (mVar 2) (mOp1 fLen (mVar 0)))) mRaise mSkip)
  (mRetS (mVar 1))) [.dat (octD xs), .dat v, .dat (.int (p : Int))] := by
      unfold m_d_read
      exact seq_asg (Ef.callR hA hp) rfl
    have t1 : Tb (mAsB (mOp2 fNe (mVar 2) (mOp1 fLen (mVar 0)))) [.dat (octD xs), .dat v, .dat (.int (p : Int))] (!((p : Int) == (xs.length : Int))) := Tb.asB (Ef.op2 (Ef.v rfl).ev (Ef.op1 (Ef.v rfl).ev (len_o xs)).ev (ne_i _ _)).ev
    cases r with
    | nil =>
      have := drop_nil h2
      have hpe : p = xs.length := by omega
      refine runR_rt (ρ' := [.dat (octD xs), .dat v, .dat (.int (p : Int))]) rfl (e1.trans ?_)
      rw [st_skip (t1.to (by simp [hpe]))]
      exact st_ret (Ef.v rfl)
    | cons a b =>
      have := (drop_at h2).2.1
      refine ⟨0, runR_er (ρ' := [.dat (octD xs), .dat v, .dat (.int (p : Int))]) rfl (e1.trans ?_)⟩
      exact if_raise (t1.to (by simp; omega))
end K27
namespace K27
open PySem L2 Dat
theorem st_extend {i : Nat} {ma : M Vw} {ρ : List Sl} {es ds : List D} (h : Ef ma ρ (.list es)) (h0 : ρ[i]? = some (.own (.lst ds))) (hl : ds.length + es.length ≤ BIG) : mExtend i ma ρ = some (.nx, ρ.set i (.own (.lst (ds ++ es)))) := by
  obtain ⟨w, h1, _, h2⟩ := h
  unfold mExtend isOL
  simp only [h0]
  rw [mThen_ok h1, mThen_ok h2]
  unfold ownL
  simp only [h0]
  unfold extL
  simp only [if_pos hl]
theorem st_newL {i : Nat} {ma : M (List Vw)} {ρ ρ1 : List Sl} {ds : List D} (h : Es ma ρ ds) (hl : ds.length ≤ 100) (g : asgO i (.lst ds) ρ = some (.nx, ρ1)) : mNewL ma i ρ = some (.nx, ρ1) := by
  obtain ⟨ws, h1, h2⟩ := h
  unfold mNewL
  rw [mThen_ok h1, mThen_ok h2]
  unfold newL
  rw [if_pos (Nat.le_trans hl (by decide))]
  exact g
abbrev stV (v : D) (deep : Int) (s2 s3 s4 s5 s6 : Sl) : List Sl := [.dat v, .dat (.int deep), s2, s3, s4, s5, s6]
theorem vdeep {v : D} {deep : Int} (h : deep ≤ 400) {s2 s3 s4 s5 s6 : Sl} : Tb (mAsB (mOp2 fGt (mVar 1) (mC (.int 400)))) (stV v deep s2 s3 s4 s5 s6) false :=
  (Tb.asB (b := decide (400 < deep)) (Ef.op2 (Ef.v rfl).ev (Ef.c _ _).ev rfl).ev).to (decide_eq_false (by omega))
theorem lst1 {x : Str} {c : Int} (h : fOrd (.str x) = some (.int c)) (ρ : List Sl) : Ef (mLst (mCons (mOp1 fOrd (mC (.str x))) mNil)) ρ (octD [c]) := Ef.lst (.one (Ef.op1 (Ef.c _ _).ev h))
theorem wr_none (n : Nat) (deep : Int) (h : deep ≤ 400) : f_d_u_written (n + 1) [.none, .int deep] = some (.ok (octD (oct .none))) := by
  refine runR_rt (ρ' := stV .none deep .un .un .un .un .un) rfl ?_
  show m_d_u_written (f_d_u_written n) (stV .none deep .un .un .un .un .un) = _
  unfold m_d_u_written
  rw [st_skip (vdeep h)]
  exact if_ret (Tb.isN (d := .none) (Ef.v rfl).ev) (lst1 rfl _)
theorem isi_b {f : D → Option D} {b : Bool} {v : D} {ρ : List Sl} (h0 : ρ[0]? = some (.dat v)) (h : f v = some (.bool b)) : Tb (mTru (mOp1 f (mVar 0))) ρ b := Tb.tru (Ef.op1 (Ef.v h0).ev h).ev rfl
theorem wr_bool (n : Nat) (b : Bool) (deep : Int) (h : deep ≤ 400) : f_d_u_written (n + 1) [.bool b, .int deep] = some (.ok (octD (oct (.bool b)))) := by
  refine runR_rt (ρ' := stV (.bool b) deep .un .un .un .un .un) rfl ?_
  show m_d_u_written (f_d_u_written n) (stV (.bool b) deep .un .un .un .un .un) = _
  unfold m_d_u_written
  rw [st_skip (vdeep h), st_skip (Tb.isN (d := .bool b) (Ef.v rfl).ev)]
  refine if_ret (isi_b (v := .bool b) rfl rfl) ?_
  have t : Tb (mTru (mVar 0)) (stV (.bool b) deep .un .un .un .un .un) b := Tb.tru (Ef.v (d := .bool b) rfl).ev rfl
  cases b with
  | true => exact Ef.lst (.one (Ef.ift t (Ef.op1 (Ef.c _ _).ev rfl)))
  | false => exact Ef.lst (.one (Ef.iff t (Ef.op1 (Ef.c _ _).ev rfl)))
theorem abs_i (i : Int) : fAbs (.int i) = some (.int (i.natAbs : Int)) := by
  show some (PyData.int _) = _
  congr 2
  first | rfl | (split <;> omega) | omega
theorem wr_int (n : Nat) (i : Int) (deep : Int) (h : deep ≤ 400) (hi : i.natAbs < STRW) : f_d_u_written (n + 1) [.int i, .int deep] = some (.ok (octD (oct (.int i)))) := by
  refine runR_rt (ρ' := stV (.int i) deep .un .un .un .un .un) rfl ?_
  show m_d_u_written (f_d_u_written n) (stV (.int i) deep .un .un .un .un .un) = _
  unfold m_d_u_written
  rw [st_skip (vdeep h), st_skip (Tb.isN (d := .int i) (Ef.v rfl).ev), st_skip (isi_b (v := .int i) rfl rfl)]
  refine if_ret (isi_b (v := .int i) rfl rfl) ?_
  have hd : f_d_u_digits [.int (i.natAbs : Int)] = some (octD (up (dig i.natAbs))) := by
    have h1 : ((i.natAbs : Int)).natAbs < STRW := by rw [Int.natAbs_natCast]; exact hi
    have := digits_eq h1 (Nat.le_trans (str_len h1) (by decide))
    rw [codes_nat] at this
    exact this
  have hl : (up (dig i.natAbs)).length ≤ 77 := by unfold up; rw [List.length_map]; exact dig_len hi
  have eD : Ef (mCall f_d_u_digits (mCons (mOp1 fAbs (mVar 0)) mNil)) (stV (.int i) deep .un .un .un .un .un) (octD (up (dig i.natAbs))) := Ef.call (.one (Ef.op1 (Ef.v rfl).ev (abs_i i))) hd
  have t : Tb (mAsB (mOp2 fLt (mVar 0) (mC (.int 0)))) (stV (.int i) deep .un .un .un .un .un) (decide (i < 0)) := Tb.asB (Ef.op2 (Ef.v rfl).ev (Ef.c _ _).ev rfl).ev
  by_cases hn : i < 0
  · have e : oct (.int i) = [105] ++ [45] ++ up (dig i.natAbs) ++ [59] := by
      show [105] ++ codes (toString i) ++ [59] = _
      rw [codes_neg hn]; rfl
    have eS := Ef.ift (mb := mLst mNil) (t.to (decide_eq_true hn)) (lst1 (x := "-") (c := 45) rfl _)
    rw [e]
    exact Ef.op2 (Ef.op2 (Ef.op2 (lst1 (c := 105) rfl _).ev eS.ev (plusO _ _ (by decide))).ev eD.ev (plusO _ _ (by simp only [List.length_append, List.length_singleton]; omega))).ev (lst1 (c := 59) rfl _).ev (plusO _ _ (by simp only [List.length_append, List.length_singleton]; omega))
  · have e : oct (.int i) = [105] ++ [] ++ up (dig i.natAbs) ++ [59] := by
      show [105] ++ codes (toString i) ++ [59] = _
      rw [codes_pos (by omega)]; rfl
    have eS := Ef.iff (ma := mLst (mCons (mOp1 fOrd (mC (.str "-"))) mNil)) (mb := mLst mNil) (d := octD []) (t.to (decide_eq_false hn)) (Ef.lst (.nil _))
    rw [e]
    exact Ef.op2 (Ef.op2 (Ef.op2 (lst1 (c := 105) rfl _).ev eS.ev (plusO _ _ (by decide))).ev eD.ev (plusO _ _ (by simp only [List.length_append, List.length_singleton, List.length_nil]; omega))).ev (lst1 (c := 59) rfl _).ev (plusO _ _ (by simp only [List.length_append, List.length_singleton, List.length_nil]; omega))
theorem wr_str (n : Nat) (x : Str) (deep : Int) (h : deep ≤ 400) (g : (codes x).all okC = true) (hx : x.length ≤ 90000) : f_d_u_written (n + 1) [.str x, .int deep] = some (.ok (octD (oct (.str x)))) := by
  refine runR_rt (ρ' := stV (.str x) deep (.dat (octD (codes x))) .un .un .un .un) rfl ?_
  show m_d_u_written (f_d_u_written n) (stV (.str x) deep .un .un .un .un .un) = _
  unfold m_d_u_written
  rw [st_skip (vdeep h), st_skip (Tb.isN (d := .str x) (Ef.v rfl).ev), st_skip (isi_b (v := .str x) rfl rfl), st_skip (isi_b (v := .str x) rfl rfl), st_then (isi_b (v := .str x) rfl rfl)]
  refine seq_rt ?_
  have hcl := codes_len x
  have hok : ∀ c ∈ codes x, 0 ≤ c ∧ c < 256 := fun c hc => okC_nn (List.all_eq_true.mp g c hc)
  have e7 : L_d_u_written_7 (f_d_u_written n) (stV (.str x) deep .un .un .un .un .un) = some (.ok (.dat (octD (codes x))), stV (.str x) deep .un .un .un .un .un) :=
    lc_ord (i := 3) (mi := mSeqS (mVar 0)) rfl (by omega) rfl rfl (fun _ => rfl) (fun _ => ⟨rfl, rfl⟩)
  have e4 : L_d_u_written_4 (f_d_u_written n) (stV (.str x) deep (.dat (octD (codes x))) .un .un .un .un) = some (.ok (.dat (.list (told (codes x)))), stV (.str x) deep (.dat (octD (codes x))) .un .un .un .un) := by
    have := mLc_pure (mi := mSeqL (mVar 2)) (gm := asgD 4) (mt := T_d_u_written_3 (f_d_u_written n)) (me := E_d_u_written_2 (f_d_u_written n)) (vs := [4]) (enc := PyData.int) (fun c => some (PyData.str (sg c))) (codes x) (ρ := stV (.str x) deep (.dat (octD (codes x))) .un .un .un .un) (ρ0 := stV (.str x) deep (.dat (octD (codes x))) .un .un .un .un) rfl (le_bigN (by omega)) (fun c hc => by
      have e2 : mBind (E_d_u_written_2 (f_d_u_written n)) frc (stV (.str x) deep (.dat (octD (codes x))) .un (.dat (.int c)) .un .un) = some (.ok (.str (sg c)), stV (.str x) deep (.dat (octD (codes x))) .un (.dat (.int c)) .un .un) :=
        (Ef.call (.one (Ef.v rfl)) (sign_ok (hok c hc).1 (hok c hc).2)).bind
      exact stepC_yes (ρ1 := stV (.str x) deep (.dat (octD (codes x))) .un (.dat (.int c)) .un .un) (ρ2 := stV (.str x) deep (.dat (octD (codes x))) .un (.dat (.int c)) .un .un) (ρ3 := stV (.str x) deep (.dat (octD (codes x))) .un (.dat (.int c)) .un .un) rfl rfl e2)
    rw [List.filterMap_eq_map'] at this
    exact this
  rw [seq_asg (ρ' := stV (.str x) deep (.dat (octD (codes x))) .un .un .un .un) (Ef.dat e7) rfl]
  have t : Tb (mAsB (mOp2 fInS (mC (.str "")) (L_d_u_written_4 (f_d_u_written n)))) (stV (.str x) deep (.dat (octD (codes x))) .un .un .un .un) false :=
    (Tb.asB (Ef.op2 (Ef.c _ _).ev (Ef.dat e4).ev (told_in _ fun c hc => (hok c hc).2)).ev).to (by rw [g]; rfl)
  rw [st_skip t]
  have hS : (x.length : Int).natAbs < STRW := by rw [Int.natAbs_natCast]; exact Nat.lt_of_le_of_lt hx (by decide)
  have hd : f_d_u_digits [.int ((codes x).length : Int)] = some (octD (codes (toString (x.length : Int)))) := by
    rw [hcl]
    exact digits_eq hS (Nat.le_trans (str_len hS) (by decide))
  have hl : (codes (toString (x.length : Int))).length ≤ 78 := by rw [codes_len]; exact str_len hS
  have eD : Ef (mCall f_d_u_digits (mCons (mOp1 fLen (mVar 2)) mNil)) (stV (.str x) deep (.dat (octD (codes x))) .un .un .un .un) (octD (codes (toString (x.length : Int)))) := Ef.call (.one (Ef.op1 (Ef.v rfl).ev (len_o _))) hd
  have e : oct (.str x) = [115] ++ codes (toString (x.length : Int)) ++ [58] ++ codes x := by
    show [115] ++ (codes (toString (x.length : Int)) ++ [58] ++ codes x) = _
    simp only [List.append_assoc]
  rw [e]
  exact st_ret (Ef.op2 (Ef.op2 (Ef.op2 (lst1 (c := 115) rfl _).ev eD.ev (plusO _ _ (by simp only [List.length_append, List.length_singleton]; omega))).ev (lst1 (c := 58) rfl _).ev (plusO _ _ (by simp only [List.length_append, List.length_singleton]; omega))).ev (Ef.v rfl).ev (plusO _ _ (by simp only [List.length_append, List.length_singleton]; omega)))
theorem deep_er (f : Nat) (v : D) (deep : Int) (h : 400 < deep) : f_d_u_written (f + 1) [v, .int deep] = some (.er 0) := by
  refine runR_er (ρ' := stV v deep .un .un .un .un .un) rfl ?_
  show m_d_u_written (f_d_u_written f) (stV v deep .un .un .un .un .un) = _
  have t : Tb (mAsB (mOp2 fGt (mVar 1) (mC (.int 400)))) (stV v deep .un .un .un .un .un) true := (Tb.asB (b := decide (400 < deep)) (Ef.op2 (Ef.v rfl).ev (Ef.c _ _).ev rfl).ev).to (decide_eq_true h)
  unfold m_d_u_written
  exact if_raise t
/-- a tuple, up to its loop -/
theorem wr_loop (f : Nat) (ds : List D) (deep : Int) (h : deep ≤ 400) (ρ' : List Sl) (r : Fl) (hr : r ≠ .nx)
    (e : loopS (asgD 6) (B_d_u_written_0 (f_d_u_written f)) ds (stV (.tuple ds) deep .un .un .un (.own (.lst [.int 40])) .un) = some (r, ρ')) : m_d_u_written (f_d_u_written f) (stV (.tuple ds) deep .un .un .un .un .un) = some (r, ρ') := by
  unfold m_d_u_written
  rw [st_skip (vdeep h), st_skip (Tb.isN (d := .tuple ds) (Ef.v rfl).ev), st_skip (isi_b (v := .tuple ds) rfl rfl), st_skip (isi_b (v := .tuple ds) rfl rfl), st_skip (isi_b (v := .tuple ds) rfl rfl), st_skip (Tb.no (isi_b (v := .tuple ds) (b := true) rfl rfl)),
    mSeq_ok (st_newL (ρ1 := stV (.tuple ds) deep .un .un .un (.own (.lst [.int 40])) .un) (.one (Ef.op1 (f := fOrd) (d := .str "(") (z := .int 40) (Ef.c _ _).ev rfl)) (by exact Nat.le_of_ble_eq_true rfl) rfl)]
  have e2 : L_d_u_written_1 (f_d_u_written f) (stV (.tuple ds) deep .un .un .un (.own (.lst [.int 40])) .un) = some (r, ρ') := e
  unfold mSeq
  rw [e2]
  cases r <;> first | rfl | exact absurd rfl hr
theorem wr_done (f : Nat) (ds : List D) (deep : Int) (h : deep ≤ 400) (s6 : Sl) (hl : (octs ds).length ≤ 100000)
    (e : loopS (asgD 6) (B_d_u_written_0 (f_d_u_written f)) ds (stV (.tuple ds) deep .un .un .un (.own (.lst [.int 40])) .un) = some (.nx, stV (.tuple ds) deep .un .un .un (.own (.lst (([40] ++ octs ds).map .int))) s6)) : f_d_u_written (f + 1) [.tuple ds, .int deep] = some (.ok (octD (oct (.tuple ds)))) := by
  refine runR_rt (ρ' := stV (.tuple ds) deep .un .un .un (.own (.lst (([40] ++ octs ds).map .int))) s6) rfl ?_
  show m_d_u_written (f_d_u_written f) (stV (.tuple ds) deep .un .un .un .un .un) = _
  unfold m_d_u_written
  rw [st_skip (vdeep h), st_skip (Tb.isN (d := .tuple ds) (Ef.v rfl).ev), st_skip (isi_b (v := .tuple ds) rfl rfl), st_skip (isi_b (v := .tuple ds) rfl rfl), st_skip (isi_b (v := .tuple ds) rfl rfl), st_skip (Tb.no (isi_b (v := .tuple ds) (b := true) rfl rfl)),
    mSeq_ok (st_newL (ρ1 := stV (.tuple ds) deep .un .un .un (.own (.lst [.int 40])) .un) (.one (Ef.op1 (f := fOrd) (d := .str "(") (z := .int 40) (Ef.c _ _).ev rfl)) (by exact Nat.le_of_ble_eq_true rfl) rfl)]
  have e2 : L_d_u_written_1 (f_d_u_written f) (stV (.tuple ds) deep .un .un .un (.own (.lst [.int 40])) .un) = some (.nx, stV (.tuple ds) deep .un .un .un (.own (.lst (([40] ++ octs ds).map .int))) s6) := e
  rw [mSeq_ok e2]
  exact st_ret (Ef.op2 (d := octD ([40] ++ octs ds)) (e := octD [41]) (Ev.own rfl) (lst1 rfl _).ev (plusO _ _ (by simp only [List.length_append, List.length_singleton]; omega)))
def Wr (res : Option (Rs D)) (v : D) (c : Prop) : Prop := (c → res = some (.ok (octD (oct v)))) ∧ (¬ c → ∃ e, res = some (.er e))
/-- one part more -/
theorem wr_step {f : Nat} {all : D} {x : D} {deep : Int} {acc : List Int} {s6 : Sl} (h6 : np s6 = true) (hl : acc.length + (oct x).length ≤ 200000) :
    (∀ e, f_d_u_written f [x, .int (deep + 1)] = some (.er e) → stepS (asgD 6) (B_d_u_written_0 (f_d_u_written f)) x (stV all deep .un .un .un (.own (.lst (acc.map .int))) s6) = some (.er 0, stV all deep .un .un .un (.own (.lst (acc.map .int))) (.dat x))) ∧
    (f_d_u_written f [x, .int (deep + 1)] = some (.ok (octD (oct x))) → stepS (asgD 6) (B_d_u_written_0 (f_d_u_written f)) x (stV all deep .un .un .un (.own (.lst (acc.map .int))) s6) = some (.nx, stV all deep .un .un .un (.own (.lst ((acc ++ oct x).map .int))) (.dat x))) := by
  have hA : Es (mCons (mVar 6) (mCons (mOp2 fPlus (mVar 1) (mC (.int 1))) mNil)) (stV all deep .un .un .un (.own (.lst (acc.map .int))) (.dat x)) [x, .int (deep + 1)] := .cons (Ef.v rfl) (.one (Ef.op2 (Ef.v rfl).ev (Ef.c _ _).ev rfl))
  have g := asgD_np (d := x) (show npAt 6 (stV all deep .un .un .un (.own (.lst (acc.map .int))) s6) = true from h6)
  refine ⟨fun e he => ?_, fun he => ?_⟩
  · unfold stepS
    rw [g]
    show B_d_u_written_0 (f_d_u_written f) (stV all deep .un .un .un (.own (.lst (acc.map .int))) (.dat x)) = _
    have h1 := callR_er hA he
    unfold B_d_u_written_0 mExtend isOL
    simp only [List.getElem?_cons_succ, List.getElem?_cons_zero]
    unfold mThen
    rw [h1]
  · unfold stepS
    rw [g]
    show B_d_u_written_0 (f_d_u_written f) (stV all deep .un .un .un (.own (.lst (acc.map .int))) (.dat x)) = _
    have e1 : Ef (mCallR (f_d_u_written f) (mCons (mVar 6) (mCons (mOp2 fPlus (mVar 1) (mC (.int 1))) mNil))) (stV all deep .un .un .un (.own (.lst (acc.map .int))) (.dat x)) (.list ((oct x).map .int)) := Ef.callR hA he
    refine (st_extend e1 rfl ?_).trans ?_
    · rw [List.length_map, List.length_map]
      exact Nat.le_trans hl (by decide)
    · rw [List.map_append]; rfl
theorem loopS_nx {gm : GM} {body : MS} {d : D} {ds : List D} {ρ ρ' : List Sl} (h : stepS gm body d ρ = some (.nx, ρ')) : loopS gm body (d :: ds) ρ = loopS gm body ds ρ' := by
  unfold stepS at h
  conv => lhs; unfold loopS
  cases q : gm d ρ with
  | none => rw [q] at h; cases h
  | some ρ1 =>
    rw [q] at h
    simp only at h ⊢
    rw [h]
theorem loopS_er {gm : GM} {body : MS} {d : D} {ds : List D} {c : Nat} {ρ ρ' : List Sl} (h : stepS gm body d ρ = some (.er c, ρ')) : loopS gm body (d :: ds) ρ = some (.er c, ρ') := by
  unfold stepS at h
  conv => lhs; unfold loopS
  cases q : gm d ρ with
  | none => rw [q] at h; cases h
  | some ρ1 =>
    rw [q] at h
    simp only at h ⊢
    rw [h]
mutual
theorem wr_ok : ∀ (v : D) (m f d : Nat), good v = true → okV m v = true → (oct v).length ≤ 90000 → d ≤ 401 → 401 - d < f → Wr (f_d_u_written f [v, .int (d : Int)]) v (d + need v ≤ 401)
  | v, m, 0, d, _, _, _, _, hf => by omega
  | .none, m, f + 1, d, _, _, _, hd, hf => by
    refine ⟨fun c => wr_none f d (by have : d + 1 ≤ 401 := c; omega), fun c => ⟨0, deep_er f _ _ (by have : ¬ d + 1 ≤ 401 := c; omega)⟩⟩
  | .bool b, m, f + 1, d, _, _, _, hd, hf => by
    refine ⟨fun c => wr_bool f b d (by have : d + 1 ≤ 401 := c; omega), fun c => ⟨0, deep_er f _ _ (by have : ¬ d + 1 ≤ 401 := c; omega)⟩⟩
  | .int i, m, f + 1, d, _, k, _, hd, hf => by
    have k : decide (i.natAbs < STRW) = true := by cases m <;> exact k
    refine ⟨fun c => wr_int f i d (by have : d + 1 ≤ 401 := c; omega) (of_decide_eq_true k), fun c => ⟨0, deep_er f _ _ (by have : ¬ d + 1 ≤ 401 := c; omega)⟩⟩
  | .str x, m, f + 1, d, g, k, _, hd, hf => by
    have k : decide (x.length ≤ 90000) = true := by cases m <;> exact k
    refine ⟨fun c => wr_str f x d (by have : d + 1 ≤ 401 := c; omega) g (of_decide_eq_true k), fun c => ⟨0, deep_er f _ _ (by have : ¬ d + 1 ≤ 401 := c; omega)⟩⟩
  | .tuple ds, 0, f + 1, d, _, k, _, _, _ => by cases k
  | .tuple ds, m + 1, f + 1, d, g, k, hl, hd, hf => by
    have k : (okVs m ds && decide (ds.length ≤ 90000)) = true := k
    rw [Bool.and_eq_true] at k
    have hl' : (octs ds).length ≤ 90000 := by
      have : (oct (.tuple ds)).length = (octs ds).length + 2 := by
        show ([40] ++ octs ds ++ [41]).length = _
        simp only [List.length_append, List.length_singleton]; omega
      omega
    by_cases h4 : d = 401
    · refine ⟨fun c => ?_, fun _ => ⟨0, deep_er f _ _ (by omega)⟩⟩
      have := need_pos (.tuple ds)
      omega
    · obtain ⟨h1, h2⟩ := wrs_ok ds m f d (.tuple ds) [40] .un g k.1 hl' (by show 1 + (octs ds).length ≤ 200000; omega) (by omega) (by omega) rfl
      refine ⟨fun c => ?_, fun c => ?_⟩
      · have c : d + (needs ds + 1) ≤ 401 := c
        obtain ⟨s6, e⟩ := h1 (by omega)
        exact wr_done f ds d (by omega) s6 (by omega) e
      · have c : ¬ d + (needs ds + 1) ≤ 401 := c
        obtain ⟨e, ρ', he⟩ := h2 (by omega)
        exact ⟨e, runR_er rfl (wr_loop f ds d (by omega) ρ' (.er e) (fun z => nomatch z) he)⟩
  | .list _, m, f + 1, d, g, _, _, _, _ => by cases g
  | .dict _, m, f + 1, d, g, _, _, _, _ => by cases g
theorem wrs_ok : ∀ (ds : List D) (m f d : Nat) (all : D) (acc : List Int) (s6 : Sl), goods ds = true → okVs m ds = true → (octs ds).length ≤ 90000 → acc.length + (octs ds).length ≤ 200000 → d ≤ 400 → 401 - (d + 1) < f → np s6 = true →
    (d + 1 + needs ds ≤ 401 → ∃ s6', loopS (asgD 6) (B_d_u_written_0 (f_d_u_written f)) ds (stV all (d : Int) .un .un .un (.own (.lst (acc.map .int))) s6) = some (.nx, stV all (d : Int) .un .un .un (.own (.lst ((acc ++ octs ds).map .int))) s6')) ∧
    (¬ d + 1 + needs ds ≤ 401 → ∃ e ρ', loopS (asgD 6) (B_d_u_written_0 (f_d_u_written f)) ds (stV all (d : Int) .un .un .un (.own (.lst (acc.map .int))) s6) = some (.er e, ρ'))
  | [], m, f, d, all, acc, s6, _, _, _, _, _, _, _ => by
    refine ⟨fun _ => ⟨s6, ?_⟩, fun c => ?_⟩
    · rw [show octs [] = [] from rfl, List.append_nil]; rfl
    · have : ¬ d + 1 + 0 ≤ 401 := c
      omega
  | x :: ds, m, f, d, all, acc, s6, g, k, hl0, hl, hd, hf, h6 => by
    have g : (good x && goods ds) = true := g
    rw [Bool.and_eq_true] at g
    have k : (okV m x && okVs m ds) = true := by cases m <;> exact k
    rw [Bool.and_eq_true] at k
    have hl : acc.length + (oct x ++ octs ds).length ≤ 200000 := hl
    rw [List.length_append] at hl
    have hl0 : (oct x ++ octs ds).length ≤ 90000 := hl0
    rw [List.length_append] at hl0
    have hn : needs (x :: ds) = max (need x) (needs ds) := rfl
    have hx := need_pos x
    by_cases hlx : (oct x).length ≤ 90000
    · obtain ⟨w1, w2⟩ := wr_ok x m f (d + 1) g.1 k.1 hlx (by omega) hf
      obtain ⟨t1, t2⟩ := wr_step (f := f) (all := all) (x := x) (deep := (d : Int)) (acc := acc) h6 (by omega)
      by_cases c1 : d + 1 + need x ≤ 401
      · have hs := t2 (w1 c1)
        obtain ⟨r1, r2⟩ := wrs_ok ds m f d all (acc ++ oct x) (.dat x) g.2 k.2 (by omega) (by rw [List.length_append]; omega) hd hf rfl
        rw [loopS_nx hs]
        refine ⟨fun c => ?_, fun c => ?_⟩
        · obtain ⟨s6', e⟩ := r1 (by omega)
          exact ⟨s6', by rw [e, List.append_assoc]; rfl⟩
        · exact r2 (by omega)
      · obtain ⟨e, he⟩ := w2 c1
        refine ⟨fun c => by omega, fun _ => ⟨0, _, loopS_er (t1 e he)⟩⟩
    · exfalso
      exact hlx (by omega)
end
theorem written_ok {v : D} {m : Nat} (g : good v = true) (k : okV m v = true) (hl : (oct v).length ≤ 90000) : Wr (f_d_written [v]) v (need v ≤ 401) := by
  obtain ⟨h1, h2⟩ := wr_ok v m 420 0 g k hl (by decide) (by decide)
  have hA : Es (mCons (mVar 0) (mCons (mC (.int 0)) mNil)) [.dat v] [v, .int ((0 : Nat) : Int)] := .cons (Ef.v rfl) (.one (Ef.c _ _))
  refine ⟨fun c => ?_, fun c => ?_⟩
  · exact runR_rt (ρ' := [.dat v]) rfl (st_ret (Ef.callR hA (h1 (by omega))))
  · obtain ⟨e, he⟩ := h2 (by omega)
    exact ⟨0, runR_er (ρ' := [.dat v]) rfl (ret_er (callR_er hA he))⟩
end K27
namespace K27
open PySem L2 Dat
theorem Ef.andf {ma mb : M Vw} {ρ : List Sl} (h : Ev ma ρ (.bool false)) : Ef (mAndV ma mb) ρ (.bool false) := by
  obtain ⟨w, h1, h2⟩ := h
  refine .dat ?_
  unfold mAndV
  rw [mBind_ok h1]
  have : asB w ρ = some (.ok false, ρ) := by unfold asB; rw [h2]
  rw [mBind_ok this]
  rfl
/-! ### _law_number -/
def TM : M Bool := (mAnd (mAsB (mOp2 fLt (mVar 1) (mOp1 fLen (mVar 0)))) (mChain fLe fLe (mC (.int 48)) (mOp2 fIx (mVar 0) (mVar 1)) (mC (.int 57))))
def BM : MS := (mAsg (mOp2 fPlus (mVar 1) (mC (.int 1))) (asgD 1))
abbrev stM (xs : List Int) (at_ e s : Int) (s4 s5 : Sl) : List Sl := [.dat (octD xs), .dat (.int at_), .dat (.int e), .dat (.int s), s4, s5]
theorem tm_in {xs : List Int} (hl : xs.length ≤ 90000) {k : Nat} {c : Int} (h : xs[k]? = some c) (e s : Int) (s4 s5 : Sl) : Tb TM (stM xs k e s s4 s5) (isDg c) := by
  have hk : k < xs.length := (List.getElem?_eq_some_iff.mp h).1
  have e1 : Tb (mAsB (mOp2 fLt (mVar 1) (mOp1 fLen (mVar 0)))) (stM xs k e s s4 s5) true := (lt_len hl k rfl rfl).to (decide_eq_true (by omega))
  have hx : Ev (mOp2 fIx (mVar 0) (mVar 1)) (stM xs k e s s4 s5) (.int c) := ix_at h rfl rfl
  refine Tb.andt e1 ?_
  by_cases c1 : (48 : Int) ≤ c
  · have : isDg c = decide (c ≤ 57) := by unfold isDg; rw [decide_eq_true c1]; rfl
    rw [this]
    exact Tb.chaint (Ef.c _ _).ev hx (Ef.c _ _).ev (by show some (PyData.bool (decide ((48 : Int) ≤ c))) = _; rw [decide_eq_true c1]) rfl
  · have : isDg c = false := by unfold isDg; rw [decide_eq_false c1]; rfl
    rw [this]
    exact Tb.chainf (Ef.c _ _).ev hx (by show some (PyData.bool (decide ((48 : Int) ≤ c))) = _; rw [decide_eq_false c1])
theorem loop_m {xs : List Int} (hl : xs.length ≤ 90000) (e s : Int) (s4 s5 : Sl) : ∀ (ds rest : List Int) (k n : Nat), xs.drop k = ds ++ rest → (∀ c ∈ ds, isDg c = true) → (∀ c r, rest = c :: r → isDg c = false) → ds.length < n →
    loopW TM BM n (stM xs k e s s4 s5) = some (.nx, stM xs ((k + ds.length : Nat) : Int) e s s4 s5)
  | _, _, _, 0, _, _, _, hn => by omega
  | [], rest, k, n + 1, hd, _, hr, _ => by
    have : Tb TM (stM xs k e s s4 s5) false := by
      cases rest with
      | nil => exact Tb.andf ((lt_len hl k rfl rfl).to (decide_eq_false (by have := drop_nil hd; omega)))
      | cons c r => exact (tm_in hl (drop_at hd).1 e s s4 s5).to (hr c r rfl)
    unfold loopW
    rw [this]
    rfl
  | c :: ds, rest, k, n + 1, hd, ha, hr, hn => by
    obtain ⟨h1, h2, h3⟩ := drop_at hd
    have ht : Tb TM (stM xs k e s s4 s5) true := (tm_in hl h1 e s s4 s5).to (ha c (List.mem_cons_self ..))
    have ih := loop_m hl e s s4 s5 ds rest (k + 1) n h3 (fun x hx => ha x (List.mem_cons_of_mem _ hx)) hr (by rw [List.length_cons] at hn; omega)
    have hb : BM (stM xs k e s s4 s5) = some (.nx, stM xs ((k + 1 : Nat) : Int) e s s4 s5) := st_asg (Ef.op2 (Ef.v (d := .int (k : Int)) rfl).ev (Ef.c _ _).ev rfl) rfl
    unfold loopW
    rw [ht]
    simp only [hb]
    rw [ih, List.length_cons, show k + 1 + ds.length = k + (ds.length + 1) by omega]
def WN (res : Option D) (xs : List Int) : Option (Int × List Int) → Prop
  | none => res = some .none
  | some (v, r) => ∃ p : Nat, res = some (.tuple [.int v, .int (p : Int)]) ∧ p ≤ xs.length ∧ xs.drop p = r
theorem cut_part (xs : List Int) {lo hi : Nat} (h : lo ≤ hi) (hh : hi ≤ xs.length) : cutD (xs.map PyData.int) (some (lo : Int)) (some (hi : Int)) = ((xs.drop lo).take (hi - lo)).map PyData.int := by
  unfold cutD
  rw [HT.sIx_nat, HT.sIx_nat, List.length_map, ← List.map_drop, ← List.map_take, show min lo xs.length = lo by omega, show min hi xs.length = hi by omega]
theorem fold_m (xs : List Int) (e s at_ : Int) : ∀ (ds : List Int) (a : Int) (s5 : Sl), np s5 = true → ∃ s5', np s5' = true ∧ loopS (asgD 5) B_d_u_law_number_0 (ds.map PyData.int) (stM xs at_ e s (.dat (.int a)) s5) = some (.nx, stM xs at_ e s (.dat (.int (ds.foldl (fun a c => a * 10 + c - 48) a))) s5')
  | [], a, s5, h => ⟨s5, h, rfl⟩
  | c :: ds, a, s5, h => by
    obtain ⟨s5', h1, h2⟩ := fold_m xs e s at_ ds (a * 10 + c - 48) (.dat (.int c)) rfl
    refine ⟨s5', h1, ?_⟩
    have hs : stepS (asgD 5) B_d_u_law_number_0 (.int c) (stM xs at_ e s (.dat (.int a)) s5) = some (.nx, stM xs at_ e s (.dat (.int (a * 10 + c - 48))) (.dat (.int c))) := by
      unfold stepS
      rw [asgD_np (show npAt 5 (stM xs at_ e s (.dat (.int a)) s5) = true from h)]
      exact st_asg (Ef.op2 (Ef.op2 (Ef.op2 (Ef.v rfl).ev (Ef.c _ _).ev (mul10 a)).ev (Ef.v rfl).ev rfl).ev (Ef.c _ _).ev rfl) rfl
    rw [List.map_cons, loopS_nx hs, h2]
    rfl
theorem lawnumber_ok {xs : List Int} (hl : xs.length ≤ 90000) (ec : Int) (k : Nat) (hk : k ≤ xs.length) : WN (f_d_u_law_number [octD xs, .int (k : Int), .int ec]) xs (numS ec (xs.drop k)) := by
  have hl2 := List.takeWhile_append_dropWhile (p := isDg) (l := xs.drop k)
  generalize hds : (xs.drop k).takeWhile isDg = ds at hl2
  generalize hrs : (xs.drop k).dropWhile isDg = rest at hl2
  have hd : ∀ c ∈ ds, isDg c = true := fun c hc => by
    rw [← hds] at hc
    exact List.all_eq_true.mp List.all_takeWhile c hc
  have hr : ∀ c r, rest = c :: r → isDg c = false := fun c r h => by
    have := List.head?_dropWhile_not isDg (xs.drop k)
    rw [hrs, h] at this
    simpa using this
  have hlen : k + ds.length + rest.length = xs.length := by
    have := congrArg List.length hl2
    rw [List.length_append, List.length_drop] at this
    omega
  have hloop := loop_m hl ec k .un .un ds rest k 100000 hl2.symm hd hr (by omega)
  have hend : xs.drop (k + ds.length) = rest := by
    rw [← List.drop_drop, ← hl2, List.drop_left]
  have run : ∀ d ρ', m_d_u_law_number [.dat (octD xs), .dat (.int (k : Int)), .dat (.int ec), .un, .un, .un] = some (.rt d, ρ') → f_d_u_law_number [octD xs, .int (k : Int), .int ec] = some d := fun d ρ' h => runP_rt rfl h
  have e1 : m_d_u_law_number [.dat (octD xs), .dat (.int (k : Int)), .dat (.int ec), .un, .un, .un] =
      (mSeq (mIfS (mOr (mAsB (mOp2 fEq (mVar 1) (mVar 3))) (mOr (mAsB (mOp2 fGe (mVar 1) (mOp1 fLen (mVar 0)))) (mOr (mAsB (mOp2 fNe (mOp2 fIx (mVar 0) (mVar 1)) (mVar 2))) (mAnd (mAsB (mOp2 fEq (mOp2 fIx (mVar 0) (mVar 3)) (mC (.int 48)))) (mAsB (mOp2 fGt (mVar 1) (mOp2 fPlus (mVar 3) (mC (.int 1))))))))) (mRetS (mC .none)) mSkip)
  (mSeq (mAsg (mC (.int 0)) (asgD 4))
  (mSeq L_d_u_law_number_1
  (mRetS (mTup (mCons (mVar 4) (mCons (mOp2 fPlus (mVar 1) (mC (.int 1))) mNil))))))) (stM xs ((k + ds.length : Nat) : Int) ec k .un .un) := by
    unfold m_d_u_law_number
    rw [seq_asg (ρ' := stM xs k ec k .un .un) (Ef.v (d := .int (k : Int)) rfl) rfl]
    exact mSeq_ok hloop
  have t1 : Tb (mAsB (mOp2 fEq (mVar 1) (mVar 3))) (stM xs ((k + ds.length : Nat) : Int) ec k .un .un) (((k + ds.length : Nat) : Int) == (k : Int)) := Tb.asB (Ef.op2 (Ef.v rfl).ev (Ef.v rfl).ev (eq_i _ _)).ev
  have t2 : Tb (mAsB (mOp2 fGe (mVar 1) (mOp1 fLen (mVar 0)))) (stM xs ((k + ds.length : Nat) : Int) ec k .un .un) (decide ((xs.length : Int) ≤ ((k + ds.length : Nat) : Int))) := Tb.asB (Ef.op2 (Ef.v rfl).ev (Ef.op1 (Ef.v rfl).ev (len_o xs)).ev rfl).ev
  unfold numS
  rw [hrs, hds]
  by_cases c0 : ds = []
  · have : Tb (mAsB (mOp2 fEq (mVar 1) (mVar 3))) (stM xs ((k + ds.length : Nat) : Int) ec k .un .un) true := t1.to (by rw [c0]; simp)
    have h0 := run .none _ (e1.trans (if_ret (Tb.ort this) (Ef.c _ _)))
    rw [c0]
    cases rest with
    | nil => exact h0
    | cons c r =>
      have : ¬ (c = ec ∧ canon [] = true) := fun h => nomatch h.2
      simp only [if_neg this]
      exact h0
  have hpos : 0 < ds.length := List.length_pos_iff.mpr c0
  have t1' := t1.to (b' := false) (by simp; omega)
  cases rest with
  | nil =>
    have : Tb (mAsB (mOp2 fGe (mVar 1) (mOp1 fLen (mVar 0)))) (stM xs ((k + ds.length : Nat) : Int) ec k .un .un) true := t2.to (decide_eq_true (by simp at hlen; omega))
    exact run .none _ (e1.trans (if_ret (Tb.orf t1' (Tb.ort this)) (Ef.c _ _)))
  | cons c r =>
    obtain ⟨g1, g2, g3⟩ := drop_at hend
    have t2' := t2.to (b' := false) (decide_eq_false (by omega))
    have t3 : Tb (mAsB (mOp2 fNe (mOp2 fIx (mVar 0) (mVar 1)) (mVar 2))) (stM xs ((k + ds.length : Nat) : Int) ec k .un .un) (!(c == ec)) :=
      Tb.asB (Ef.op2 (ix_at g1 rfl rfl) (Ef.v rfl).ev (ne_i _ _)).ev
    by_cases c1 : c = ec
    · have t3' := t3.to (b' := false) (by simp [c1])
      obtain ⟨d0, ds', rfl⟩ : ∃ d0 ds', ds = d0 :: ds' := by
        cases ds with
        | nil => exact absurd rfl c0
        | cons a b => exact ⟨a, b, rfl⟩
      have gk : xs[k]? = some d0 := (drop_at (l := ds' ++ c :: r) hl2.symm).1
      have t4 : Tb (mAsB (mOp2 fEq (mOp2 fIx (mVar 0) (mVar 3)) (mC (.int 48)))) (stM xs ((k + (d0 :: ds').length : Nat) : Int) ec k .un .un) (d0 == 48) :=
        Tb.asB (Ef.op2 (ix_at gk rfl rfl) (Ef.c _ _).ev (eq_i _ _)).ev
      have t5 : Tb (mAsB (mOp2 fGt (mVar 1) (mOp2 fPlus (mVar 3) (mC (.int 1))))) (stM xs ((k + (d0 :: ds').length : Nat) : Int) ec k .un .un) (decide ((k : Int) + 1 < ((k + (d0 :: ds').length : Nat) : Int))) :=
        Tb.asB (Ef.op2 (Ef.v rfl).ev (Ef.op2 (Ef.v rfl).ev (Ef.c _ _).ev rfl).ev rfl).ev
      by_cases c2 : canon (d0 :: ds') = true
      · have t6 : Tb (mAnd (mAsB (mOp2 fEq (mOp2 fIx (mVar 0) (mVar 3)) (mC (.int 48)))) (mAsB (mOp2 fGt (mVar 1) (mOp2 fPlus (mVar 3) (mC (.int 1)))))) (stM xs ((k + (d0 :: ds').length : Nat) : Int) ec k .un .un) false := by
          by_cases c3 : d0 = 48
          · have : ds' = [] := by
              cases ds' with
              | nil => rfl
              | cons x y => exact absurd c3 (of_decide_eq_true (p := d0 ≠ 48) c2)
            subst this
            exact Tb.andt (t4.to (by simp [c3])) (t5.to (decide_eq_false (by simp)))
          · exact Tb.andf (t4.to (by simp [c3]))
        simp only [c1, c2, and_self, ↓reduceIte]
        refine ⟨k + (d0 :: ds').length + 1, ?_, by omega, by rw [g3]⟩
        obtain ⟨s5', _, hf⟩ := fold_m xs ec k ((k + (d0 :: ds').length : Nat) : Int) (d0 :: ds') 0 .un rfl
        have hsl : mSeqL (mCut (mVar 0) (mPart (mVar 3)) (mPart (mVar 1))) (stM xs ((k + (d0 :: ds').length : Nat) : Int) ec k (.dat (.int 0)) .un) = some (.ok ((d0 :: ds').map PyData.int), stM xs ((k + (d0 :: ds').length : Nat) : Int) ec k (.dat (.int 0)) .un) := by
          have hcp := cut_part xs (lo := k) (hi := k + (d0 :: ds').length) (by omega) (by omega)
          rw [← hl2, show k + (d0 :: ds').length - k = (d0 :: ds').length by omega, List.take_left] at hcp
          obtain ⟨w', h1, _, h2⟩ : Ef (mCut (mVar 0) (mPart (mVar 3)) (mPart (mVar 1))) (stM xs ((k + (d0 :: ds').length : Nat) : Int) ec k (.dat (.int 0)) .un) (.list ((d0 :: ds').map PyData.int)) := by
            rw [← hcp]
            exact Ef.cut (Ef.v rfl).ev (part_ok (Ef.v rfl).ev) (part_ok (Ef.v rfl).ev)
          unfold mSeqL
          rw [mBind_ok h1]
          unfold seqL
          rw [mBind_ok h2]
          rfl
        have hL : L_d_u_law_number_1 (stM xs ((k + (d0 :: ds').length : Nat) : Int) ec k (.dat (.int 0)) .un) = some (.nx, stM xs ((k + (d0 :: ds').length : Nat) : Int) ec k (.dat (.int (valI (d0 :: ds')))) s5') := by
          unfold L_d_u_law_number_1 mFor
          rw [mThen_ok hsl]
          exact hf
        refine run _ (stM xs ((k + (d0 :: ds').length : Nat) : Int) ec k (.dat (.int (valI (d0 :: ds')))) s5') (e1.trans ?_)
        rw [st_skip (Tb.orf t1' (Tb.orf t2' (Tb.orf t3' t6))), seq_asg (ρ' := stM xs ((k + (d0 :: ds').length : Nat) : Int) ec k (.dat (.int 0)) .un) (Ef.c (.int 0) _) rfl, mSeq_ok hL]
        exact st_ret (Ef.tup (.cons (Ef.v rfl) (.one (Ef.op2 (Ef.v rfl).ev (Ef.c _ _).ev rfl))))
      · have hds2 : d0 = 48 ∧ ds' ≠ [] := by
          cases ds' with
          | nil => exact absurd rfl c2
          | cons x y =>
            refine ⟨?_, fun z => nomatch z⟩
            rcases Decidable.em (d0 = 48) with h | h
            · exact h
            · exact absurd (decide_eq_true (p := d0 ≠ 48) h) c2
        have hp2 : 0 < ds'.length := List.length_pos_iff.mpr hds2.2
        simp only [c2, and_false, ↓reduceIte, Bool.false_eq_true]
        exact run .none _ (e1.trans (if_ret (Tb.orf t1' (Tb.orf t2' (Tb.orf t3' (Tb.andt (t4.to (by simp [hds2.1])) (t5.to (decide_eq_true (by simp only [List.length_cons]; omega))))))) (Ef.c _ _)))
    · have t3' := t3.to (b' := true) (by simp [c1])
      simp only [c1, false_and, ↓reduceIte]
      exact run .none _ (e1.trans (if_ret (Tb.orf t1' (Tb.orf t2' (Tb.ort t3'))) (Ef.c _ _)))
/-! ### _law_sign -/
def lsT (n : Nat) : Bool := match f_d_u_law_sign [.int (n : Int)] with
  | some (.str s) => decide (s.cps.toList = if okC (n : Int) = true then [n] else [])
  | _ => false
theorem ls_all : (List.range 256).all lsT = true := by decide +kernel
theorem lawsign_ok {c : Int} (h0 : 0 ≤ c) (h1 : c < 256) : f_d_u_law_sign [.int c] = some (.str (sg c)) := by
  have h := List.all_eq_true.mp ls_all c.toNat (List.mem_range.mpr (by omega))
  unfold lsT at h
  rw [show ((c.toNat : Nat) : Int) = c by omega] at h
  cases hf : f_d_u_law_sign [.int c] with
  | none => rw [hf] at h; cases h
  | some d =>
    rw [hf] at h
    cases d with
    | str s =>
      have h := of_decide_eq_true h
      have : s = sg c := by
        cases s with
        | mk cps =>
          unfold sg ofCodes
          have h : cps.toList = _ := h
          congr 1
          apply Array.toList_inj.mp
          rw [h]
          by_cases c1 : okC c = true
          · rw [if_pos c1, if_pos c1]; rfl
          · rw [if_neg c1, if_neg c1]; rfl
      rw [this]
    | none => cases h
    | bool _ => cases h
    | int _ => cases h
    | list _ => cases h
    | tuple _ => cases h
    | dict _ => cases h
end K27
namespace K27
open PySem L2 Dat
def WR (res : Option D) (xs : List Int) : Option (D × List Int) → Prop
  | none => res = some .none
  | some (v, r) => ∃ p : Nat, res = some (.tuple [.list [v], .int (p : Int)]) ∧ p ≤ xs.length ∧ xs.drop p = r
def WS (res : Option (Fl × List Sl)) (xs : List Int) : Option (D × List Int) → Prop
  | none => ∃ ρ', res = some (.rt .none, ρ')
  | some (v, r) => ∃ (p : Nat) (ρ' : List Sl), res = some (.rt (.tuple [.list [v], .int (p : Int)]), ρ') ∧ p ≤ xs.length ∧ xs.drop p = r
theorem WS.seq {m k : MS} {ρ : List Sl} {xs : List Int} {s : Option (D × List Int)} (h : WS (m ρ) xs s) : WS (mSeq m k ρ) xs s := by
  cases s with
  | none =>
    obtain ⟨ρ', e⟩ := h
    exact ⟨ρ', seq_rt e⟩
  | some q =>
    obtain ⟨p, ρ', e, h1, h2⟩ := h
    exact ⟨p, ρ', seq_rt e, h1, h2⟩
theorem WS.run {n N : Nat} {ms : MS} {ds : List D} {xs : List Int} {s : Option (D × List Int)} (hn : ds.length = n) (h : WS (ms (ds.map Sl.dat ++ List.replicate (N - n) .un)) xs s) : WR (runP n N ms ds) xs s := by
  cases s with
  | none =>
    obtain ⟨ρ', e⟩ := h
    exact runP_rt hn e
  | some q =>
    obtain ⟨p, ρ', e, h1, h2⟩ := h
    exact ⟨p, runP_rt hn e, h1, h2⟩
abbrev stX (xs : List Int) (k deep : Int) (s3 s4 s5 s6 s7 : Sl) : List Sl := [.dat (octD xs), .dat (.int k), .dat (.int deep), s3, s4, s5, s6, s7]
theorem ix01 {xs : List Int} {k : Nat} {c : Int} (h : xs[k]? = some c) {deep : Int} {s3 s4 s5 s6 s7 : Sl} : Ef (mOp2 fIx (mVar 0) (mVar 1)) (stX xs k deep s3 s4 s5 s6 s7) (.int c) := Ef.op2 (Ef.v rfl).ev (Ef.v rfl).ev (ix_o h rfl)
theorem tx {xs : List Int} {k : Nat} {c : Int} (h : xs[k]? = some c) {deep : Int} {s3 s4 s5 s6 s7 : Sl} (ec : Int) : Tb (mAsB (mOp2 fEq (mOp2 fIx (mVar 0) (mVar 1)) (mC (.int ec)))) (stX xs k deep s3 s4 s5 s6 s7) (c == ec) := Tb.asB (Ef.op2 (ix01 h).ev (Ef.c _ _).ev (eq_i _ _)).ev
theorem px {xs : List Int} {k deep : Int} {s3 s4 s5 s6 s7 : Sl} : Ef (mOp2 fPlus (mVar 1) (mC (.int 1))) (stX xs k deep s3 s4 s5 s6 s7) (.int (k + 1)) := Ef.op2 (Ef.v rfl).ev (Ef.c _ _).ev rfl
/-! whole numbers -/
def mI : MS := (mSeq (mAsg (mAndV (mOp2 fLt (mOp2 fPlus (mVar 1) (mC (.int 1))) (mOp1 fLen (mVar 0))) (mOp2 fEq (mOp2 fIx (mVar 0) (mOp2 fPlus (mVar 1) (mC (.int 1)))) (mC (.int 45)))) (asgD 3))
  (mSeq (mAsg (mCall f_d_u_law_number (mCons (mVar 0) (mCons (mOp2 fPlus (mVar 1) (mIf (mTru (mVar 3)) (mC (.int 2)) (mC (.int 1)))) (mCons (mC (.int 59)) mNil)))) (asgD 4))
  (mSeq (mIfS (mOr (mIsN (mVar 4)) (mAnd (mTru (mVar 3)) (mAsB (mOp2 fEq (mOp2 fIx (mVar 4) (mC (.int 0))) (mC (.int 0)))))) (mRetS (mC .none)) mSkip)
  (mRetS (mTup (mCons (mLst (mCons (mIf (mTru (mVar 3)) (mOp1 fNeg (mOp2 fIx (mVar 4) (mC (.int 0)))) (mOp2 fIx (mVar 4) (mC (.int 0)))) mNil)) (mCons (mOp2 fIx (mVar 4) (mC (.int 1))) mNil)))))))
theorem int_blk {xs : List Int} (hl : xs.length ≤ 90000) (k : Nat) (hk : k + 1 ≤ xs.length) (deep : Int) : WS (mI (stX xs k deep .un .un .un .un .un)) xs (wholeS (xs.drop (k + 1))) := by
  have p1 : Ev (mOp2 fPlus (mVar 1) (mC (.int 1))) (stX xs k deep .un .un .un .un .un) (.int ((k : Int) + 1)) := px.ev
  have l1 : Ev (mOp2 fLt (mOp2 fPlus (mVar 1) (mC (.int 1))) (mOp1 fLen (mVar 0))) (stX xs k deep .un .un .un .un .un) (.bool (decide ((k : Int) + 1 < (xs.length : Int)))) := (Ef.op2 p1 (Ef.op1 (Ef.v rfl).ev (len_o xs)).ev (lt_i _ _)).ev
  -- what stands when the sign is known
  have go : ∀ (b : Bool), Ef (mAndV (mOp2 fLt (mOp2 fPlus (mVar 1) (mC (.int 1))) (mOp1 fLen (mVar 0))) (mOp2 fEq (mOp2 fIx (mVar 0) (mOp2 fPlus (mVar 1) (mC (.int 1)))) (mC (.int 45)))) (stX xs k deep .un .un .un .un .un) (.bool b) → ∀ k2 : Nat, k2 = k + (if b = true then 2 else 1) → k2 ≤ xs.length →
      WS (mI (stX xs k deep .un .un .un .un .un)) xs (match numS 59 (xs.drop k2) with
        | none => none
        | some (v, r) => if b = true then (if v = 0 then none else some (.int (-v), r)) else some (.int v, r)) := by
    intro b hb k2 hk2 hle
    have hn := lawnumber_ok hl 59 k2 hle
    have t3 : ∀ s4, Tb (mTru (mVar 3)) (stX xs k deep (.dat (.bool b)) s4 .un .un .un) b := fun s4 => Tb.tru (Ef.v (d := .bool b) rfl).ev rfl
    have hA : Es (mCons (mVar 0) (mCons (mOp2 fPlus (mVar 1) (mIf (mTru (mVar 3)) (mC (.int 2)) (mC (.int 1)))) (mCons (mC (.int 59)) mNil))) (stX xs k deep (.dat (.bool b)) .un .un .un .un) [octD xs, .int (k2 : Int), .int 59] := by
      refine .cons (Ef.v rfl) (.cons ?_ (.one (Ef.c _ _)))
      cases b with
      | true =>
        refine Ef.op2 (Ef.v rfl).ev (Ef.ift (t3 .un) (Ef.c _ _)).ev ?_
        rw [add_i, hk2]; rfl
      | false =>
        refine Ef.op2 (Ef.v rfl).ev (Ef.iff (t3 .un) (Ef.c _ _)).ev ?_
        rw [add_i, hk2]; rfl
    cases hs : numS 59 (xs.drop k2) with
    | none =>
      rw [hs] at hn
      have hn : f_d_u_law_number [octD xs, .int (k2 : Int), .int 59] = some .none := hn
      refine ⟨stX xs k deep (.dat (.bool b)) (.dat .none) .un .un .un, ?_⟩
      unfold mI
      rw [seq_asg (ρ' := stX xs k deep (.dat (.bool b)) .un .un .un .un) hb rfl, seq_asg (ρ' := stX xs k deep (.dat (.bool b)) (.dat .none) .un .un .un) (Ef.call hA hn) rfl]
      exact if_ret (Tb.ort (Tb.isN (d := .none) (Ef.v rfl).ev)) (Ef.c _ _)
    | some q =>
      obtain ⟨v, r⟩ := q
      rw [hs] at hn
      obtain ⟨p, hp, h1, h2⟩ := hn
      have e1 : mI (stX xs k deep .un .un .un .un .un) = (mSeq (mIfS (mOr (mIsN (mVar 4)) (mAnd (mTru (mVar 3)) (mAsB (mOp2 fEq (mOp2 fIx (mVar 4) (mC (.int 0))) (mC (.int 0)))))) (mRetS (mC .none)) mSkip)
  (mRetS (mTup (mCons (mLst (mCons (mIf (mTru (mVar 3)) (mOp1 fNeg (mOp2 fIx (mVar 4) (mC (.int 0)))) (mOp2 fIx (mVar 4) (mC (.int 0)))) mNil)) (mCons (mOp2 fIx (mVar 4) (mC (.int 1))) mNil))))) (stX xs k deep (.dat (.bool b)) (.dat (.tuple [.int v, .int (p : Int)])) .un .un .un) := by
        unfold mI
        rw [seq_asg (ρ' := stX xs k deep (.dat (.bool b)) .un .un .un .un) hb rfl, seq_asg (ρ' := stX xs k deep (.dat (.bool b)) (.dat (.tuple [.int v, .int (p : Int)])) .un .un .un) (Ef.call hA hp) rfl]
      have tN : Tb (mIsN (mVar 4)) (stX xs k deep (.dat (.bool b)) (.dat (.tuple [.int v, .int (p : Int)])) .un .un .un) false := Tb.isN (d := .tuple [.int v, .int (p : Int)]) (Ef.v rfl).ev
      have e0 : Ef (mOp2 fIx (mVar 4) (mC (.int 0))) (stX xs k deep (.dat (.bool b)) (.dat (.tuple [.int v, .int (p : Int)])) .un .un .un) (.int v) := Ef.op2 (Ef.v rfl).ev (Ef.c _ _).ev rfl
      have ep : Ef (mOp2 fIx (mVar 4) (mC (.int 1))) (stX xs k deep (.dat (.bool b)) (.dat (.tuple [.int v, .int (p : Int)])) .un .un .un) (.int (p : Int)) := Ef.op2 (Ef.v rfl).ev (Ef.c _ _).ev rfl
      have tz : Tb (mAsB (mOp2 fEq (mOp2 fIx (mVar 4) (mC (.int 0))) (mC (.int 0)))) (stX xs k deep (.dat (.bool b)) (.dat (.tuple [.int v, .int (p : Int)])) .un .un .un) (v == 0) := Tb.asB (Ef.op2 e0.ev (Ef.c _ _).ev (eq_i _ _)).ev
      rw [e1]
      cases b with
      | true =>
        by_cases c : v = 0
        · simp only [↓reduceIte]
          rw [if_pos c]
          exact ⟨stX xs k deep (.dat (.bool true)) (.dat (.tuple [.int v, .int (p : Int)])) .un .un .un, if_ret (Tb.orf tN (Tb.andt (t3 _) (tz.to (by simp [c])))) (Ef.c _ _)⟩
        · simp only [↓reduceIte, c]
          refine ⟨p, stX xs k deep (.dat (.bool true)) (.dat (.tuple [.int v, .int (p : Int)])) .un .un .un, ?_, h1, h2⟩
          rw [st_skip (Tb.orf tN (Tb.andt (t3 _) (tz.to (by simp [c]))))]
          exact st_ret (Ef.tup (.cons (Ef.lst (.one (Ef.ift (t3 _) (Ef.op1 (f := fNeg) e0.ev rfl)))) (.one ep)))
      | false =>
        simp only [Bool.false_eq_true, ↓reduceIte]
        refine ⟨p, stX xs k deep (.dat (.bool false)) (.dat (.tuple [.int v, .int (p : Int)])) .un .un .un, ?_, h1, h2⟩
        rw [st_skip (Tb.orf tN (Tb.andf (t3 _)))]
        exact st_ret (Ef.tup (.cons (Ef.lst (.one (Ef.iff (t3 _) e0))) (.one ep)))
  cases hx : xs.drop (k + 1) with
  | nil =>
    have hle := drop_nil hx
    have := go false (Ef.andf (by rw [decide_eq_false (by omega)] at l1; exact l1)) (k + 1) rfl hk
    rw [hx] at this
    exact this
  | cons c l =>
    obtain ⟨g1, g2, g3⟩ := drop_at hx
    rw [decide_eq_true (by omega)] at l1
    have hb : Ef (mAndV (mOp2 fLt (mOp2 fPlus (mVar 1) (mC (.int 1))) (mOp1 fLen (mVar 0))) (mOp2 fEq (mOp2 fIx (mVar 0) (mOp2 fPlus (mVar 1) (mC (.int 1)))) (mC (.int 45)))) (stX xs k deep .un .un .un .un .un) (.bool (c == 45)) :=
      Ef.andt l1 (Ef.op2 (Ef.op2 (Ef.v rfl).ev p1 (ix_o g1 rfl)).ev (Ef.c _ _).ev (eq_i _ _))
    by_cases c1 : c = 45
    · rw [show (c == 45) = true by simp [c1]] at hb
      have := go true hb (k + 2) rfl g2
      rw [show k + 2 = k + 1 + 1 from rfl, g3] at this
      unfold wholeS
      simp only [if_pos c1]
      cases hs : numS 59 l with
      | none => rw [hs] at this; exact this
      | some q => rw [hs] at this; simp only [↓reduceIte] at this; exact this
    · rw [show (c == 45) = false by simp [c1]] at hb
      have := go false hb (k + 1) rfl hk
      rw [hx] at this
      unfold wholeS
      simp only [if_neg c1]
      cases hs : numS 59 (c :: l) with
      | none => rw [hs] at this; exact this
      | some q => rw [hs] at this; simp only [Bool.false_eq_true, ↓reduceIte] at this; exact this
/-! texts -/
theorem rng_big {n : Nat} (h : n ≤ 100000) {j : Int} (hj : j = (n : Int)) (ρ : List Sl) : rngI 0 j ρ = some (.ok ((List.range n).map fun (i : Nat) => .int (0 + (i : Int))), ρ) := by
  subst hj
  unfold rngI Dat.upTo
  rw [if_pos (by omega)]
  simp
theorem mRng_big {ma : M Vw} {ρ : List Sl} {n : Nat} (h : Ev ma ρ (.int (n : Int))) (hn : n ≤ 100000) : mRng1 ma ρ = some (.ok ((List.range n).map fun (i : Nat) => .int (0 + (i : Int))), ρ) := by
  obtain ⟨w, h1, h2⟩ := h
  rw [mRng1_ok h1 h2, rng_big hn rfl]
theorem told_notin (t : List Int) (h : ∀ c ∈ t, c < 256) : fNotInS (.str "") (.list (told t)) = some (.bool (t.all okC)) := by
  have h1 := told_in t h
  have e : fIn (.str "") (.list (told t)) = some (.bool (!t.all okC)) := by
    unfold fInS at h1
    cases q : fIn (.str "") (.list (told t)) with
    | none => rw [q] at h1; cases h1
    | some z => rw [q] at h1; exact h1
  have e2 : fNotIn (.str "") (.list (told t)) = some (.bool (t.all okC)) := by
    unfold fIn at e
    unfold fNotIn
    simp only at e ⊢
    split at e
    · rename_i c
      rw [if_pos c]
      injection e with e
      injection e with e
      rw [e]
      simp
    · cases e
  unfold fNotInS
  rw [e2]
def mT (slf : List D → Option D) : MS := (mSeq (mAsg (mCall f_d_u_law_number (mCons (mVar 0) (mCons (mOp2 fPlus (mVar 1) (mC (.int 1))) (mCons (mC (.int 58)) mNil)))) (asgD 4))
  (mSeq (mIfS (mOr (mIsN (mVar 4)) (mAsB (mOp2 fGt (mOp2 fPlus (mOp2 fIx (mVar 4) (mC (.int 1))) (mOp2 fIx (mVar 4) (mC (.int 0)))) (mOp1 fLen (mVar 0))))) (mRetS (mC .none)) mSkip)
  (mSeq (mAsg (L_d_u_law_value_at_2 slf) (asgD 5))
  (mRetS (mIf (mAsB (mOp2 fNotInS (mC (.str "")) (mVar 5))) (mTup (mCons (mLst (mCons (mOp1 (fJoin "") (mVar 5)) mNil)) (mCons (mOp2 fPlus (mOp2 fIx (mVar 4) (mC (.int 1))) (mOp2 fIx (mVar 4) (mC (.int 0)))) mNil))) (mC .none))))))
theorem str_blk {slf : List D → Option D} {xs : List Int} (hl : xs.length ≤ 90000) (ho : ∀ c ∈ xs, 0 ≤ c ∧ c < 256) (k : Nat) (hk : k + 1 ≤ xs.length) (deep : Int) : WS (mT slf (stX xs k deep .un .un .un .un .un)) xs (textS (xs.drop (k + 1))) := by
  have hn := lawnumber_ok hl 58 (k + 1) hk
  have hA : Es (mCons (mVar 0) (mCons (mOp2 fPlus (mVar 1) (mC (.int 1))) (mCons (mC (.int 58)) mNil))) (stX xs k deep .un .un .un .un .un) [octD xs, .int ((k + 1 : Nat) : Int), .int 58] := .cons (Ef.v rfl) (.cons px (.one (Ef.c _ _)))
  unfold textS
  cases hs : numS 58 (xs.drop (k + 1)) with
  | none =>
    rw [hs] at hn
    have hn : f_d_u_law_number [octD xs, .int ((k + 1 : Nat) : Int), .int 58] = some .none := hn
    refine ⟨stX xs k deep .un (.dat .none) .un .un .un, ?_⟩
    unfold mT
    rw [seq_asg (ρ' := stX xs k deep .un (.dat .none) .un .un .un) (Ef.call hA hn) rfl]
    exact if_ret (Tb.ort (Tb.isN (d := .none) (Ef.v rfl).ev)) (Ef.c _ _)
  | some q =>
    obtain ⟨v, r⟩ := q
    obtain ⟨m, rfl, _, _⟩ := num_sound hs
    rw [hs] at hn
    obtain ⟨p, hq, h1, h2⟩ := hn
    simp only at h2 ⊢
    have hrl : r.length = xs.length - p := by rw [← h2, List.length_drop]
    have htle : (r.take m).length ≤ m := by rw [List.length_take]; omega
    have e0 : ∀ s5 s6, Ef (mOp2 fIx (mVar 4) (mC (.int 0))) (stX xs k deep .un (.dat (.tuple [.int (m : Int), .int (p : Int)])) s5 s6 .un) (.int (m : Int)) := fun _ _ => Ef.op2 (Ef.v rfl).ev (Ef.c _ _).ev rfl
    have ep : ∀ s5 s6, Ef (mOp2 fIx (mVar 4) (mC (.int 1))) (stX xs k deep .un (.dat (.tuple [.int (m : Int), .int (p : Int)])) s5 s6 .un) (.int (p : Int)) := fun _ _ => Ef.op2 (Ef.v rfl).ev (Ef.c _ _).ev rfl
    have tg : Tb (mAsB (mOp2 fGt (mOp2 fPlus (mOp2 fIx (mVar 4) (mC (.int 1))) (mOp2 fIx (mVar 4) (mC (.int 0)))) (mOp1 fLen (mVar 0)))) (stX xs k deep .un (.dat (.tuple [.int (m : Int), .int (p : Int)])) .un .un .un) (decide ((xs.length : Int) < (p : Int) + (m : Int))) :=
      Tb.asB (Ef.op2 (Ef.op2 (ep _ _).ev (e0 _ _).ev rfl).ev (Ef.op1 (Ef.v rfl).ev (len_o xs)).ev rfl).ev
    have tN : Tb (mIsN (mVar 4)) (stX xs k deep .un (.dat (.tuple [.int (m : Int), .int (p : Int)])) .un .un .un) false := Tb.isN (d := .tuple [.int (m : Int), .int (p : Int)]) (Ef.v rfl).ev
    have e1 : mT slf (stX xs k deep .un .un .un .un .un) = _ := seq_asg (ρ' := stX xs k deep .un (.dat (.tuple [.int (m : Int), .int (p : Int)])) .un .un .un) (Ef.call hA hq) rfl
    rw [e1, show ((m : Nat) : Int).toNat = m by omega]
    by_cases c0 : xs.length < p + m
    · have : ¬ (((r.take m).length : Int) = (m : Int) ∧ (r.take m).all okC = true) := fun h => by
        have := h.1
        rw [List.length_take] at this
        omega
      rw [if_neg this]
      exact ⟨stX xs k deep .un (.dat (.tuple [.int (m : Int), .int (p : Int)])) .un .un .un, if_ret (Tb.orf tN (tg.to (decide_eq_true (by omega)))) (Ef.c _ _)⟩
    · have hlen : (r.take m).length = m := by rw [List.length_take]; omega
      have hcm : ∀ c ∈ r.take m, 0 ≤ c ∧ c < 256 := fun c hc => by
        rw [← h2] at hc
        exact ho c (List.drop_subset _ _ (List.take_subset _ _ hc))
      -- the signs
      have hL : L_d_u_law_value_at_2 slf (stX xs k deep .un (.dat (.tuple [.int (m : Int), .int (p : Int)])) .un .un .un) = some (.ok (.dat (.list (told (r.take m)))), stX xs k deep .un (.dat (.tuple [.int (m : Int), .int (p : Int)])) .un .un .un) := by
        have hsm := mLc_pure (gm := asgD 6) (mt := T_d_u_law_value_at_1 slf) (me := E_d_u_law_value_at_0 slf) (vs := [6]) (enc := fun i : Nat => .int (0 + (i : Int))) (fun i => some (PyData.str (sg ((r.take m).getD i 0)))) (List.range m) (ρ0 := stX xs k deep .un (.dat (.tuple [.int (m : Int), .int (p : Int)])) .un .un .un) (mRng_big (e0 .un .un).ev (by omega)) (by rw [List.length_range]; exact le_bigN (by omega)) (fun i hi => by
          have hi := List.mem_range.mp hi
          have hg : xs[p + i]? = some ((r.take m).getD i 0) := by
            have h3 : (r.take m)[i]? = xs[p + i]? := by
              rw [List.getElem?_take_of_lt hi, ← h2, List.getElem?_drop]
            rw [← h3, List.getD_eq_getElem?_getD, List.getElem?_eq_getElem (by omega)]
            rfl
          have hc := ho _ (List.mem_of_getElem? hg)
          have e2 : mBind (E_d_u_law_value_at_0 slf) frc (stX xs k deep .un (.dat (.tuple [.int (m : Int), .int (p : Int)])) .un (.dat (.int (0 + (i : Int)))) .un) = some (.ok (.str (sg ((r.take m).getD i 0))), stX xs k deep .un (.dat (.tuple [.int (m : Int), .int (p : Int)])) .un (.dat (.int (0 + (i : Int)))) .un) :=
            (Ef.call (.one (Ef.op2 (Ef.v rfl).ev (Ef.op2 (ep _ _).ev (Ef.v rfl).ev rfl).ev (ix_o hg (by omega)))) (lawsign_ok hc.1 hc.2)).bind
          exact stepC_yes (ρ1 := stX xs k deep .un (.dat (.tuple [.int (m : Int), .int (p : Int)])) .un (.dat (.int (0 + (i : Int)))) .un) (ρ2 := stX xs k deep .un (.dat (.tuple [.int (m : Int), .int (p : Int)])) .un (.dat (.int (0 + (i : Int)))) .un) (ρ3 := stX xs k deep .un (.dat (.tuple [.int (m : Int), .int (p : Int)])) .un (.dat (.int (0 + (i : Int)))) .un) rfl rfl e2)
        rw [List.filterMap_eq_map'] at hsm
        have ht : (List.range m).map (fun i => PyData.str (sg ((r.take m).getD i 0))) = told (r.take m) := by
          unfold told
          apply List.ext_getElem?
          intro i
          rw [List.getElem?_map, List.getElem?_map]
          by_cases hi : i < m
          · rw [List.getElem?_range hi, List.getElem?_eq_getElem (by omega)]
            simp only [Option.map_some]
            rw [List.getD_eq_getElem?_getD, List.getElem?_eq_getElem (by omega)]
            rfl
          · rw [List.getElem?_eq_none (by rw [List.length_range]; omega), List.getElem?_eq_none (by omega)]
            rfl
        rw [ht] at hsm
        exact hsm
      have tI : Tb (mAsB (mOp2 fNotInS (mC (.str "")) (mVar 5))) (stX xs k deep .un (.dat (.tuple [.int (m : Int), .int (p : Int)])) (.dat (.list (told (r.take m)))) .un .un) ((r.take m).all okC) := Tb.asB (Ef.op2 (Ef.c _ _).ev (Ef.v rfl).ev (told_notin _ fun c hc => (hcm c hc).2)).ev
      rw [st_skip (Tb.orf tN (tg.to (decide_eq_false (by omega)))), seq_asg (ρ' := stX xs k deep .un (.dat (.tuple [.int (m : Int), .int (p : Int)])) (.dat (.list (told (r.take m)))) .un .un) (Ef.dat hL) rfl]
      by_cases c1 : (r.take m).all okC = true
      · rw [if_pos ⟨by omega, c1⟩]
        refine ⟨p + m, _, st_ret (Ef.ift (tI.to c1) (Ef.tup (.cons (Ef.lst (.one (Ef.op1 (Ef.v rfl).ev (told_join _ c1 (by omega))))) (.one (Ef.op2 (ep _ _).ev (e0 _ _).ev rfl))))), by omega, by rw [← h2, List.drop_drop]⟩
      · rw [if_neg (fun h => c1 h.2)]
        exact ⟨_, st_ret (Ef.iff (tI.toF c1) (Ef.c _ _))⟩
end K27
namespace K27
open PySem L2 Dat
def TV : M Bool := (mAnd (mAsB (mOp2 fLt (mVar 1) (mOp1 fLen (mVar 0)))) (mAsB (mOp2 fNe (mOp2 fIx (mVar 0) (mVar 1)) (mC (.int 41)))))
def BV (slf : List D → Option D) : MS := (mSeq (mAsg (mCall (slf) (mCons (mVar 0) (mCons (mVar 1) (mCons (mOp2 fPlus (mVar 2) (mC (.int 1))) mNil)))) (asgD 4))
  (mSeq (mIfS (mIsN (mVar 4)) (mRetS (mC .none)) mSkip)
  (mSeq (mAppend 7 (mOp2 fIx (mOp2 fIx (mVar 4) (mC (.int 0))) (mC (.int 0))))
  (mAsg (mOp2 fIx (mVar 4) (mC (.int 1))) (asgD 1)))))
def LV (xs : List Int) (deep : Int) (acc : List D) (res : Option (Fl × List Sl)) : Option (List D × List Int) → Prop
  | none => (∃ ρ', res = some (.rt .none, ρ')) ∨ ∃ (p : Nat) (acc' : List D) (s4 : Sl), xs.length ≤ p ∧ res = some (.nx, stX xs p deep .un s4 .un .un (.own (.lst acc')))
  | some (ds, r) => ∃ (p : Nat) (s4 : Sl), res = some (.nx, stX xs p deep .un s4 .un .un (.own (.lst (acc ++ ds)))) ∧ p ≤ xs.length ∧ xs.drop p = 41 :: r
theorem loop_v {slf : List D → Option D} {xs : List Int} (hl : xs.length ≤ 90000) (n : Nat) (deep : Int) (ih : ∀ at_ : Nat, at_ ≤ xs.length → WR (slf [octD xs, .int (at_ : Int), .int (deep + 1)]) xs (rd n (xs.drop at_))) :
    ∀ (k at_ F : Nat) (acc : List D) (s4 : Sl) (l : List Int), xs.drop at_ = l → np s4 = true → l.length < k → l.length < F → acc.length + l.length ≤ 90000 → at_ ≤ xs.length →
      LV xs deep acc (loopW TV (BV slf) F (stX xs at_ deep .un s4 .un .un (.own (.lst acc)))) (rdL (rd n) k l)
  | 0, _, _, _, _, _, _, _, h, _, _, _ => by omega
  | _ + 1, _, 0, _, _, _, _, _, _, h, _, _ => by omega
  | k + 1, at_, F + 1, acc, s4, [], hd, _, _, _, _, _ => by
    have hle := drop_nil hd
    have t1 : Tb TV (stX xs at_ deep .un s4 .un .un (.own (.lst acc))) false := Tb.andf ((lt_len hl at_ rfl rfl).to (decide_eq_false (by omega)))
    right
    refine ⟨at_, acc, s4, hle, ?_⟩
    unfold loopW
    rw [t1]
  | k + 1, at_, F + 1, acc, s4, c :: l, hd, hnp, hk, hF, ha, hat => by
    obtain ⟨g1, g2, g3⟩ := drop_at hd
    have t0 : Tb (mAsB (mOp2 fLt (mVar 1) (mOp1 fLen (mVar 0)))) (stX xs at_ deep .un s4 .un .un (.own (.lst acc))) true := (lt_len hl at_ rfl rfl).to (decide_eq_true (by omega))
    have t1 : Tb TV (stX xs at_ deep .un s4 .un .un (.own (.lst acc))) (!(c == 41)) := Tb.andt t0 (Tb.asB (Ef.op2 (ix_at g1 rfl rfl) (Ef.c _ _).ev (ne_i _ _)).ev)
    unfold rdL
    by_cases c1 : c = 41
    · rw [if_pos c1]
      refine ⟨at_, s4, ?_, hat, by rw [hd, c1]⟩
      unfold loopW
      rw [t1.to (b' := false) (by simp [c1]), List.append_nil]
    · rw [if_neg c1]
      have t1' := t1.to (b' := true) (by simp [c1])
      have h := ih at_ hat
      rw [hd] at h
      have hA : Es (mCons (mVar 0) (mCons (mVar 1) (mCons (mOp2 fPlus (mVar 2) (mC (.int 1))) mNil))) (stX xs at_ deep .un s4 .un .un (.own (.lst acc))) [octD xs, .int (at_ : Int), .int (deep + 1)] :=
        .cons (Ef.v rfl) (.cons (Ef.v rfl) (.one (Ef.op2 (Ef.v rfl).ev (Ef.c _ _).ev rfl)))
      have hg : ∀ z, asgD 4 z (stX xs at_ deep .un s4 .un .un (.own (.lst acc))) = some (stX xs at_ deep .un (.dat z) .un .un (.own (.lst acc))) := fun z => asgD_np hnp
      cases hr : rd n (c :: l) with
      | none =>
        rw [hr] at h
        have h : slf [octD xs, .int (at_ : Int), .int (deep + 1)] = some .none := h
        left
        refine ⟨stX xs at_ deep .un (.dat .none) .un .un (.own (.lst acc)), ?_⟩
        have hb : BV slf (stX xs at_ deep .un s4 .un .un (.own (.lst acc))) = some (.rt .none, stX xs at_ deep .un (.dat .none) .un .un (.own (.lst acc))) := by
          unfold BV
          rw [seq_asg (Ef.call hA h) (hg _)]
          exact if_ret (Tb.isN (d := .none) (Ef.v rfl).ev) (Ef.c _ _)
        unfold loopW
        rw [t1']
        simp only [hb]
      | some q =>
        obtain ⟨d, r⟩ := q
        rw [hr] at h
        obtain ⟨p, hp, h1, h2⟩ := h
        obtain ⟨hs1, hs2⟩ := rd_sound n _ _ _ hr
        obtain ⟨x, y, hx, hxh⟩ := oct_head hs2
        have hlen := congrArg List.length hs1
        rw [hx, List.length_append, List.length_cons, List.length_cons] at hlen
        rw [List.length_cons] at hk hF ha
        have hb : BV slf (stX xs at_ deep .un s4 .un .un (.own (.lst acc))) = some (.nx, stX xs p deep .un (.dat (.tuple [.list [d], .int (p : Int)])) .un .un (.own (.lst (acc ++ [d])))) := by
          unfold BV
          rw [seq_asg (Ef.call hA hp) (hg _), st_skip (Tb.isN (d := .tuple [.list [d], .int (p : Int)]) (Ef.v rfl).ev)]
          have ev : Ef (mOp2 fIx (mOp2 fIx (mVar 4) (mC (.int 0))) (mC (.int 0))) (stX xs at_ deep .un (.dat (.tuple [.list [d], .int (p : Int)])) .un .un (.own (.lst acc))) d := Ef.op2 (Ef.op2 (Ef.v rfl).ev (Ef.c _ _).ev rfl).ev (Ef.c _ _).ev rfl
          rw [mSeq_ok (st_append ev rfl (Nat.lt_of_le_of_lt (show acc.length ≤ 90000 by omega) (by decide)))]
          exact st_asg (Ef.op2 (d := .tuple [.list [d], .int (p : Int)]) (z := .int (p : Int)) (Ef.v rfl).ev (Ef.c _ _).ev rfl) rfl
        have ih2 := loop_v hl n deep ih k p F (acc ++ [d]) (.dat (.tuple [.list [d], .int (p : Int)])) r h2 rfl (by omega) (by omega) (by rw [List.length_append, List.length_singleton]; omega) h1
        have hw : loopW TV (BV slf) (F + 1) (stX xs at_ deep .un s4 .un .un (.own (.lst acc))) = loopW TV (BV slf) F (stX xs p deep .un (.dat (.tuple [.list [d], .int (p : Int)])) .un .un (.own (.lst (acc ++ [d])))) := by
          conv => lhs; unfold loopW
          rw [t1']
          simp only [hb]
        rw [hw]
        simp only
        cases hrl : rdL (rd n) k r with
        | none =>
          rw [hrl] at ih2
          rcases ih2 with h | ⟨p', acc', s4', h3, h4⟩
          · exact .inl h
          · exact .inr ⟨p', acc', s4', h3, h4⟩
        | some q =>
          obtain ⟨es, r'⟩ := q
          rw [hrl] at ih2
          obtain ⟨p', s4', h3, h4, h5⟩ := ih2
          exact ⟨p', s4', by rw [h3, List.append_assoc]; rfl, h4, h5⟩
theorem in_ntf (c : Int) : fInS (.int c) (.tuple [.int 110, .int 116, .int 102]) = some (.bool (decide (c = 110 ∨ c = 116 ∨ c = 102))) := by
  show some (PyData.bool ((PyData.eqv (.int 110) (.int c)) || ((PyData.eqv (.int 116) (.int c)) || ((PyData.eqv (.int 102) (.int c)) || false)))) = _
  congr 2
  have e0 : PyData.eqv (.int 110) (.int c) = ((110 : Int) == c) := by simp [PyData.eqv]
  have e1 : PyData.eqv (.int 116) (.int c) = ((116 : Int) == c) := by simp [PyData.eqv]
  have e2 : PyData.eqv (.int 102) (.int c) = ((102 : Int) == c) := by simp [PyData.eqv]
  rw [e0, e1, e2]
  have b : ∀ m : Int, (m == c) = decide (c = m) := fun m => by
    by_cases h : c = m
    · simp [h]
    · rw [decide_eq_false h, beq_eq_false_iff_ne]
      exact fun z => h z.symm
  rw [b, b, b]
  by_cases h0 : c = 110
  · simp [h0]
  · by_cases h1 : c = 116
    · simp [h1]
    · by_cases h2 : c = 102
      · simp [h2]
      · simp [h0, h1, h2]
theorem disp_ok {xs : List Int} {k : Nat} {c : Int} (h : xs[k]? = some c) (h0 : c = 110 ∨ c = 116 ∨ c = 102) {deep : Int} {s3 s4 s5 s6 s7 : Sl} :
    Ef (mDisp [(.inl 110, .none), (.inl 116, .bool true), (.inl 102, .bool false)] none (mOp2 fIx (mVar 0) (mVar 1))) (stX xs k deep s3 s4 s5 s6 s7) (if c = 110 then .none else .bool (decide (c = 116))) := by
  obtain ⟨w, h1, h2, _⟩ := ix01 h (deep := deep) (s3 := s3) (s4 := s4) (s5 := s5) (s6 := s6) (s7 := s7)
  refine .dat ?_
  unfold mDisp
  rw [mBind_ok h1]
  unfold dispA keyAt
  rw [h2]
  rcases h0 with rfl | rfl | rfl <;> rfl
theorem value_ok {xs : List Int} (hl : xs.length ≤ 90000) (ho : ∀ c ∈ xs, 0 ≤ c ∧ c < 256) : ∀ (f n k : Nat) (deep : Int), k ≤ xs.length → n < f → deep + n = 401 → WR (f_d_u_law_value_at f [octD xs, .int (k : Int), .int deep]) xs (rd n (xs.drop k))
  | 0, _, _, _, _, hf, _ => by omega
  | f + 1, 0, k, deep, hk, hf, hdp => by
    refine runP_rt (ρ' := stX xs k deep .un .un .un .un .un) rfl ?_
    show m_d_u_law_value_at (f_d_u_law_value_at f) (stX xs k deep .un .un .un .un .un) = _
    have t00 : Tb (mAsB (mOp2 fGt (mVar 2) (mC (.int 400)))) (stX xs k deep .un .un .un .un .un) true := (Tb.asB (b := decide (400 < deep)) (Ef.op2 (Ef.v rfl).ev (Ef.c _ _).ev rfl).ev).to (decide_eq_true (by omega))
    have t0 : Tb (mAsB (mOp2 fGe (mVar 1) (mOp1 fLen (mVar 0)))) (stX xs k deep .un .un .un .un .un) (decide ((xs.length : Int) ≤ (k : Int))) := Tb.asB (Ef.op2 (Ef.v rfl).ev (Ef.op1 (Ef.v rfl).ev (len_o xs)).ev rfl).ev
    unfold m_d_u_law_value_at
    by_cases c : (xs.length : Int) ≤ (k : Int)
    · exact if_ret (Tb.ort (t0.to (decide_eq_true c))) (Ef.c _ _)
    · exact if_ret (Tb.orf (t0.to (decide_eq_false c)) t00) (Ef.c _ _)
  | f + 1, n + 1, k, deep, hk, hf, hdp => by
    show WR (runP 3 8 (m_d_u_law_value_at (f_d_u_law_value_at f)) [octD xs, .int (k : Int), .int deep]) xs _
    refine WS.run rfl ?_
    show WS (m_d_u_law_value_at (f_d_u_law_value_at f) (stX xs k deep .un .un .un .un .un)) xs _
    have t0 : Tb (mAsB (mOp2 fGe (mVar 1) (mOp1 fLen (mVar 0)))) (stX xs k deep .un .un .un .un .un) (decide ((xs.length : Int) ≤ (k : Int))) := Tb.asB (Ef.op2 (Ef.v rfl).ev (Ef.op1 (Ef.v rfl).ev (len_o xs)).ev rfl).ev
    have t00 : Tb (mAsB (mOp2 fGt (mVar 2) (mC (.int 400)))) (stX xs k deep .un .un .un .un .un) false := (Tb.asB (b := decide (400 < deep)) (Ef.op2 (Ef.v rfl).ev (Ef.c _ _).ev rfl).ev).to (decide_eq_false (by omega))
    unfold m_d_u_law_value_at
    cases hx : xs.drop k with
    | nil =>
      have := drop_nil hx
      exact ⟨stX xs k deep .un .un .un .un .un, if_ret (Tb.ort (t0.to (decide_eq_true (by omega)))) (Ef.c _ _)⟩
    | cons c l =>
      obtain ⟨g1, g2, g3⟩ := drop_at hx
      have hk1 : k + 1 ≤ xs.length := g2
      rw [st_skip (Tb.orf (t0.to (decide_eq_false (by omega))) t00)]
      unfold rd
      have ttf : Tb (mAsB (mOp2 fInS (mOp2 fIx (mVar 0) (mVar 1)) (mTup (mCons (mC (.int 110)) (mCons (mC (.int 116)) (mCons (mC (.int 102)) mNil)))))) (stX xs k deep .un .un .un .un .un) (decide (c = 110 ∨ c = 116 ∨ c = 102)) :=
        Tb.asB (Ef.op2 (ix01 g1).ev (Ef.tup (.cons (Ef.c _ _) (.cons (Ef.c _ _) (.one (Ef.c _ _))))).ev (in_ntf c)).ev
      by_cases c0 : c = 110 ∨ c = 116 ∨ c = 102
      · have hd := disp_ok g1 c0 (deep := deep) (s3 := .un) (s4 := .un) (s5 := .un) (s6 := .un) (s7 := .un)
        by_cases c1 : c = 110
        · rw [if_pos c1] at hd ⊢
          exact ⟨k + 1, stX xs k deep .un .un .un .un .un, if_ret (ttf.to (decide_eq_true c0)) (Ef.tup (.cons (Ef.lst (.one hd)) (.one px))), hk1, g3⟩
        · rw [if_neg c1] at hd ⊢
          rw [if_pos (show c = 116 ∨ c = 102 by omega)]
          exact ⟨k + 1, stX xs k deep .un .un .un .un .un, if_ret (ttf.to (decide_eq_true c0)) (Ef.tup (.cons (Ef.lst (.one hd)) (.one px))), hk1, g3⟩
      rw [if_neg (fun h => c0 (.inl h)), if_neg (fun h => c0 (.inr h)), st_skip (ttf.to (decide_eq_false c0))]
      by_cases c3 : c = 105
      · rw [if_pos c3, st_then ((tx g1 105).to (by simp [c3]))]
        have := int_blk hl k hk1 deep
        rw [g3] at this
        exact WS.seq (m := mI) this
      rw [if_neg c3, st_skip ((tx g1 105).to (by simp [c3]))]
      by_cases c4 : c = 115
      · rw [if_pos c4, st_then ((tx g1 115).to (by simp [c4]))]
        have := str_blk (slf := f_d_u_law_value_at f) hl ho k hk1 deep
        rw [g3] at this
        exact WS.seq (m := mT (f_d_u_law_value_at f)) this
      rw [if_neg c4, st_skip ((tx g1 115).to (by simp [c4]))]
      have to : Tb (mAsB (mOp2 fNe (mOp2 fIx (mVar 0) (mVar 1)) (mC (.int 40)))) (stX xs k deep .un .un .un .un .un) (!(c == 40)) := Tb.asB (Ef.op2 (ix01 g1).ev (Ef.c _ _).ev (ne_i _ _)).ev
      by_cases c5 : c = 40
      · rw [if_pos c5, st_skip (to.to (by simp [c5]))]
        subst c5
        rw [mSeq_ok (st_parL (ρ1 := stX xs k deep .un .un .un .un (.own (.lst []))) (ρ2 := stX xs ((k + 1 : Nat) : Int) deep .un .un .un .un (.own (.lst []))) px rfl rfl)]
        have hll : l.length ≤ 90000 := by rw [← g3, List.length_drop]; omega
        have hlo := loop_v (slf := f_d_u_law_value_at f) hl n deep (fun at_ h1 => value_ok hl ho f n at_ (deep + 1) h1 (by omega) (by omega)) (l.length + 1) (k + 1) 100000 [] .un l g3 rfl (Nat.lt_succ_self _) (by omega) (by simp; omega) hk1
        cases hs : rdL (rd n) (l.length + 1) l with
        | none =>
          rw [hs] at hlo
          rcases hlo with ⟨ρ', he⟩ | ⟨p, acc', s4, h1, h2⟩
          · exact ⟨ρ', seq_rt he⟩
          · refine ⟨stX xs p deep .un s4 .un .un (.own (.lst acc')), (mSeq_ok h2).trans ?_⟩
            exact st_ret (Ef.iff ((lt_len hl p rfl rfl).to (decide_eq_false (by omega))) (Ef.c _ _))
        | some q =>
          obtain ⟨ds, r⟩ := q
          rw [hs] at hlo
          obtain ⟨p, s4, h2, h3, h4⟩ := hlo
          obtain ⟨q1, q2, q3⟩ := drop_at h4
          refine ⟨p + 1, stX xs p deep .un s4 .un .un (.own (.lst ds)), (mSeq_ok h2).trans ?_, q2, q3⟩
          exact st_ret (Ef.ift ((lt_len hl p rfl rfl).to (decide_eq_true (by omega))) (Ef.tup (.cons (Ef.lst (.one (Ef.op1 (Ev.own rfl) rfl))) (.one (Ef.op2 (Ef.v rfl).ev (Ef.c _ _).ev rfl)))))
      · rw [if_neg c5]
        exact ⟨stX xs k deep .un .un .un .un .un, if_ret (to.to (by simp [c5])) (Ef.c _ _)⟩
/-! ### the law's own three -/
def oneD : Option D → D
  | none => .none
  | some v => .list [v]
theorem whole_is {xs : List Int} (hl : xs.length ≤ 90000) (ho : ∀ c ∈ xs, 0 ≤ c ∧ c < 256) : f_d_u_law_whole [octD xs] = some (oneD (readS xs)) := by
  have h := value_ok hl ho 420 401 0 0 (Nat.zero_le _) (by decide) (by decide)
  rw [List.drop_zero] at h
  have hA : Es (mCons (mVar 0) (mCons (mC (.int 0)) (mCons (mC (.int 0)) mNil))) [.dat (octD xs), .un] [octD xs, .int ((0 : Nat) : Int), .int 0] := .cons (Ef.v rfl) (.cons (Ef.c _ _) (.one (Ef.c _ _)))
  unfold readS
  cases hr : rd 401 xs with
  | none =>
    rw [hr] at h
    have h : f_d_u_law_value_at 420 [octD xs, .int ((0 : Nat) : Int), .int 0] = some .none := h
    refine runP_rt (ρ' := [.dat (octD xs), .dat .none]) rfl ?_
    show m_d_u_law_whole [.dat (octD xs), .un] = _
    unfold m_d_u_law_whole
    rw [seq_asg (ρ' := [.dat (octD xs), .dat .none]) (Ef.call hA h) rfl]
    exact st_ret (Ef.iff (Tb.andf (Tb.no (Tb.isN (d := .none) (Ef.v rfl).ev))) (Ef.c _ _))
  | some q =>
    obtain ⟨v, r⟩ := q
    rw [hr] at h
    obtain ⟨p, hp, h1, h2⟩ := h
    have e1 : m_d_u_law_whole [.dat (octD xs), .un] = _ := seq_asg (ρ' := [.dat (octD xs), .dat (.tuple [.list [v], .int (p : Int)])]) (Ef.call hA hp) rfl
    have tN : Tb (mNot (mIsN (mVar 1))) [.dat (octD xs), .dat (.tuple [.list [v], .int (p : Int)])] true := Tb.no (Tb.isN (d := .tuple [.list [v], .int (p : Int)]) (Ef.v rfl).ev)
    have tE : Tb (mAsB (mOp2 fEq (mOp2 fIx (mVar 1) (mC (.int 1))) (mOp1 fLen (mVar 0)))) [.dat (octD xs), .dat (.tuple [.list [v], .int (p : Int)])] ((p : Int) == (xs.length : Int)) := Tb.asB (Ef.op2 (Ef.op2 (d := .tuple [.list [v], .int (p : Int)]) (z := .int (p : Int)) (Ef.v rfl).ev (Ef.c _ _).ev rfl).ev (Ef.op1 (Ef.v rfl).ev (len_o xs)).ev (eq_i _ _)).ev
    refine runP_rt (ρ' := [.dat (octD xs), .dat (.tuple [.list [v], .int (p : Int)])]) rfl (e1.trans ?_)
    cases r with
    | nil =>
      have := drop_nil h2
      exact st_ret (Ef.ift (Tb.andt tN (tE.to (by rw [show p = xs.length by omega]; simp))) (Ef.op2 (d := .tuple [.list [v], .int (p : Int)]) (z := .list [v]) (Ef.v rfl).ev (Ef.c _ _).ev rfl))
    | cons a b =>
      have := (drop_at h2).2.1
      exact st_ret (Ef.iff (Tb.andt tN (tE.to (by rw [beq_eq_false_iff_ne]; omega))) (Ef.c _ _))
theorem told_is {xs : List Int} (hl : xs.length ≤ 90000) (ho : ∀ c ∈ xs, 0 ≤ c ∧ c < 256) : f_d_u_law_told [octD xs] = some (oneD (readS xs)) := by
  have h := readtop_ok hl ho
  refine runP_rt (ρ' := [.dat (octD xs)]) rfl ?_
  show m_d_u_law_told [.dat (octD xs)] = _
  unfold m_d_u_law_told mTry
  cases hr : readS xs with
  | none =>
    rw [hr] at h
    obtain ⟨c, hc⟩ := h
    have e1 : mRetS (mLst (mCons (mCallR f_d_read (mCons (mVar 0) mNil)) mNil)) [.dat (octD xs)] = some (.er 0, [.dat (octD xs)]) := by
      refine ret_er ?_
      have h1 := callR_er (f := f_d_read) (.one (Ef.v (i := 0) (ρ := [.dat (octD xs)]) rfl)) hc
      unfold mLst mCons at *
      unfold mBind at *
      rw [h1]
    rw [e1]
    rfl
  | some v =>
    rw [hr] at h
    have e1 : mRetS (mLst (mCons (mCallR f_d_read (mCons (mVar 0) mNil)) mNil)) [.dat (octD xs)] = some (.rt (.list [v]), [.dat (octD xs)]) := st_ret (Ef.lst (.one (Ef.callR (.one (Ef.v rfl)) h)))
    rw [e1]
    rfl
theorem refused_is {v : D} {c : Nat} (h : f_d_written [v] = some (.er c)) : f_d_u_law_refused [v] = some (.bool true) := by
  refine runP_rt (ρ' := [.dat v]) rfl ?_
  show m_d_u_law_refused [.dat v] = _
  unfold m_d_u_law_refused mTry
  have h1 := callR_er (f := f_d_written) (.one (Ef.v (i := 0) (ρ := [.dat v]) rfl)) h
  have e1 : mSeq (mDrop (mCallR f_d_written (mCons (mVar 0) mNil))) (mRetS (mC (.bool false))) [.dat v] = some (.er 0, [.dat v]) := by
    refine seq_er ?_
    unfold mDrop mThen
    rw [h1]
  rw [e1]
end K27
namespace K27
open PySem L2 Dat
/-- the slot of a box: a parameter's (true) or one's own -/
def pw (b : Bool) (o : O) : Sl := if b = true then .par o else .own o
theorem callB_at {f : O → List D → Option (D × O)} {ma : M (List Vw)} {ds : List D} {o o' : O} {d : D} {b : Bool} {i : Nat} {ρ : List Sl} (h0 : ρ[i]? = some (pw b o)) (hma : Es ma ρ ds) (hf : f o ds = some (d, o')) : mCallB f (mCons (mVar i) ma) ρ = some (.ok (.dat d), ρ.set i (pw b o')) := by
  have h1 : mVar i ρ = some (.ok (.loc i), ρ) := by unfold mVar; rw [h0]; cases b <;> rfl
  obtain ⟨ws, h2, h3⟩ := hma
  have e : mCons (mVar i) ma ρ = some (.ok (.loc i :: ws), ρ) := by
    unfold mCons
    rw [mBind_ok h1, mBind_ok h2]
    rfl
  unfold mCallB
  rw [mBind_ok e]
  show mBind (frcs ws) _ ρ = _
  rw [mBind_ok h3]
  cases b <;> simp [pw] at h0 ⊢ <;> simp only [h0, hf]
theorem bx_take {o : O} (hb : Box o) {b : Bool} {i : Nat} {ρ : List Sl} {ma : M (List Vw)} {m : Int} (h0 : ρ[i]? = some (pw b o)) (hma : Es ma ρ [.int m]) (hm0 : 0 < m) (hm : m < 1073741824) :
    ∃ (r : Int) (o' : O), mCallB f_d_u_law_take (mCons (mVar i) ma) ρ = some (.ok (.dat (.int r)), ρ.set i (pw b o')) ∧ 0 ≤ r ∧ r < m ∧ Box o' := by
  obtain ⟨r, o', e, hb', h1, h2⟩ := take_ok hb hm0 hm
  exact ⟨r, o', callB_at h0 hma e, h1, h2, hb'⟩
theorem bx_pick {o : O} (hb : Box o) {b : Bool} {i : Nat} {ρ : List Sl} {ma : M (List Vw)} {ds : List D} (h0 : ρ[i]? = some (pw b o)) (hma : Es ma ρ [.list ds]) (hd : ds ≠ []) (hm : ds.length < 1000) :
    ∃ (d : D) (o' : O), mCallB f_d_u_law_pick (mCons (mVar i) ma) ρ = some (.ok (.dat d), ρ.set i (pw b o')) ∧ d ∈ ds ∧ Box o' := by
  obtain ⟨d, o', e, h1, hb'⟩ := pick_ok hb hd hm
  exact ⟨d, o', callB_at h0 hma e, h1, hb'⟩
/-! ### the menus -/
def menuI : List D := [.int 0, .int 1, .int (-1), .int 7, .int 10, .int (-10), .int 99, .int 100, .int 999999999999999999, .int (-(10 ^ 30)), .int 123456789]
def menuS : List D := [.str "", .str "a", .str "()", .str "i1;", .str "a b", .str "s1:a", .str "0", .str "'", .str "\n", .str (PySem.Txt.mul "~" 11), .str "SELECT 1"]
theorem menuI_pv : ∀ d ∈ menuI, Pv 34 1 d := by
  intro d hd
  unfold menuI at hd
  simp only [List.mem_cons, List.not_mem_nil, or_false] at hd
  rcases hd with h | h | h | h | h | h | h | h | h | h | h <;> subst h <;> exact pv_int _ (by decide)
theorem menuS_pv : ∀ d ∈ menuS, Pv 34 1 d := by
  intro d hd
  unfold menuS at hd
  simp only [List.mem_cons, List.not_mem_nil, or_false] at hd
  rcases hd with h | h | h | h | h | h | h | h | h | h | h <;> subst h <;> exact pv_str _ (by decide +kernel) (by decide +kernel) (by decide +kernel)
theorem pow30 : fPow (.int 10) (.int 30) = some (.int (10 ^ 30)) := by
  show (if (0 : Int) ≤ 30 ∧ (30 : Int) ≤ 1000000 ∧ (10 : Int).natAbs < 18446744073709551616 then some (PyData.int ((10 : Int) ^ (30 : Int).toNat)) else none) = _
  rw [if_pos ⟨by decide, by decide, by decide⟩]
  rfl
theorem times11 : fTimes (.str "~") (.int 11) = some (.str (PySem.Txt.mul "~" 11)) := by
  have e1 : fMul (.str "~") (.int 11) = none := rfl
  have e2 : fMulS (.str "~") (.int 11) = some (.str (PySem.Txt.mul "~" 11)) := by
    show (if (0 : Int) ≤ 11 ∧ (11 : Int) ≤ 1000 ∧ ("~" : Str).length ≤ 1000 then some (PyData.str (PySem.Txt.mul "~" 11)) else none) = _
    rw [if_pos ⟨by decide, by decide, by decide⟩]
  unfold fTimes
  rw [e1]
  exact e2
def mMI : M Vw := mLst (mCons (mC (.int 0)) (mCons (mC (.int 1)) (mCons (mOp1 fNeg (mC (.int 1))) (mCons (mC (.int 7)) (mCons (mC (.int 10)) (mCons (mOp1 fNeg (mC (.int 10))) (mCons (mC (.int 99)) (mCons (mC (.int 100)) (mCons (mC (.int 999999999999999999)) (mCons (mOp1 fNeg (mOp2 fPow (mC (.int 10)) (mC (.int 30)))) (mCons (mC (.int 123456789)) mNil)))))))))))
def mMS : M Vw := mLst (mCons (mC (.str "")) (mCons (mC (.str "a")) (mCons (mC (.str "()")) (mCons (mC (.str "i1;")) (mCons (mC (.str "a b")) (mCons (mC (.str "s1:a")) (mCons (mC (.str "0")) (mCons (mC (.str "'")) (mCons (mC (.str "
")) (mCons (mOp2 fTimes (mC (.str "~")) (mC (.int 11))) (mCons (mC (.str "SELECT 1")) mNil)))))))))))
theorem es_mi (ρ : List Sl) : Es (mCons mMI mNil) ρ [.list menuI] := by
  refine .one ?_
  unfold mMI menuI
  refine Ef.lst (.cons (Ef.c _ _) (.cons (Ef.c _ _) (.cons (Ef.op1 (f := fNeg) (Ef.c _ _).ev rfl) (.cons (Ef.c _ _) (.cons (Ef.c _ _) (.cons (Ef.op1 (f := fNeg) (Ef.c _ _).ev rfl) (.cons (Ef.c _ _) (.cons (Ef.c _ _) (.cons (Ef.c _ _) (.cons ?_ (.one (Ef.c _ _))))))))))))
  exact Ef.op1 (f := fNeg) (Ef.op2 (Ef.c _ _).ev (Ef.c _ _).ev pow30).ev rfl
theorem es_ms (ρ : List Sl) : Es (mCons mMS mNil) ρ [.list menuS] := by
  refine .one ?_
  unfold mMS menuS
  exact Ef.lst (.cons (Ef.c _ _) (.cons (Ef.c _ _) (.cons (Ef.c _ _) (.cons (Ef.c _ _) (.cons (Ef.c _ _) (.cons (Ef.c _ _) (.cons (Ef.c _ _) (.cons (Ef.c _ _) (.cons (Ef.c _ _) (.cons (Ef.op2 (Ef.c _ _).ev (Ef.c _ _).ev times11) (.one (Ef.c _ _))))))))))))
/-! ### _law_plain -/
def LL : Nat → Nat
  | 0 => 34
  | n + 1 => 3 * LL n + 2
def CC : Nat → Nat
  | 0 => 1
  | n + 1 => 3 * CC n + 1
theorem LL_ge : ∀ n, 34 ≤ LL n
  | 0 => Nat.le_refl _
  | n + 1 => by have := LL_ge n; show 34 ≤ 3 * LL n + 2; omega
theorem CC_ge : ∀ n, 1 ≤ CC n
  | 0 => Nat.le_refl _
  | n + 1 => by show 1 ≤ 3 * CC n + 1; omega
theorem pv_at {v : D} (h : Pv 34 1 v) (n : Nat) : Pv (LL n) (CC n) v := h.mono (LL_ge n) (CC_ge n)
abbrev stP (o : O) (n : Nat) (s2 s3 : Sl) : List Sl := [.par o, .dat (.int (n : Int)), s2, s3]
theorem runB_rt {n N : Nat} {ms : MS} {o o' : O} {ds : List D} {d : D} {ρ' : List Sl} (hn : ds.length + 1 = n) (h : ms (.par o :: ds.map Sl.dat ++ List.replicate (N - n) .un) = some (.rt d, ρ')) (h0 : ρ'[0]? = some (.par o')) : runB n N ms o ds = some (d, o') := by
  unfold runB
  rw [if_pos hn, h]
  cases ρ' with
  | nil => cases h0
  | cons s t => cases h0; rfl
theorem ret_of {ma : M Vw} {ρ ρ' : List Sl} {d : D} (h : ma ρ = some (.ok (.dat d), ρ')) : mRetS ma ρ = some (.rt d, ρ') := mRetS_ok h
theorem seq_ret_of {ma : M Vw} {k : MS} {ρ ρ' : List Sl} {d : D} (h : ma ρ = some (.ok (.dat d), ρ')) : mSeq (mRetS ma) k ρ = some (.rt d, ρ') := seq_rt (mRetS_ok h)
theorem plain_ok : ∀ (f n : Nat) (o : O), n < f → Box o → ∃ (v : D) (o' : O), f_d_u_law_plain f o [.int (n : Int)] = some (v, o') ∧ Pv (LL n) (CC n) v ∧ Box o'
  | 0, n, o, h, _ => by omega
  | f + 1, n, o, hf, hb => by
    obtain ⟨r, o1, e1, r0, r8, hb1⟩ := bx_take hb (b := true) (i := 0) (ρ := stP o n .un .un) (ma := mCons (mC (.int 8)) mNil) (m := 8) rfl (.one (Ef.c _ _)) (by decide) (by decide)
    have tk : ∀ k : Int, Tb (mAsB (mOp2 fEq (mVar 2) (mC (.int k)))) (stP o1 n (.dat (.int r)) .un) (r == k) := fun k => Tb.asB (Ef.op2 (Ef.v rfl).ev (Ef.c _ _).ev (eq_i _ _)).ev
    have done : ∀ (v : D) (o' : O) (ρ' : List Sl), m_d_u_law_plain (f_d_u_law_plain f) (stP o n .un .un) = some (.rt v, ρ') → ρ'[0]? = some (.par o') → f_d_u_law_plain (f + 1) o [.int (n : Int)] = some (v, o') := fun v o' ρ' h h0 => runB_rt rfl h h0
    have e2 : m_d_u_law_plain (f_d_u_law_plain f) (stP o n .un .un) = _ := mSeq_ok (ρ1 := stP o1 n (.dat (.int r)) .un) (mAsg_ok e1 rfl)
    by_cases c0 : r = 0
    · exact ⟨.none, o1, done _ _ _ (e2.trans (if_ret ((tk 0).to (by simp [c0])) (Ef.c _ _))) rfl, pv_at pv_none n, hb1⟩
    replace e2 := e2.trans (st_skip ((tk 0).to (by simp [c0])))
    by_cases c1 : r = 1
    · obtain ⟨q, o2, e3, _, _, hb2⟩ := bx_take hb1 (b := true) (i := 0) (ρ := stP o1 n (.dat (.int r)) .un) (ma := mCons (mC (.int 2)) mNil) (m := 2) rfl (.one (Ef.c _ _)) (by decide) (by decide)
      refine ⟨.bool (q == 1), o2, done _ _ (stP o2 n (.dat (.int r)) .un) (e2.trans ((st_then ((tk 1).to (by simp [c1]))).trans (seq_ret_of ?_))) rfl, pv_at (pv_bool _) n, hb2⟩
      exact mOp2_ok (a := .dat (.int q)) (b := .dat (.int 1)) e3 rfl rfl rfl (eq_i _ _)
    replace e2 := e2.trans (st_skip ((tk 1).to (by simp [c1])))
    have t4 : Tb (mAsB (mOp2 fLt (mVar 2) (mC (.int 4)))) (stP o1 n (.dat (.int r)) .un) (decide (r < 4)) := Tb.asB (Ef.op2 (Ef.v rfl).ev (Ef.c _ _).ev (lt_i _ _)).ev
    by_cases c2 : r < 4
    · obtain ⟨d, o2, e3, hd, hb2⟩ := bx_pick hb1 (b := true) (i := 0) (ρ := stP o1 n (.dat (.int r)) .un) rfl (es_mi _) (by decide) (by decide)
      exact ⟨d, o2, done _ _ (stP o2 n (.dat (.int r)) .un) (e2.trans ((st_then (t4.to (decide_eq_true c2))).trans (seq_ret_of e3))) rfl, pv_at (menuI_pv d hd) n, hb2⟩
    replace e2 := e2.trans (st_skip (t4.to (decide_eq_false c2)))
    by_cases c3 : r = 4
    · obtain ⟨d, o2, e3, hd, hb2⟩ := bx_pick hb1 (b := true) (i := 0) (ρ := stP o1 n (.dat (.int r)) .un) rfl (es_ms _) (by decide) (by decide)
      exact ⟨d, o2, done _ _ (stP o2 n (.dat (.int r)) .un) (e2.trans ((st_then ((tk 4).to (by simp [c3]))).trans (seq_ret_of e3))) rfl, pv_at (menuS_pv d hd) n, hb2⟩
    replace e2 := e2.trans (st_skip ((tk 4).to (by simp [c3])))
    have td : Tb (mAsB (mOp2 fEq (mVar 1) (mC (.int 0)))) (stP o1 n (.dat (.int r)) .un) ((n : Int) == 0) := Tb.asB (Ef.op2 (Ef.v rfl).ev (Ef.c _ _).ev (eq_i _ _)).ev
    cases n with
    | zero => exact ⟨.tuple [], o1, done _ _ (stP o1 0 (.dat (.int r)) .un) (e2.trans (if_ret (td.to rfl) (Ef.tup (.nil _)))) rfl, pv_at pv_unit 0, hb1⟩
    | succ n =>
      replace e2 := e2.trans (st_skip (td.to (by rw [beq_eq_false_iff_ne]; omega)))
      obtain ⟨q, o2, e3, q0, q4, hb2⟩ := bx_take hb1 (b := true) (i := 0) (ρ := stP o1 (n + 1) (.dat (.int r)) .un) (ma := mCons (mC (.int 4)) mNil) (m := 4) rfl (.one (Ef.c _ _)) (by decide) (by decide)
      let I : Nat → List D → List Sl → Prop := fun k acc ρ => acc.length = k ∧ (∀ d ∈ acc, Pv (LL n) (CC n) d) ∧ ∃ o', Box o' ∧ ρ = stP o' (n + 1) (.dat (.int r)) .un
      obtain ⟨acc, ρ', e4, hlen, hpv, o3, hb3, rfl⟩ := mLc_fold (mi := mRng1 (mCallB f_d_u_law_take (mCons (mVar 0) (mCons (mC (.int 4)) mNil)))) (gm := asgD 3) (mt := T_d_u_law_plain_1 (f_d_u_law_plain f)) (me := E_d_u_law_plain_0 (f_d_u_law_plain f)) (vs := [3]) (enc := fun i : Nat => .int (0 + (i : Int))) I (List.range q.toNat) (ρ := stP o1 (n + 1) (.dat (.int r)) .un) (ρ0 := stP o2 (n + 1) (.dat (.int r)) .un)
        (mRng1_at e3 rfl (by omega) (by omega)) (le_big (by rw [List.length_range]; omega)) (fun k x hx acc ρ hI => by
          obtain ⟨h1, h2, o', hb', rfl⟩ := hI
          obtain ⟨v, o'', e5, hv, hb''⟩ := plain_ok f n o' (by omega) hb'
          refine ⟨some v, stP o'' (n + 1) (.dat (.int r)) .un, ?_, ?_, ?_, o'', hb'', rfl⟩
          · have e6 : mBind (E_d_u_law_plain_0 (f_d_u_law_plain f)) frc (stP o' (n + 1) (.dat (.int r)) (.dat (.int (0 + (x : Int))))) = some (.ok v, stP o'' (n + 1) (.dat (.int r)) (.dat (.int (0 + (x : Int))))) := by
              have e7 := callB_at (f := f_d_u_law_plain f) (b := true) (i := 0) (ρ := stP o' (n + 1) (.dat (.int r)) (.dat (.int (0 + (x : Int))))) (ma := mCons (mOp2 fSub (mVar 1) (mC (.int 1))) mNil) (ds := [.int (n : Int)]) rfl (.one (Ef.op2 (Ef.v rfl).ev (Ef.c _ _).ev (by
                show some (PyData.int (((n + 1 : Nat) : Int) - 1)) = _
                rw [show ((n + 1 : Nat) : Int) - 1 = (n : Int) by omega]))) e5
              unfold E_d_u_law_plain_0
              rw [mBind_ok e7]
              rfl
            exact stepC_yes (ρ1 := stP o' (n + 1) (.dat (.int r)) (.dat (.int (0 + (x : Int))))) (ρ2 := stP o' (n + 1) (.dat (.int r)) (.dat (.int (0 + (x : Int))))) (ρ3 := stP o'' (n + 1) (.dat (.int r)) (.dat (.int (0 + (x : Int))))) rfl rfl e6
          · rw [List.length_append, h1]; rfl
          · intro d hd
            rcases List.mem_append.mp hd with hd | hd
            · exact h2 d hd
            · rw [List.mem_singleton.mp hd]; exact hv)
        ⟨rfl, fun _ h => (nomatch h), o2, hb2, rfl⟩
      rw [List.length_range] at hlen
      refine ⟨.tuple acc, o3, done _ _ (stP o3 (n + 1) (.dat (.int r)) .un) (e2.trans (ret_of (mOp1_ok (a := .dat (.list acc)) e4 rfl rfl))) rfl, pv_tuple hpv (by omega), hb3⟩
end K27
namespace K27
open PySem L2 Dat
open Builtin.Str (reprChar)
/-! ### texts whose signs are all below 0x110000 -/
def okS (x : Str) : Prop := ∀ c ∈ x.cps.toList, c < 1114112
theorem okS_iff {x : Str} : PyData.strOk x = true ↔ okS x := by
  unfold PyData.strOk okS
  rw [← Array.all_toList, List.all_eq_true]
  simp
theorem okS_app {a b : Str} (ha : okS a) (hb : okS b) : okS (a ++ b) := by
  intro c hc
  have hc : c ∈ (a.cps ++ b.cps).toList := hc
  rw [Array.toList_append] at hc
  rcases List.mem_append.mp hc with h | h
  · exact ha c h
  · exact hb c h
theorem char_lt (c : Char) : c.toNat < 1114112 := by
  have := c.valid
  rcases this with h | h
  · have : c.toNat < 55296 := h
    omega
  · exact h.2
theorem okS_of (s : String) : okS (s : Str) := by
  intro c hc
  rw [show ((s : String) : Str) = PySem.Str.ofString s from rfl, PyProof.Rows.signs_ofString] at hc
  obtain ⟨x, _, rfl⟩ := List.mem_map.mp hc
  exact char_lt x
theorem okS_char {q c : Nat} (hq : q < 1114112) (hc : c < 1114112) : ∀ d ∈ reprChar q c, d < 1114112 := by
  have hx : ∀ w, ∀ d ∈ List.replicate (w - ((Nat.toDigits 16 c).map Char.toNat).length) 48 ++ (Nat.toDigits 16 c).map Char.toNat, d < 1114112 := by
    intro w d hd
    rcases List.mem_append.mp hd with h | h
    · rw [List.eq_of_mem_replicate h]; decide
    · obtain ⟨x, _, rfl⟩ := List.mem_map.mp h
      exact char_lt x
  intro d hd
  unfold reprChar at hd
  dsimp only at hd
  repeat' split at hd
  all_goals simp only [List.mem_cons, List.mem_append, List.not_mem_nil, or_false] at hd
  · rcases hd with rfl | rfl <;> omega
  · rcases hd with rfl | rfl <;> omega
  · rcases hd with rfl | rfl <;> omega
  · rcases hd with rfl | rfl <;> omega
  · omega
  · rcases hd with (rfl | rfl) | h
    · omega
    · omega
    · exact hx 2 d (List.mem_append.mpr h)
  · rcases hd with (rfl | rfl) | h
    · omega
    · omega
    · exact hx 4 d (List.mem_append.mpr h)
  · rcases hd with (rfl | rfl) | h
    · omega
    · omega
    · exact hx 8 d (List.mem_append.mpr h)
theorem okS_fold {q : Nat} (hq : q < 1114112) : ∀ (l : List Nat) (acc : Array Nat), (∀ c ∈ l, c < 1114112) → (∀ c ∈ acc.toList, c < 1114112) → ∀ c ∈ (l.foldl (fun out c => out ++ (reprChar q c).toArray) acc).toList, c < 1114112
  | [], acc, _, h => h
  | x :: l, acc, hl, h => by
    rw [List.foldl_cons]
    refine okS_fold hq l _ (fun c hc => hl c (List.mem_cons_of_mem _ hc)) fun c hc => ?_
    rw [Array.toList_append] at hc
    rcases List.mem_append.mp hc with h1 | h1
    · exact h c h1
    · exact okS_char hq (hl x (List.mem_cons_self ..)) c h1
theorem okS_repr {x : Str} (h : okS x) : okS (reprText x) := by
  have hq : reprQuote x < 1114112 := by unfold reprQuote; split <;> decide
  intro c hc
  unfold reprText at hc
  have hc : c ∈ ((x.cps.foldl (fun out c => out ++ (reprChar (reprQuote x) c).toArray) #[reprQuote x]).push (reprQuote x)).toList := hc
  rw [Array.toList_push, ← Array.foldl_toList] at hc
  rcases List.mem_append.mp hc with h1 | h1
  · exact okS_fold hq _ _ h (fun c hc => by
      have : c = reprQuote x := by simpa using hc
      rw [this]; exact hq) c h1
  · rw [List.mem_singleton.mp h1]; exact hq
theorem okS_from : ∀ (ts : List Str) (k : Nat) (acc : Str), okS acc → (∀ t ∈ ts, okS t) → okS (textFrom k acc ts)
  | [], _, _, h, _ => h
  | t :: ts, k, acc, h, ht => by
    show okS (textFrom (k + 1) (acc ++ (if k > 0 then ", " else "" : String) ++ t) ts)
    exact okS_from ts _ _ (okS_app (okS_app h (okS_of _)) (ht t (List.mem_cons_self ..))) fun x hx => ht x (List.mem_cons_of_mem _ hx)
theorem okS_list {ts : List Str} (h : ∀ t ∈ ts, okS t) : okS (listText ts) := okS_app (okS_from ts 0 _ (okS_of _) h) (okS_of _)
theorem okS_join {sep : Str} (hs : okS sep) : ∀ {ts : List Str}, (∀ t ∈ ts, okS t) → okS (Str.join sep ts)
  | [], _ => okS_of ""
  | [x], h => h x (List.mem_cons_self ..)
  | x :: y :: r, h => by
    show okS (x ++ sep ++ Str.join sep (y :: r))
    exact okS_app (okS_app (h x (List.mem_cons_self ..)) hs) (okS_join hs fun z hz => h z (List.mem_cons_of_mem _ hz))
theorem okS_tup {ts : List Str} (h : ∀ t ∈ ts, okS t) : okS (tupleText ts) := okS_app (okS_app (okS_of _) (okS_join (okS_of _) h)) (okS_of _)
theorem codes_okS {x : Str} (h : (codes x).all okC = true) : okS x := by
  intro c hc
  have := okC_nn (List.all_eq_true.mp h (c : Int) (List.mem_map.mpr ⟨c, hc, rfl⟩))
  omega
mutual
theorem lay_good : ∀ (v : D), good v = true → PyData.canLay0 v = true ∧ okS (PyData.shown v)
  | .none, _ => ⟨rfl, okS_of _⟩
  | .bool b, _ => ⟨rfl, by cases b <;> exact okS_of _⟩
  | .int i, _ => ⟨rfl, okS_of (toString i)⟩
  | .str x, g => ⟨okS_iff.mpr (codes_okS g), okS_repr (codes_okS g)⟩
  | .tuple ds, g => ⟨(lays_good ds g).1, okS_tup (lays_good ds g).2⟩
  | .list _, g => by cases g
  | .dict _, g => by cases g
theorem lays_good : ∀ (ds : List D), goods ds = true → PyData.canLayAll0 ds = true ∧ ∀ t ∈ PyData.shownAll ds, okS t
  | [], _ => ⟨rfl, fun _ h => nomatch h⟩
  | d :: ds, g => by
    have g : (good d && goods ds) = true := g
    rw [Bool.and_eq_true] at g
    obtain ⟨h1, h2⟩ := lay_good d g.1
    obtain ⟨h3, h4⟩ := lays_good ds g.2
    refine ⟨?_, ?_⟩
    · show (PyData.canLay0 d && PyData.canLayAll0 ds) = true
      rw [h1, h3]; rfl
    · intro t ht
      rcases List.mem_cons.mp (show t ∈ PyData.shown d :: PyData.shownAll ds from ht) with h | h
      · rw [h]; exact h2
      · exact h4 t h
end
/-! depth, numbers, lengths -/
mutual
theorem dep_ok : ∀ (n : Nat) (v : D), okV n v = true → PyData.depth v ≤ n ∧ PyData.showable v = true
  | n, .none, _ => ⟨Nat.zero_le _, rfl⟩
  | n, .bool b, _ => ⟨Nat.zero_le _, rfl⟩
  | n, .int i, k => by
    have k : decide (i.natAbs < STRW) = true := by cases n <;> exact k
    exact ⟨Nat.zero_le _, decide_eq_true (strw_log (of_decide_eq_true k))⟩
  | n, .str x, _ => ⟨Nat.zero_le _, rfl⟩
  | n + 1, .tuple ds, k => by
    have k : (okVs n ds && decide (ds.length ≤ 90000)) = true := k
    rw [Bool.and_eq_true] at k
    obtain ⟨h1, h2⟩ := deps_ok n ds k.1
    exact ⟨Nat.succ_le_succ h1, h2⟩
  | 0, .tuple ds, k => by cases k
  | n, .list _, k => by cases n <;> cases k
  | n, .dict _, k => by cases n <;> cases k
theorem deps_ok : ∀ (n : Nat) (ds : List D), okVs n ds = true → PyData.depthAll ds ≤ n ∧ PyData.showableAll ds = true
  | n, [], _ => ⟨Nat.zero_le _, rfl⟩
  | n, d :: ds, k => by
    have k : (okV n d && okVs n ds) = true := by cases n <;> exact k
    rw [Bool.and_eq_true] at k
    obtain ⟨h1, h2⟩ := dep_ok n d k.1
    obtain ⟨h3, h4⟩ := deps_ok n ds k.2
    refine ⟨Nat.max_le.mpr ⟨h1, h3⟩, ?_⟩
    show (PyData.showable d && PyData.showableAll ds) = true
    rw [h2, h4]; rfl
end
theorem listText_len (ts : List Str) : (listText ts).length ≤ piled ts + 2 := by
  cases ts with
  | nil => exact Nat.le_refl _
  | cons t r =>
    have h := textFrom_length_pos r 1 (("[" : Str) ++ (if (0 : Nat) > 0 then ", " else "" : String) ++ t) (Nat.succ_pos 0)
    have e : ((("[" : Str) ++ (if (0 : Nat) > 0 then ", " else "" : String) ++ t)).length = 1 + t.length := by
      rw [app_len, app_len]; rfl
    have hX : (listText (t :: r)).length = (textFrom 1 (("[" : Str) ++ (if (0 : Nat) > 0 then ", " else "" : String) ++ t) r).length + 1 := by
      show (textFrom 1 (("[" : Str) ++ (if (0 : Nat) > 0 then ", " else "" : String) ++ t) r ++ ("]" : Str)).length = _
      rw [app_len]; rfl
    rw [hX, h, e, piled_cons]
    omega
theorem tupleText_len (ts : List Str) : (tupleText ts).length ≤ piled ts + 3 := by
  unfold tupleText
  rw [app_len, app_len]
  have e1 : ((("(" : String) : Str)).length = 1 := rfl
  have e3 : (((if ts.length == 1 then ",)" else ")" : String) : Str)).length ≤ 2 := by split <;> decide
  have e2 : (Str.join ", " ts).length ≤ piled ts := by
    by_cases h : ts = []
    · subst h; exact Nat.zero_le _
    · have := join_length_add ts h
      omega
  rw [e1]
  omega
mutual
theorem shown_len : ∀ (v : D), good v = true → (PyData.shown v).length + 2 ≤ 14 * (oct v).length
  | .none, _ => by decide
  | .bool b, _ => by cases b <;> decide
  | .int i, _ => by
    have h := codes_len (toString i)
    show (toString i : Str).length + 2 ≤ 14 * ([105] ++ codes (toString i) ++ [59]).length
    simp only [List.length_append, List.length_singleton]
    omega
  | .str x, g => by
    have h := StrLaws.reprText_len x (fun c hc => Nat.lt_trans (codes_okS g c hc) (by decide))
    have h2 := codes_len x
    show (reprText x).length + 2 ≤ 14 * ([115] ++ (codes (toString (x.length : Int)) ++ [58] ++ codes x)).length
    simp only [List.length_append, List.length_singleton]
    omega
  | .tuple ds, g => by
    have h1 := showns_len ds g
    have h2 := tupleText_len (PyData.shownAll ds)
    show (tupleText (PyData.shownAll ds)).length + 2 ≤ 14 * ([40] ++ octs ds ++ [41]).length
    simp only [List.length_append, List.length_singleton]
    omega
  | .list _, g => by cases g
  | .dict _, g => by cases g
theorem showns_len : ∀ (ds : List D), goods ds = true → piled (PyData.shownAll ds) ≤ 14 * (octs ds).length
  | [], _ => Nat.zero_le _
  | d :: ds, g => by
    have g : (good d && goods ds) = true := g
    rw [Bool.and_eq_true] at g
    have h1 := shown_len d g.1
    have h2 := showns_len ds g.2
    show piled (PyData.shown d :: PyData.shownAll ds) ≤ 14 * (oct d ++ octs ds).length
    rw [piled_cons, List.length_append]
    omega
end
/-! ### repr -/
theorem repr_of {d : D} (h1 : disp d = true) (h2 : PyData.canLay0 d = true) (h3 : PyData.depth d ≤ 4000) (h4 : PyData.showable d = true) (h5 : (PyData.shown d).length ≤ 1000000) : fRepr d = some (.str (PyData.shown d)) := by
  unfold fRepr
  rw [if_pos ⟨h1, h2, h3, h4, Nat.le_trans h5 (by decide)⟩]
theorem repr_o {xs : List Int} (ho : ∀ c ∈ xs, 0 ≤ c ∧ c < 256) (hl : xs.length ≤ 100000) : fRepr (octD xs) = some (.str (PyData.shown (octD xs))) ∧ okS (PyData.shown (octD xs)) := by
  have h : PyData.canLayAll0 (xs.map .int) = true ∧ PyData.depthAll (xs.map .int) = 0 ∧ PyData.showableAll (xs.map .int) = true ∧ piled (PyData.shownAll (xs.map .int)) ≤ 5 * xs.length ∧ ∀ t ∈ PyData.shownAll (xs.map .int), okS t := by
    clear hl
    induction xs with
    | nil => exact ⟨rfl, rfl, rfl, Nat.zero_le _, fun _ h => nomatch h⟩
    | cons c xs ih =>
      obtain ⟨h1, h2, h3, h4, h5⟩ := ih fun x hx => ho x (List.mem_cons_of_mem _ hx)
      have hc := ho c (List.mem_cons_self ..)
      have hl : (toString c : Str).length ≤ 3 := by
        rw [← codes_len, codes_pos hc.1]
        exact dig_len' (by decide) (by omega)
      have hs : c.natAbs < STRW := Nat.lt_trans (show c.natAbs < 256 by omega) (by decide)
      refine ⟨h1, ?_, ?_, ?_, ?_⟩
      · show max 0 (PyData.depthAll (xs.map .int)) = 0
        rw [h2]; rfl
      · show (decide (c.natAbs.log2 < 1920) && PyData.showableAll (xs.map .int)) = true
        rw [h3, decide_eq_true (strw_log hs)]; rfl
      · show piled ((toString c : Str) :: PyData.shownAll (xs.map .int)) ≤ _
        rw [piled_cons, List.length_cons]
        omega
      · intro t ht
        rcases List.mem_cons.mp (show t ∈ (toString c : Str) :: PyData.shownAll (xs.map .int) from ht) with h | h
        · rw [h]; exact okS_of (toString c)
        · exact h5 t h
  obtain ⟨h1, h2, h3, h4, h5⟩ := h
  refine ⟨repr_of rfl h1 ?_ h3 ?_, okS_list h5⟩
  · show PyData.depthAll (xs.map .int) + 1 ≤ 4000
    rw [h2]; decide
  · have := listText_len (PyData.shownAll (xs.map .int))
    show (listText (PyData.shownAll (xs.map .int))).length ≤ 1000000
    omega
theorem disp_good {v : D} (g : good v = true) : disp v = true := by
  cases v with
  | dict _ => cases g
  | _ => rfl
theorem repr_v {v : D} {m : Nat} (g : good v = true) (k : okV m v = true) (hm : m ≤ 3000) (hl : (oct v).length ≤ 60000) : fRepr v = some (.str (PyData.shown v)) ∧ okS (PyData.shown v) := by
  obtain ⟨h1, h2⟩ := lay_good v g
  obtain ⟨h3, h4⟩ := dep_ok m v k
  have h5 := shown_len v g
  exact ⟨repr_of (disp_good g) h1 (by omega) h4 (by omega), h2⟩
theorem repr_one {v : D} {m : Nat} (g : good v = true) (k : okV m v = true) (hm : m ≤ 3000) (hl : (oct v).length ≤ 60000) : fRepr (.list [v]) = some (.str (PyData.shown (.list [v]))) ∧ okS (PyData.shown (.list [v])) := by
  obtain ⟨h1, h2⟩ := lay_good v g
  obtain ⟨h3, h4⟩ := dep_ok m v k
  have h5 := shown_len v g
  have h6 := listText_len [PyData.shown v]
  have h7 : piled [PyData.shown v] = (PyData.shown v).length + 2 := by rw [piled_cons, piled_nil]
  refine ⟨repr_of rfl ?_ ?_ ?_ ?_, okS_list (ts := [PyData.shown v]) fun t ht => by rw [List.mem_singleton.mp ht]; exact h2⟩
  · show (PyData.canLay0 v && true) = true
    rw [h1]; rfl
  · show max (PyData.depth v) 0 + 1 ≤ 4000
    omega
  · show (PyData.showable v && true) = true
    rw [h4]; rfl
  · show (listText [PyData.shown v]).length ≤ 1000000
    omega
theorem repr_none : fRepr .none = some (.str (PyData.shown .none)) ∧ okS (PyData.shown .none) := ⟨repr_of rfl rfl (by decide) rfl (by decide), okS_of "None"⟩
theorem ne_s {x : Str} (h : okS x) : fNe (.str x) (.str x) = some (.bool false) := by
  have hs : SeqAt.shaped (.str x) = true := by
    show (PyData.strOk x && decide (0 ≤ 64)) = true
    rw [okS_iff.mpr h]; rfl
  show (if SeqAt.shaped (PyData.str x) = true ∧ SeqAt.shaped (PyData.str x) = true then some (PyData.bool (!PyData.eqv (.str x) (.str x))) else none) = _
  rw [if_pos ⟨hs, hs⟩]
  simp [PyData.eqv]
theorem eq_s {x : Str} (h : okS x) : fEq (.str x) (.str x) = some (.bool true) := by
  have hs : SeqAt.shaped (.str x) = true := by
    show (PyData.strOk x && decide (0 ≤ 64)) = true
    rw [okS_iff.mpr h]; rfl
  show (if SeqAt.shaped (PyData.str x) = true ∧ SeqAt.shaped (PyData.str x) = true then some (PyData.bool (PyData.eqv (.str x) (.str x))) else none) = _
  rw [if_pos ⟨hs, hs⟩]
  simp [PyData.eqv]
end K27
namespace K27
open PySem L2 Dat
theorem cons_ok {ma : M Vw} {mr : M (List Vw)} {w : Vw} {ws : List Vw} {ρ ρ1 ρ2 : List Sl} (h : ma ρ = some (.ok w, ρ1)) (h' : mr ρ1 = some (.ok ws, ρ2)) : mCons ma mr ρ = some (.ok (w :: ws), ρ2) := by
  unfold mCons
  rw [mBind_ok h, mBind_ok h']
  rfl
theorem st_par2 {i j : Nat} {ma mb : M Vw} {ρ ρ1 ρ2 ρ3 ρ4 : List Sl} {d e : D} (h : ma ρ = some (.ok (.dat d), ρ1)) (h' : mb ρ1 = some (.ok (.dat e), ρ2)) (g1 : asgD i d ρ2 = some ρ3) (g2 : asgD j e ρ3 = some ρ4) : mPar i j ma mb ρ = some (.nx, ρ4) := by
  have e1 : mCons ma (mCons mb mNil) ρ = some (.ok [.dat d, .dat e], ρ2) := cons_ok h (cons_ok h' rfl)
  unfold mPar
  rw [mThen_ok e1, mThen_ok (show frcs [.dat d, .dat e] ρ2 = some (.ok [d, e], ρ2) from rfl)]
  simp only [g1, g2]
theorem cut_take (xs : List Int) (m : Nat) {i : Int} (hi : i = (m : Int)) : cutD (xs.map PyData.int) none (some i) = (xs.take m).map PyData.int := by
  subst hi
  unfold cutD
  rw [HT.sIx_nat, HT.sIx_none, List.drop_zero, List.length_map, ← List.map_take, Nat.sub_zero]
  congr 1
  rw [List.take_eq_take_iff]
  omega
theorem cut_drop (xs : List Int) (m : Nat) {i : Int} (hi : i = (m : Int)) : cutD (xs.map PyData.int) (some i) none = (xs.drop m).map PyData.int := by
  subst hi
  unfold cutD
  rw [HT.sIx_nat, HT.sIx_none, List.length_map, ← List.map_drop, ← List.map_take]
  congr 1
  rw [List.take_of_length_le (by rw [List.length_drop]; omega)]
  by_cases h : m ≤ xs.length
  · rw [show min m xs.length = m by omega]
  · rw [show min m xs.length = xs.length by omega, List.drop_length, List.drop_eq_nil_of_le (by omega)]
/-! ### octets lie from 0 to 255 -/
theorem up_rng {cs : List Nat} (h : PySem.NumText.AllDigits cs) : ∀ c ∈ up cs, 0 ≤ c ∧ c < 256 := fun c hc => by
  have := isDg_iff.mp (isDg_up h c hc)
  omega
mutual
theorem oct_rng : ∀ (v : D), good v = true → ∀ c ∈ oct v, 0 ≤ c ∧ c < 256
  | .none, _ => by intro c hc; simp [oct] at hc; omega
  | .bool b, _ => by intro c hc; cases b <;> simp [oct] at hc <;> omega
  | .int i, _ => by
    intro c hc
    have hc : c ∈ [105] ++ codes (toString i) ++ [59] := hc
    rw [List.mem_append, List.mem_append, List.mem_singleton, List.mem_singleton] at hc
    rcases hc with (hc | hc) | hc
    · omega
    · by_cases h : i < 0
      · rw [codes_neg h] at hc
        rcases List.mem_cons.mp hc with hc | hc
        · omega
        · exact up_rng (digs_all _) c hc
      · rw [codes_pos (by omega)] at hc
        exact up_rng (digs_all _) c hc
    · omega
  | .str x, g => by
    intro c hc
    have hc : c ∈ [115] ++ (codes (toString (x.length : Int)) ++ [58] ++ codes x) := hc
    rw [codes_nat, List.mem_append, List.mem_append, List.mem_append, List.mem_singleton, List.mem_singleton] at hc
    rcases hc with hc | (hc | hc) | hc
    · omega
    · exact up_rng (digs_all _) c hc
    · omega
    · exact okC_nn (List.all_eq_true.mp g c hc)
  | .tuple ds, g => by
    intro c hc
    have hc : c ∈ [40] ++ octs ds ++ [41] := hc
    rw [List.mem_append, List.mem_append, List.mem_singleton, List.mem_singleton] at hc
    rcases hc with (hc | hc) | hc
    · omega
    · exact octs_rng ds g c hc
    · omega
  | .list _, g => by cases g
  | .dict _, g => by cases g
theorem octs_rng : ∀ (ds : List D), goods ds = true → ∀ c ∈ octs ds, 0 ≤ c ∧ c < 256
  | [], _ => fun _ h => nomatch h
  | d :: ds, g => by
    have g : (good d && goods ds) = true := g
    rw [Bool.and_eq_true] at g
    intro c hc
    have hc : c ∈ oct d ++ octs ds := hc
    rcases List.mem_append.mp hc with hc | hc
    · exact oct_rng d g.1 c hc
    · exact octs_rng ds g.2 c hc
end
/-! ### _law_spoilt -/
structure Sp (ys : List Int) : Prop where
  l : ys.length ≤ 7000
  r : ∀ c ∈ ys, 0 ≤ c ∧ c < 256
  n : NR 77 ys
  c : cnt ys ≤ 590
def menuN : List D := [.int 48, .int 49, .int 40, .int 41, .int 59, .int 58, .int 45, .int 105, .int 115, .int 110, .int 116, .int 102, .int 97, .int 128, .int 255, .int 32]
theorem menuN_k : ∀ d ∈ menuN, ∃ k : Int, d = .int k ∧ 0 ≤ k ∧ k < 256 := by
  intro d hd
  unfold menuN at hd
  simp only [List.mem_cons, List.not_mem_nil, or_false] at hd
  rcases hd with rfl | rfl | rfl | rfl | rfl | rfl | rfl | rfl | rfl | rfl | rfl | rfl | rfl | rfl | rfl | rfl <;> exact ⟨_, rfl, by decide, by decide⟩
theorem cnt_sub {a b : List Int} (h : a.Sublist b) : cnt a ≤ cnt b := (h.filter _).length_le
abbrev stS (o : O) (xs : List Int) (s2 s3 s4 : Sl) : List Sl := [.par o, .dat (octD xs), s2, s3, s4]
theorem spoilt_ok {o : O} (hb : Box o) {xs : List Int} (hl : xs.length ≤ 3000) (hr : ∀ c ∈ xs, 0 ≤ c ∧ c < 256) (hn : NR 31 xs) (hc : cnt xs ≤ 500) : ∃ (ys : List Int) (o' : O), f_d_u_law_spoilt o [octD xs] = some (octD ys, o') ∧ Sp ys ∧ Box o' := by
  obtain ⟨w, o1, e1, w0, w5, hb1⟩ := bx_take hb (b := true) (i := 0) (ρ := stS o xs .un .un .un) (ma := mCons (mC (.int 5)) mNil) (m := 5) rfl (.one (Ef.c _ _)) (by decide) (by decide)
  obtain ⟨a, o2, e2, a0, a1, hb2⟩ := bx_take hb1 (b := true) (i := 0) (ρ := stS o1 xs .un .un .un) (ma := mCons (mOp2 fPlus (mOp1 fLen (mVar 1)) (mC (.int 1))) mNil) (m := (xs.length : Int) + 1) rfl (.one (Ef.op2 (Ef.op1 (Ef.v rfl).ev (len_o xs)).ev (Ef.c _ _).ev rfl)) (by omega) (by omega)
  have s1 := st_par2 (i := 2) (j := 3) (ρ3 := stS o2 xs (.dat (.int w)) .un .un) (ρ4 := stS o2 xs (.dat (.int w)) (.dat (.int a)) .un) e1 e2 rfl rfl
  obtain ⟨d, o3, e3, hd, hb3⟩ := bx_pick hb2 (b := true) (i := 0) (ρ := stS o2 xs (.dat (.int w)) (.dat (.int a)) .un) (ma := mCons (mLst (mCons (mC (.int 48)) (mCons (mC (.int 49)) (mCons (mC (.int 40)) (mCons (mC (.int 41)) (mCons (mC (.int 59)) (mCons (mC (.int 58)) (mCons (mC (.int 45)) (mCons (mC (.int 105)) (mCons (mC (.int 115)) (mCons (mC (.int 110)) (mCons (mC (.int 116)) (mCons (mC (.int 102)) (mCons (mC (.int 97)) (mCons (mC (.int 128)) (mCons (mC (.int 255)) (mCons (mC (.int 32)) mNil))))))))))))))))) mNil) (ds := menuN) rfl
    (.one (Ef.lst (.cons (Ef.c _ _) (.cons (Ef.c _ _) (.cons (Ef.c _ _) (.cons (Ef.c _ _) (.cons (Ef.c _ _) (.cons (Ef.c _ _) (.cons (Ef.c _ _) (.cons (Ef.c _ _) (.cons (Ef.c _ _) (.cons (Ef.c _ _) (.cons (Ef.c _ _) (.cons (Ef.c _ _) (.cons (Ef.c _ _) (.cons (Ef.c _ _) (.cons (Ef.c _ _) (.one (Ef.c _ _))))))))))))))))))) (by decide) (by decide)
  obtain ⟨nw, rfl, n0, n1⟩ := menuN_k d hd
  generalize hq : a.toNat = q
  have hqi : a = (q : Int) := by omega
  subst hqi
  have hm : m_d_u_law_spoilt (stS o xs .un .un .un) = _ := (mSeq_ok s1).trans (mSeq_ok (mAsg_ok (ρ2 := stS o3 xs (.dat (.int w)) (.dat (.int (q : Int))) (.dat (.int nw))) e3 rfl))
  have tk : ∀ k : Int, Tb (mAsB (mOp2 fEq (mVar 2) (mC (.int k)))) (stS o3 xs (.dat (.int w)) (.dat (.int (q : Int))) (.dat (.int nw))) (w == k) := fun k => Tb.asB (Ef.op2 (Ef.v rfl).ev (Ef.c _ _).ev (eq_i _ _)).ev
  have eT : Ef (mCut (mVar 1) (mRet none) (mPart (mVar 3))) (stS o3 xs (.dat (.int w)) (.dat (.int (q : Int))) (.dat (.int nw))) (octD (xs.take q)) := by
    unfold octD
    rw [← cut_take xs q rfl]
    exact Ef.cut (Ef.v rfl).ev rfl (part_ok (Ef.v rfl).ev)
  have eD1 : Ef (mCut (mVar 1) (mPart (mOp2 fPlus (mVar 3) (mC (.int 1)))) (mRet none)) (stS o3 xs (.dat (.int w)) (.dat (.int (q : Int))) (.dat (.int nw))) (octD (xs.drop (q + 1))) := by
    unfold octD
    rw [← cut_drop xs (q + 1) (i := (q : Int) + 1) rfl]
    exact Ef.cut (Ef.v rfl).ev (part_ok (Ef.op2 (Ef.v rfl).ev (Ef.c _ _).ev rfl).ev) rfl
  have eD0 : Ef (mCut (mVar 1) (mPart (mVar 3)) (mRet none)) (stS o3 xs (.dat (.int w)) (.dat (.int (q : Int))) (.dat (.int nw))) (octD (xs.drop q)) := by
    unfold octD
    rw [← cut_drop xs q rfl]
    exact Ef.cut (Ef.v rfl).ev (part_ok (Ef.v rfl).ev) rfl
  have eN : Ef (mLst (mCons (mVar 4) mNil)) (stS o3 xs (.dat (.int w)) (.dat (.int (q : Int))) (.dat (.int nw))) (octD [nw]) := Ef.lst (.one (Ef.v rfl))
  have lT := List.length_take_le' q xs
  have lD : ∀ m, (xs.drop m).length ≤ xs.length := fun m => by rw [List.length_drop]; omega
  have cT := cnt_sub (List.take_sublist q xs)
  have cD : ∀ m, cnt (xs.drop m) ≤ cnt xs := fun m => cnt_sub (List.drop_sublist m xs)
  have cN := cnt_le [nw]
  have rT : ∀ c ∈ xs.take q, 0 ≤ c ∧ c < 256 := fun c hc => hr c (List.take_subset _ _ hc)
  have rD : ∀ m, ∀ c ∈ xs.drop m, 0 ≤ c ∧ c < 256 := fun m c hc => hr c (List.drop_subset _ _ hc)
  have rN : ∀ c ∈ [nw], 0 ≤ c ∧ c < 256 := fun c hc => by rw [List.mem_singleton.mp hc]; exact ⟨n0, n1⟩
  have l1 : [nw].length = 1 := rfl
  have app : ∀ {as bs : List Int}, (∀ c ∈ as, 0 ≤ c ∧ c < 256) → (∀ c ∈ bs, 0 ≤ c ∧ c < 256) → ∀ c ∈ as ++ bs, 0 ≤ c ∧ c < 256 := fun ha hb c hc => by
    rcases List.mem_append.mp hc with h | h
    · exact ha c h
    · exact hb c h
  have cc : ∀ m, q ≤ m → cnt (xs.take q) + cnt (xs.drop m) ≤ cnt xs := fun m hm => by
    have e1 := congrArg cnt (List.take_append_drop q xs)
    rw [cnt_app] at e1
    have := cnt_sub (List.drop_sublist_drop_left xs hm)
    omega
  have fin : ∀ (ys : List Int) (o' : O) (ρ' : List Sl), m_d_u_law_spoilt (stS o xs .un .un .un) = some (.rt (octD ys), ρ') → ρ'[0]? = some (.par o') → f_d_u_law_spoilt o [octD xs] = some (octD ys, o') := fun ys o' ρ' h h0 => runB_rt rfl h h0
  by_cases c0 : w = 0
  · refine ⟨xs.take q ++ xs.drop (q + 1), o3, fin _ _ _ (hm.trans (if_ret ((tk 0).to (by simp [c0])) (Ef.op2 eT.ev eD1.ev (plusO _ _ (by have := lD (q + 1); omega))))) rfl, ⟨?_, app rT (rD _), ?_, ?_⟩, hb3⟩
    · rw [List.length_append]; have := lD (q + 1); omega
    · exact (NR.app (hn.take q) (hn.drop (q + 1))).mono (by decide)
    · rw [cnt_app]; have := cc (q + 1) (by omega); omega
  have hm1 := hm.trans (st_skip ((tk 0).to (by simp [c0])))
  have three : ∀ m, q ≤ m → Sp (xs.take q ++ [nw] ++ xs.drop m) := fun m hqm => by
    refine ⟨?_, app (app rT rN) (rD _), ?_, ?_⟩
    · rw [List.length_append, List.length_append]; have := List.length_take (i := q) (l := xs); have := List.length_drop (i := m) (l := xs); omega
    · exact (NR.app (NR.app (hn.take q) (NR.len (k := 1) (by exact Nat.le_refl 1))) (hn.drop m)).mono (by decide)
    · rw [cnt_app, cnt_app]; have := cc m hqm; omega
  by_cases c1 : w = 1
  · exact ⟨xs.take q ++ [nw] ++ xs.drop q, o3, fin _ _ _ (hm1.trans (if_ret ((tk 1).to (by simp [c1])) (Ef.op2 (Ef.op2 eT.ev eN.ev (plusO _ _ (by omega))).ev eD0.ev (plusO _ _ (by rw [List.length_append]; have := lD q; omega))))) rfl, three q (Nat.le_refl _), hb3⟩
  have hm2 := hm1.trans (st_skip ((tk 1).to (by simp [c1])))
  by_cases c2 : w = 2
  · obtain ⟨v, o4, e4, hv, hb4⟩ := plain_ok 5 1 o3 (by decide) hb3
    have e5 := callB_at (f := f_d_u_law_plain 5) (b := true) (i := 0) (ρ := stS o3 xs (.dat (.int w)) (.dat (.int (q : Int))) (.dat (.int nw))) (ma := mCons (mC (.int 1)) mNil) rfl (.one (Ef.c _ _)) e4
    have hvl : (oct v).length ≤ 104 := hv.l
    have hvc : cnt (oct v) ≤ 4 := hv.c
    have ok := okV_of 599 v hv.g (by omega) (hv.r.mono (by decide)) (by omega)
    have lw := oct_law 599 v ok (by omega)
    have e6 : mCall (f_d_u_law_octets 600) (mCons (mCallB (f_d_u_law_plain 5) (mCons (mVar 0) (mCons (mC (.int 1)) mNil))) mNil) (stS o3 xs (.dat (.int w)) (.dat (.int (q : Int))) (.dat (.int nw))) = some (.ok (.dat (octD (oct v))), stS o4 xs (.dat (.int w)) (.dat (.int (q : Int))) (.dat (.int nw))) := by
      have e7 := cons_ok e5 (show mNil _ = some (.ok [], _) from rfl)
      unfold mCall
      rw [mBind_ok e7]
      show mLift ((f_d_u_law_octets 600 [v]).map Vw.dat) _ = _
      rw [lw]
      rfl
    have e8 := mOp2_ok (f := fPlus) (a := .loc 1) (b := .dat (octD (oct v))) (d := octD xs) (e := octD (oct v)) (ρ1 := stS o3 xs (.dat (.int w)) (.dat (.int (q : Int))) (.dat (.int nw))) (show mVar 1 (stS o3 xs (.dat (.int w)) (.dat (.int (q : Int))) (.dat (.int nw))) = some (.ok (.loc 1), _) from rfl) e6 rfl rfl (plusO xs (oct v) (by omega))
    refine ⟨xs ++ oct v, o4, fin _ _ _ (hm2.trans ((st_then ((tk 2).to (by simp [c2]))).trans (seq_ret_of e8))) rfl, ⟨?_, app hr (oct_rng v hv.g), ?_, ?_⟩, hb4⟩
    · rw [List.length_append]; omega
    · exact (NR.app hn hv.r).mono (by decide)
    · rw [cnt_app]; omega
  have hm3 := hm2.trans (st_skip ((tk 2).to (by simp [c2])))
  by_cases c3 : w = 3
  · exact ⟨xs.take q, o3, fin _ _ _ (hm3.trans (if_ret ((tk 3).to (by simp [c3])) eT)) rfl, ⟨by omega, rT, (hn.take q).mono (by decide), by omega⟩, hb3⟩
  have hm4 := hm3.trans (st_skip ((tk 3).to (by simp [c3])))
  exact ⟨xs.take q ++ [nw] ++ xs.drop (q + 1), o3, fin _ _ _ (hm4.trans (st_ret (Ef.op2 (Ef.op2 eT.ev eN.ev (plusO _ _ (by omega))).ev eD1.ev (plusO _ _ (by rw [List.length_append]; have := lD (q + 1); omega))))) rfl, three (q + 1) (by omega), hb3⟩
end K27
namespace K27
open PySem L2 Dat
theorem pv_wrap {v s : D} {a b c d : Nat} (h : Pv a c v) (h' : Pv b d s) : Pv (a + b + 2) (c + d + 1) (.tuple [v, s]) := by
  have hv := pv_octs (L := a + b) (C := c + d) [v, s] (fun x hx => by
    rcases List.mem_cons.mp hx with rfl | hx
    · exact h.mono (by omega) (by omega)
    · rw [List.mem_singleton.mp hx]; exact h'.mono (by omega) (by omega))
  obtain ⟨g, _, _, r, _⟩ := hv
  have e : oct (.tuple [v, s]) = [40] ++ (octs [v, s] ++ [41]) := by
    show [40] ++ octs [v, s] ++ [41] = _
    rw [List.append_assoc]
  have e2 : octs [v, s] = oct v ++ (oct s ++ []) := rfl
  have l1 := h.l
  have l2 := h'.l
  have c1 := h.c
  have c2 := h'.c
  refine ⟨g, ?_, ?_, ?_⟩
  · rw [e, e2, List.length_append, List.length_append, List.length_append, List.length_append]; simp only [List.length_cons, List.length_nil]; omega
  · rw [e, e2, cnt_app, cnt_app, cnt_app, cnt_app]
    have : cnt [40] = 1 := rfl
    have : cnt [41] = 0 := rfl
    have : cnt ([] : List Int) = 0 := rfl
    omega
  · rw [e]
    have a3 : NR 31 (octs [v, s] ++ [41]) := NR.sep r (NR.len (by decide)) rfl
    exact NR.cons rfl a3
theorem asg_if {mt : M Bool} {ma mb : M Vw} {gm : GM} {b : Bool} {d : D} {ρ ρ1 ρ2 : List Sl} (h : mt ρ = some (.ok b, ρ1)) (h' : Ef (if b = true then ma else mb) ρ1 d) (hg : gm d ρ1 = some ρ2) : mAsg (mIf mt ma mb) gm ρ = some (.nx, ρ2) := by
  have e : mIf mt ma mb ρ = (if b = true then ma else mb) ρ1 := by
    rw [mIf_ok h]
    cases b <;> rfl
  obtain ⟨w, h1, _, h2⟩ := h'
  unfold mAsg mThen
  rw [e, h1]
  show mThen (frc w) (asgS gm) ρ1 = _
  unfold mThen
  rw [h2]
  show asgS gm d ρ1 = _
  unfold asgS
  rw [hg]
/-! ### odd things -/
theorem odd_er (f : Nat) (d : D) (hd : (∃ ds, d = .list ds) ∨ d = .dict []) (deep : Int) (h : deep ≤ 400) : f_d_u_written (f + 1) [d, .int deep] = some (.er 0) := by
  refine runR_er (ρ' := stV d deep .un .un .un .un .un) rfl ?_
  show m_d_u_written (f_d_u_written f) (stV d deep .un .un .un .un .un) = _
  unfold m_d_u_written
  rcases hd with ⟨ds, rfl⟩ | rfl
  · rw [st_skip (vdeep h), st_skip (Tb.isN (d := .list ds) (Ef.v rfl).ev), st_skip (isi_b (v := .list ds) rfl rfl), st_skip (isi_b (v := .list ds) rfl rfl), st_skip (isi_b (v := .list ds) rfl rfl)]
    exact if_raise (Tb.no (isi_b (v := .list ds) (b := false) rfl rfl))
  · rw [st_skip (vdeep h), st_skip (Tb.isN (d := .dict []) (Ef.v rfl).ev), st_skip (isi_b (v := .dict []) rfl rfl), st_skip (isi_b (v := .dict []) rfl rfl), st_skip (isi_b (v := .dict []) rfl rfl)]
    exact if_raise (Tb.no (isi_b (v := .dict []) (b := false) rfl rfl))
theorem odd_w (d : D) (hd : (∃ ds, d = .list ds) ∨ d = .dict []) : f_d_written [d] = some (.er 0) :=
  runR_er (ρ' := [.dat d]) rfl (ret_er (callR_er (.cons (Ef.v rfl) (.one (Ef.c _ _))) (odd_er 419 d hd 0 (by decide))))
theorem odd_w2 (d : D) (hd : (∃ ds, d = .list ds) ∨ d = .dict []) : ∃ c, f_d_written [.tuple [.int 1, d]] = some (.er c) := by
  have h1 : f_d_u_written 419 [.int 1, .int (0 + 1)] = some (.ok (octD (oct (.int 1)))) := wr_int 418 1 _ (by decide) (by decide)
  have ol : (oct (.int 1)).length ≤ 34 := (pv_int 1 (by decide)).l
  obtain ⟨_, t2⟩ := wr_step (f := 419) (all := .tuple [.int 1, d]) (x := .int 1) (deep := 0) (acc := [40]) (s6 := .un) rfl (by show 1 + (oct (.int 1)).length ≤ 200000; omega)
  obtain ⟨t3, _⟩ := wr_step (f := 419) (all := .tuple [.int 1, d]) (x := d) (deep := 0) (acc := [40] ++ oct (.int 1)) (s6 := .dat (.int 1)) rfl (by
    have hd0 : (oct d).length = 0 := by rcases hd with ⟨ds, rfl⟩ | rfl <;> rfl
    rw [List.length_append]
    show 1 + (oct (.int 1)).length + (oct d).length ≤ 200000
    omega)
  have e1 := loopS_nx (ds := [d]) (t2 h1)
  have e2 := loopS_er (ds := []) (t3 0 (odd_er 418 d hd _ (by decide)))
  have e3 := wr_loop 419 [.int 1, d] 0 (by decide) _ (.er 0) (fun z => nomatch z) (e1.trans e2)
  have e4 : f_d_u_written 420 [.tuple [.int 1, d], .int 0] = some (.er 0) := runR_er rfl e3
  exact ⟨0, runR_er (ρ' := [.dat (.tuple [.int 1, d])]) rfl (ret_er (callR_er (.cons (Ef.v rfl) (.one (Ef.c _ _))) e4))⟩
def menuO : List D := [.list [], .list [.str "a"], .dict [], .list [.none], .list [.int 1, .int 2]]
theorem menuO_d : ∀ d ∈ menuO, (∃ ds, d = .list ds) ∨ d = .dict [] := by
  intro d hd
  unfold menuO at hd
  simp only [List.mem_cons, List.not_mem_nil, or_false] at hd
  rcases hd with rfl | rfl | rfl | rfl | rfl
  · exact .inl ⟨_, rfl⟩
  · exact .inl ⟨_, rfl⟩
  · exact .inr rfl
  · exact .inl ⟨_, rfl⟩
  · exact .inl ⟨_, rfl⟩
def menuA : List D := [.int 0, .int 0, .int 1, .int 57, .int 0, .int 2, .int 0, .int 397, .int 399, .int 400, .int 401]
theorem menuA_n : ∀ d ∈ menuA, ∃ n : Nat, n ≤ 401 ∧ d = .int (n : Int) := by
  intro d hd
  unfold menuA at hd
  simp only [List.mem_cons, List.not_mem_nil, or_false] at hd
  rcases hd with rfl | rfl | rfl | rfl | rfl | rfl | rfl | rfl | rfl | rfl | rfl
  · exact ⟨0, by decide, rfl⟩
  · exact ⟨0, by decide, rfl⟩
  · exact ⟨1, by decide, rfl⟩
  · exact ⟨57, by decide, rfl⟩
  · exact ⟨0, by decide, rfl⟩
  · exact ⟨2, by decide, rfl⟩
  · exact ⟨0, by decide, rfl⟩
  · exact ⟨397, by decide, rfl⟩
  · exact ⟨399, by decide, rfl⟩
  · exact ⟨400, by decide, rfl⟩
  · exact ⟨401, by decide, rfl⟩
abbrev ls (a0 : D) (o : O) (s2 s3 s4 s5 s6 s7 s8 s9 : Sl) : List Sl := [.dat a0, .own o, s2, s3, s4, s5, s6, s7, s8, s9]
theorem box_eq (ns : List Int) (h : ns.length ≤ 63) : f_d_u_law_box [.list (ns.map .int)] = some [.int 0, .int 0, .int 0, .list ((ns.map fun n => if n < 0 then -n else n).map .int)] := by
  have := mLc_pure (mi := mSeqL (mVar 0)) (gm := asgD 1) (mt := T_d_u_law_box_1) (me := E_d_u_law_box_0) (vs := [1]) (enc := PyData.int) (fun n => some (PyData.int (if n < 0 then -n else n))) ns (ρ := [.dat (.list (ns.map .int)), .un]) (ρ0 := [.dat (.list (ns.map .int)), .un])
    rfl (le_big (by omega)) (fun n hn => stepC_yes (ρ1 := [.dat (.list (ns.map .int)), .dat (.int n)]) (ρ2 := [.dat (.list (ns.map .int)), .dat (.int n)]) (ρ3 := [.dat (.list (ns.map .int)), .dat (.int n)]) (asgD_np rfl) rfl rfl)
  have e : ns.filterMap (fun n => some (PyData.int (if n < 0 then -n else n))) = (ns.map fun n => if n < 0 then -n else n).map PyData.int := by
    rw [List.filterMap_eq_map', List.map_map]
    rfl
  rw [e] at this
  have e2 : L_d_u_law_box_2 [.dat (.list (ns.map .int)), .un] = some (.ok (.dat (.list ((ns.map fun n => if n < 0 then -n else n).map PyData.int))), [.dat (.list (ns.map .int)), .un]) := this
  have e4 : Es m_d_u_law_box [.dat (.list (ns.map .int)), .un] [.int 0, .int 0, .int 0, .list ((ns.map fun n => if n < 0 then -n else n).map .int)] :=
    .cons (Ef.c _ _) (.cons (Ef.c _ _) (.cons (Ef.c _ _) (.one (Ef.dat e2))))
  unfold f_d_u_law_box
  have e5 : runO 1 2 m_d_u_law_box [.list (ns.map .int)] = match mBind m_d_u_law_box frcs [.dat (.list (ns.map .int)), .un] with
    | some (.ok ys, _) => if ys.length ≤ BIG then some ys else none
    | _ => none := rfl
  rw [e5, e4.bind]
  rfl
/-- the value around the value -/
theorem inner_ok {o : O} (hb : Box o) {v : D} (hv : Pv 944 40 v) {n : Nat} (hn : n ≤ 401) {a0 : D} :
    ∃ (w : D) (o' : O), mAsg (mIf (mAnd (mAsB (mOp2 fGt (mVar 3) (mC (.int 50)))) (mAsB (mOp2 fEq (mCallB f_d_u_law_take (mCons (mVar 1) (mCons (mC (.int 2)) mNil))) (mC (.int 0))))) (mTup (mCons (mC (.str "x")) (mCons (mVar 2) mNil))) (mVar 2)) (asgD 4) (ls a0 o (.dat v) (.dat (.int (n : Int))) .un .un .un .un .un .un) =
      some (.nx, ls a0 o' (.dat v) (.dat (.int (n : Int))) (.dat w) .un .un .un .un .un) ∧ Pv 980 42 w ∧ Box o' := by
  have t1 : Tb (mAsB (mOp2 fGt (mVar 3) (mC (.int 50)))) (ls a0 o (.dat v) (.dat (.int (n : Int))) .un .un .un .un .un .un) (decide ((50 : Int) < (n : Int))) := Tb.asB (Ef.op2 (Ef.v rfl).ev (Ef.c _ _).ev rfl).ev
  have hx : Pv 34 1 (.str "x") := pv_str "x" (by decide +kernel) (by decide +kernel) (by decide +kernel)
  have hw : Pv 980 42 (.tuple [.str "x", v]) := (pv_wrap hx hv).mono (by decide) (by decide)
  by_cases c : (50 : Int) < (n : Int)
  · obtain ⟨r, o1, e1, _, _, hb1⟩ := bx_take hb (b := false) (i := 1) (ρ := ls a0 o (.dat v) (.dat (.int (n : Int))) .un .un .un .un .un .un) (ma := mCons (mC (.int 2)) mNil) (m := 2) rfl (.one (Ef.c _ _)) (by decide) (by decide)
    have t2 : mAsB (mOp2 fEq (mCallB f_d_u_law_take (mCons (mVar 1) (mCons (mC (.int 2)) mNil))) (mC (.int 0))) (ls a0 o (.dat v) (.dat (.int (n : Int))) .un .un .un .un .un .un) = some (.ok (r == 0), ls a0 o1 (.dat v) (.dat (.int (n : Int))) .un .un .un .un .un .un) :=
      mAsB_ok (mOp2_ok (a := .dat (.int r)) (b := .dat (.int 0)) e1 rfl rfl rfl (eq_i _ _)) rfl
    have t3 : mAnd (mAsB (mOp2 fGt (mVar 3) (mC (.int 50)))) (mAsB (mOp2 fEq (mCallB f_d_u_law_take (mCons (mVar 1) (mCons (mC (.int 2)) mNil))) (mC (.int 0)))) (ls a0 o (.dat v) (.dat (.int (n : Int))) .un .un .un .un .un .un) = some (.ok (r == 0), ls a0 o1 (.dat v) (.dat (.int (n : Int))) .un .un .un .un .un .un) := by
      rw [mAnd_ok (t1.to (b' := true) (decide_eq_true c))]
      exact t2
    cases hr : (r == 0) with
    | true =>
      rw [hr] at t3
      exact ⟨.tuple [.str "x", v], o1, asg_if t3 (Ef.tup (.cons (Ef.c _ _) (.one (Ef.v rfl)))) rfl, hw, hb1⟩
    | false =>
      rw [hr] at t3
      exact ⟨v, o1, asg_if t3 (Ef.v (i := 2) rfl) rfl, hv.mono (by decide) (by decide), hb1⟩
  · have t3 := Tb.andf (n := mAsB (mOp2 fEq (mCallB f_d_u_law_take (mCons (mVar 1) (mCons (mC (.int 2)) mNil))) (mC (.int 0)))) (t1.to (b' := false) (decide_eq_false c))
    exact ⟨v, o, asg_if t3 (Ef.v (i := 2) rfl) rfl, hv.mono (by decide) (by decide), hb⟩
theorem nest_ok {w : D} (hw : Pv 980 42 w) {n : Nat} (hn : n ≤ 401) {a0 : D} {o : O} {s2 : Sl} :
    ∃ (w' : D) (s5 : Sl), L_d_law_3 (ls a0 o s2 (.dat (.int (n : Int))) (.dat w) .un .un .un .un .un) = some (.nx, ls a0 o s2 (.dat (.int (n : Int))) (.dat w') s5 .un .un .un .un) ∧ Pv 1800 450 w' := by
  let I : Nat → Unit → List Sl → Prop := fun k _ ρ => ∃ (w' : D) (s5 : Sl), np s5 = true ∧ Pv (980 + 2 * k) (42 + k) w' ∧ ρ = ls a0 o s2 (.dat (.int (n : Int))) (.dat w') s5 .un .un .un .un
  obtain ⟨ρ', e4, w', s5, _, hp, rfl⟩ := mFor_fold (mi := mRng1 (mVar 3)) (gm := asgD 5) (body := B_d_law_2) (enc := fun i : Nat => .int (0 + (i : Int))) I (fun _ _ => ()) (List.range n) (b := ()) (ρ := ls a0 o s2 (.dat (.int (n : Int))) (.dat w) .un .un .un .un .un) (ρ0 := ls a0 o s2 (.dat (.int (n : Int))) (.dat w) .un .un .un .un .un)
    (mRng_big (Ef.v rfl).ev (by omega)) (fun k x hx _ ρ hI => by
      obtain ⟨w', s5, h5, hp, rfl⟩ := hI
      refine ⟨.nx, ls a0 o s2 (.dat (.int (n : Int))) (.dat (.tuple [w'])) (.dat (.int (0 + (x : Int)))) .un .un .un .un, ?_, .inl rfl, .tuple [w'], _, rfl, ?_, rfl⟩
      · unfold stepS
        rw [asgD_np (show npAt 5 (ls a0 o s2 (.dat (.int (n : Int))) (.dat w') s5 .un .un .un .un) = true from h5)]
        exact st_asg (Ef.tup (.one (Ef.v rfl))) rfl
      · have := pv_tuple (n := 1) (ds := [w']) (fun d hd => by rw [List.mem_singleton.mp hd]; exact hp) (Nat.le_refl 1)
        exact this.mono (by omega) (by omega))
    ⟨w, .un, rfl, hw.mono (by omega) (by omega), rfl⟩
  rw [List.length_range] at hp
  exact ⟨w', s5, e4, hp.mono (by omega) (by omega)⟩
theorem same_ne {d : D} {ma mb : M Vw} {ρ : List Sl} {x : Str} (hr : fRepr d = some (.str x)) (hs : okS x) (ha : Ev ma ρ d) (hb : Ev mb ρ d) : Tb (mAsB (mOp2 fNe (mOp1 fRepr ma) (mOp1 fRepr mb))) ρ false :=
  Tb.asB (Ef.op2 (Ef.op1 ha hr).ev (Ef.op1 hb hr).ev (ne_s hs)).ev
theorem turn_ok {o : O} (hb : Box o) {xs : List Int} (hl : xs.length ≤ 3000) (hr : ∀ c ∈ xs, 0 ≤ c ∧ c < 256) (hn : NR 31 xs) (hc : cnt xs ≤ 500) {a0 : D} {x : D} {s2 s3 s4 s5 s7 s8 : Sl} (n7 : np s7 = true) (n8 : np s8 = true) :
    ∃ (o' : O) (s8' : Sl), Box o' ∧ np s8' = true ∧ stepS (asgD 7) B_d_law_0 x (ls a0 o s2 s3 s4 s5 (.dat (octD xs)) s7 s8 .un) = some (.nx, ls a0 o' s2 s3 s4 s5 (.dat (octD xs)) (.dat x) s8' .un) := by
  obtain ⟨ys, o1, e1, sp, hb1⟩ := spoilt_ok hb hl hr hn hc
  have e2 := callB_at (f := f_d_u_law_spoilt) (b := false) (i := 1) (ρ := ls a0 o s2 s3 s4 s5 (.dat (octD xs)) (.dat x) s8 .un) (ma := mCons (mVar 6) mNil) rfl (.one (Ef.v rfl)) e1
  have hT := told_is (xs := ys) (by have := sp.l; omega) sp.r
  have hW := whole_is (xs := ys) (by have := sp.l; omega) sp.r
  refine ⟨o1, .dat (octD ys), hb1, rfl, ?_⟩
  unfold stepS
  rw [asgD_np (show npAt 7 (ls a0 o s2 s3 s4 s5 (.dat (octD xs)) s7 s8 .un) = true from n7)]
  show B_d_law_0 (ls a0 o s2 s3 s4 s5 (.dat (octD xs)) (.dat x) s8 .un) = _
  unfold B_d_law_0
  rw [mSeq_ok (mAsg_ok (ρ2 := ls a0 o1 s2 s3 s4 s5 (.dat (octD xs)) (.dat x) (.dat (octD ys)) .un) e2 (asgD_np (show npAt 8 (ls a0 o1 s2 s3 s4 s5 (.dat (octD xs)) (.dat x) s8 .un) = true from n8)))]
  have hR : ∃ z, fRepr (oneD (readS ys)) = some (.str z) ∧ okS z := by
    cases hq : readS ys with
    | none => exact ⟨_, repr_none.1, repr_none.2⟩
    | some v =>
      obtain ⟨rfl, g⟩ := readS_sound hq
      have k := okV_of 599 v g (by have := sp.c; omega) sp.n (by have := sp.l; omega)
      exact ⟨_, (repr_one g k (by decide) (by have := sp.l; omega)).1, (repr_one g k (by decide) (by have := sp.l; omega)).2⟩
  obtain ⟨z, hz, hs⟩ := hR
  have t : Tb (mAsB (mOp2 fNe (mOp1 fRepr (mCall f_d_u_law_told (mCons (mVar 8) mNil))) (mOp1 fRepr (mCall f_d_u_law_whole (mCons (mVar 8) mNil))))) (ls a0 o1 s2 s3 s4 s5 (.dat (octD xs)) (.dat x) (.dat (octD ys)) .un) false :=
    same_ne hz hs (Ef.call (.one (Ef.v rfl)) hT).ev (Ef.call (.one (Ef.v rfl)) hW).ev
  rw [mIfS_ok t]
  rfl
theorem turns_ok {o : O} (hb : Box o) {xs : List Int} (hl : xs.length ≤ 3000) (hr : ∀ c ∈ xs, 0 ≤ c ∧ c < 256) (hn : NR 31 xs) (hc : cnt xs ≤ 500) {a0 : D} {s2 s3 s4 s5 : Sl} :
    ∃ (o' : O) (s7 s8 : Sl), Box o' ∧ L_d_law_1 (ls a0 o s2 s3 s4 s5 (.dat (octD xs)) .un .un .un) = some (.nx, ls a0 o' s2 s3 s4 s5 (.dat (octD xs)) s7 s8 .un) := by
  let I : Nat → Unit → List Sl → Prop := fun k _ ρ => ∃ (o' : O) (s7 s8 : Sl), Box o' ∧ np s7 = true ∧ np s8 = true ∧ ρ = ls a0 o' s2 s3 s4 s5 (.dat (octD xs)) s7 s8 .un
  obtain ⟨ρ', e4, o', s7, s8, hb', _, _, rfl⟩ := mFor_fold (mi := mRng1 (mC (.int 4))) (gm := asgD 7) (body := B_d_law_0) (enc := fun i : Nat => .int (0 + (i : Int))) I (fun _ _ => ()) (List.range 4) (b := ()) (ρ := ls a0 o s2 s3 s4 s5 (.dat (octD xs)) .un .un .un) (ρ0 := ls a0 o s2 s3 s4 s5 (.dat (octD xs)) .un .un .un)
    (mRng_big (n := 4) (Ef.c _ _).ev (by decide)) (fun k x hx _ ρ hI => by
      obtain ⟨o', s7, s8, hb', n7, n8, rfl⟩ := hI
      obtain ⟨o'', s8', hb'', n8', hs⟩ := turn_ok hb' hl hr hn hc (a0 := a0) (x := .int (0 + (x : Int))) (s2 := s2) (s3 := s3) (s4 := s4) (s5 := s5) n7 n8
      exact ⟨.nx, _, hs, .inl rfl, o'', _, s8', hb'', rfl, n8', rfl⟩)
    ⟨o, .un, .un, hb, rfl, rfl, rfl⟩
  exact ⟨o', s7, s8, hb', e4⟩
theorem law_all (ns : List Int) (h : ns.length ≤ 63) : f_d_law [.list (ns.map .int)] = some (.bool true) := by
  have hb0 : Box (.lst [.int 0, .int 0, .int 0, .list ((ns.map fun n => if n < 0 then -n else n).map .int)]) := ⟨0, 0, 0, ns.map fun n => if n < 0 then -n else n, Int.le_refl _, rfl⟩
  generalize hbx : O.lst [.int 0, .int 0, .int 0, .list ((ns.map fun n => if n < 0 then -n else n).map .int)] = o0 at hb0
  generalize ha0 : PyData.list (ns.map .int) = a0
  have a1 : mSetOc 1 f_d_u_law_box (mCons (mVar 0) mNil) [.dat a0, .un, .un, .un, .un, .un, .un, .un, .un, .un] = some (.nx, ls a0 o0 .un .un .un .un .un .un .un .un) := by
    rw [← hbx, ← ha0]
    have e0 : mSetOc 1 f_d_u_law_box (mCons (mVar 0) mNil) [.dat (.list (ns.map .int)), .un, .un, .un, .un, .un, .un, .un, .un, .un] = (match f_d_u_law_box [.list (ns.map .int)] with
      | some ys => asgO 1 (.lst ys)
      | none => fun _ => none) [.dat (.list (ns.map .int)), .un, .un, .un, .un, .un, .un, .un, .un, .un] := rfl
    rw [e0, box_eq ns h]
    rfl
  obtain ⟨v, o1, e1, hv, hb1⟩ := plain_ok 5 3 o0 (by decide) hb0
  have a2 := mAsg_ok (gm := asgD 2) (ρ2 := ls a0 o1 (.dat v) .un .un .un .un .un .un .un) (callB_at (f := f_d_u_law_plain 5) (b := false) (i := 1) (ρ := ls a0 o0 .un .un .un .un .un .un .un .un) (ma := mCons (mC (.int 3)) mNil) rfl (.one (Ef.c _ _)) e1) rfl
  obtain ⟨d, o2, e2, hd, hb2⟩ := bx_pick hb1 (b := false) (i := 1) (ρ := ls a0 o1 (.dat v) .un .un .un .un .un .un .un) (ma := mCons (mLst (mCons (mC (.int 0)) (mCons (mC (.int 0)) (mCons (mC (.int 1)) (mCons (mC (.int 57)) (mCons (mC (.int 0)) (mCons (mC (.int 2)) (mCons (mC (.int 0)) (mCons (mC (.int 397)) (mCons (mC (.int 399)) (mCons (mC (.int 400)) (mCons (mC (.int 401)) mNil)))))))))))) mNil) (ds := menuA) rfl
    (.one (Ef.lst (.cons (Ef.c _ _) (.cons (Ef.c _ _) (.cons (Ef.c _ _) (.cons (Ef.c _ _) (.cons (Ef.c _ _) (.cons (Ef.c _ _) (.cons (Ef.c _ _) (.cons (Ef.c _ _) (.cons (Ef.c _ _) (.cons (Ef.c _ _) (.one (Ef.c _ _)))))))))))))) (by decide) (by decide)
  obtain ⟨n, hn, rfl⟩ := menuA_n d hd
  have a3 := mAsg_ok (gm := asgD 3) (ρ2 := ls a0 o2 (.dat v) (.dat (.int (n : Int))) .un .un .un .un .un .un) e2 rfl
  obtain ⟨w0, o3, a4, hw0, hb3⟩ := inner_ok hb2 (v := v) hv hn (a0 := a0)
  obtain ⟨w, s5, a5, hw⟩ := nest_ok hw0 hn (a0 := a0) (o := o3) (s2 := .dat v)
  have g := hw.g
  have wl := hw.l
  have wc := hw.c
  have k := okV_of 599 w g (by omega) (hw.r.mono (by decide)) (by omega)
  have wr := oct_rng w g
  have a6 := st_asg (gm := asgD 6) (ρ' := ls a0 o3 (.dat v) (.dat (.int (n : Int))) (.dat w) s5 (.dat (octD (oct w))) .un .un .un) (Ef.call (f := f_d_u_law_octets 600) (.one (Ef.v (i := 4) (ρ := ls a0 o3 (.dat v) (.dat (.int (n : Int))) (.dat w) s5 .un .un .un .un) rfl)) (oct_law 599 w k (by omega))) rfl
  have hW := whole_is (xs := oct w) (by omega) wr
  have hT := told_is (xs := oct w) (by omega) wr
  have hR := readtop_ok (xs := oct w) (by omega) wr
  obtain ⟨w1, w2⟩ := written_ok g k (by omega)
  rw [readS_oct g] at hW hT hR
  -- the end, whatever it is
  have go : ∃ ρ', m_d_law [.dat a0, .un, .un, .un, .un, .un, .un, .un, .un, .un] = some (.rt (.bool true), ρ') := by
    have hm : m_d_law [.dat a0, .un, .un, .un, .un, .un, .un, .un, .un, .un] = _ := (mSeq_ok a1).trans ((mSeq_ok a2).trans ((mSeq_ok a3).trans ((mSeq_ok a4).trans ((mSeq_ok a5).trans (mSeq_ok a6)))))
    by_cases c : need w ≤ 401
    · rw [if_pos c] at hW hT hR
      have hR : f_d_read [octD (oct w)] = some (.ok w) := hR
      have hwr := w1 c
      obtain ⟨r1, s1⟩ := repr_o wr (by omega)
      obtain ⟨r2, s2⟩ := repr_v g k (by decide) (by omega)
      have tW : Tb (mIsN (mCall f_d_u_law_whole (mCons (mVar 6) mNil))) (ls a0 o3 (.dat v) (.dat (.int (n : Int))) (.dat w) s5 (.dat (octD (oct w))) .un .un .un) false := Tb.isN (d := .list [w]) (Ef.call (.one (Ef.v rfl)) hW).ev
      have t1 : Tb (mAsB (mOp2 fNe (mOp1 fRepr (mCallR f_d_written (mCons (mVar 4) mNil))) (mOp1 fRepr (mVar 6)))) (ls a0 o3 (.dat v) (.dat (.int (n : Int))) (.dat w) s5 (.dat (octD (oct w))) .un .un .un) false := same_ne r1 s1 (Ef.callR (.one (Ef.v rfl)) hwr).ev (Ef.v rfl).ev
      have t2 : Tb (mAsB (mOp2 fNe (mOp1 fRepr (mCallR f_d_read (mCons (mVar 6) mNil))) (mOp1 fRepr (mVar 4)))) (ls a0 o3 (.dat v) (.dat (.int (n : Int))) (.dat w) s5 (.dat (octD (oct w))) .un .un .un) false := same_ne r2 s2 (Ef.callR (.one (Ef.v rfl)) hR).ev (Ef.v rfl).ev
      obtain ⟨o4, s7, s8, hb4, a7⟩ := turns_ok hb3 (xs := oct w) (by omega) wr hw.r (by omega) (a0 := a0) (s2 := .dat v) (s3 := .dat (.int (n : Int))) (s4 := .dat w) (s5 := s5)
      obtain ⟨od, o5, e5, hod, hb5⟩ := bx_pick hb4 (b := false) (i := 1) (ρ := ls a0 o4 (.dat v) (.dat (.int (n : Int))) (.dat w) s5 (.dat (octD (oct w))) s7 s8 .un) (ma := mCons (mLst (mCons (mLst mNil) (mCons (mLst (mCons (mC (.str "a")) mNil)) (mCons (mC (.dict [])) (mCons (mLst (mCons (mC .none) mNil)) (mCons (mLst (mCons (mC (.int 1)) (mCons (mC (.int 2)) mNil))) mNil)))))) mNil) (ds := menuO) rfl
        (.one (Ef.lst (.cons (Ef.lst (.nil _)) (.cons (Ef.lst (.one (Ef.c _ _))) (.cons (Ef.c _ _) (.cons (Ef.lst (.one (Ef.c _ _))) (.one (Ef.lst (.cons (Ef.c _ _) (.one (Ef.c _ _)))))))))))  (by decide) (by decide)
      have hod2 := menuO_d od hod
      obtain ⟨ce, he⟩ := odd_w2 od hod2
      have f1 := refused_is (odd_w od hod2)
      have f2 := refused_is he
      have a8 := mAsg_ok (gm := asgD 9) (ρ2 := ls a0 o5 (.dat v) (.dat (.int (n : Int))) (.dat w) s5 (.dat (octD (oct w))) s7 s8 (.dat od)) e5 rfl
      refine ⟨ls a0 o5 (.dat v) (.dat (.int (n : Int))) (.dat w) s5 (.dat (octD (oct w))) s7 s8 (.dat od), hm.trans ((st_skip tW).trans ((st_skip (Tb.orf t1 t2)).trans ((mSeq_ok a7).trans ((mSeq_ok a8).trans ?_))))⟩
      exact st_ret (Ef.andt (Ef.call (.one (Ef.v rfl)) f1).ev (Ef.call (.one (Ef.tup (.cons (Ef.c _ _) (.one (Ef.v rfl))))) f2))
    · rw [if_neg c] at hW hT hR
      obtain ⟨ce, he⟩ := w2 c
      have f1 := refused_is he
      have tW : Tb (mIsN (mCall f_d_u_law_whole (mCons (mVar 6) mNil))) (ls a0 o3 (.dat v) (.dat (.int (n : Int))) (.dat w) s5 (.dat (octD (oct w))) .un .un .un) true := Tb.isN (d := .none) (Ef.call (.one (Ef.v rfl)) hW).ev
      have tT : Tb (mIsN (mCall f_d_u_law_told (mCons (mVar 6) mNil))) (ls a0 o3 (.dat v) (.dat (.int (n : Int))) (.dat w) s5 (.dat (octD (oct w))) .un .un .un) true := Tb.isN (d := .none) (Ef.call (.one (Ef.v rfl)) hT).ev
      exact ⟨_, hm.trans (if_ret tW (Ef.andt (Ef.call (.one (Ef.v rfl)) f1).ev (Ef.b tT)))⟩
  obtain ⟨ρ', hgo⟩ := go
  exact runP_rt rfl hgo
end K27
namespace K27
open PySem L2 Dat
theorem walk {l : PySem.W.OpenLaw} {q : Program} {loose : List Str} {XP : (Str → Option Value) → Heap → Prop} {YP : World → Heap → Prop} {d : DefRec} {K : Params → PySem.W.Frag} (hn : l.most = some 63) (hdf : d.params.defaults = [])
    (hY : ∀ (w : World) (h : Heap), YP w h → (K w.params).In h)
    (F : ∀ (w : World) (mg : Str → Option Value) (fa : Addr) (h : Heap), (K w.params).In h → h.Ns mainGlobals mg → mg d.name = some (.ref fa) →
      ∃ fd : FuncData, (∀ (s : Shared) (u : Value), BindsTo s fd ⟨[u], []⟩ [("script", u)]) ∧ ∀ (P : Program) (base : Heap), FnX P w (K w.params) mg base CX0 (Rm 602) fa fd ["script"] (spP (K w.params) f_d_law)) :
    PySem.W.WalkO q loose XP YP l.row.toRowW d [] (fun f vs => PySem.call f vs) :=
  walk_ofX (n := 63) (R := Rm 602) (x := "script") (CX := fun _ => CX0) (sp := fun w => spP (K w.params) f_d_law) hn (by decide) hdf ⟨rfl, rfl, by decide, by decide⟩ hY
    (fun w mg fa h a b c => let ⟨fd, h1, h2⟩ := F w mg fa h a b c; ⟨fd, h1, fun base _ _ => h2 l.prog base⟩)
    (fun _ H a ns hl _ hS => ⟨H, [.list (ns.map .int)], .bool true, Ex.refl H, .cons (.lst hS (dps_ints ns)) .nil, K27.law_all ns hl, fun v F' H' _ hv => by cases hv; rfl⟩) fun _ _ _ _ _ z => z
end K27
open PySem PySem.W PyProof.Rows in
set_option maxRecDepth 100000 in
set_option maxHeartbeats 0 in
theorem PySem.Challenge.cw_entablature_k27_plain_values_in_octets_holds : PySem.Challenge.rw_entablature_k27_plain_values_in_octets.Holds := by
  w_on; o_law; k_head; (case hw => w_witness2)
  k_fill
  refine K27.walk (l := PySem.Challenge.rw_entablature_k27_plain_values_in_octets) rfl rfl (fun w h Y => PySem.W.kIn_of Y) ?F
  case F =>
    intro w mg fa h KX G hmg
    refine' K27.all_mk KX G hmg ?n_d_u_law_box ?l_d_u_law_box ?c_d_u_law_box ?k_d_u_law_box ?n_d_u_law_take ?l_d_u_law_take ?c_d_u_law_take ?k_d_u_law_take ?n_d_u_law_pick ?l_d_u_law_pick ?c_d_u_law_pick ?k_d_u_law_pick ?n_d_u_law_plain ?l_d_u_law_plain ?c_d_u_law_plain ?k_d_u_law_plain ?n_d_u_law_octets ?l_d_u_law_octets ?c_d_u_law_octets ?k_d_u_law_octets ?n_d_u_law_number ?l_d_u_law_number ?c_d_u_law_number ?k_d_u_law_number ?n_d_u_law_sign ?l_d_u_law_sign ?c_d_u_law_sign ?k_d_u_law_sign ?n_d_u_law_value_at ?l_d_u_law_value_at ?c_d_u_law_value_at ?k_d_u_law_value_at ?n_d_u_law_whole ?l_d_u_law_whole ?c_d_u_law_whole ?k_d_u_law_whole ?n_d_u_law_spoilt ?l_d_u_law_spoilt ?c_d_u_law_spoilt ?k_d_u_law_spoilt ?n_d_u_digits ?l_d_u_digits ?c_d_u_digits ?k_d_u_digits ?n_d_u_sign ?l_d_u_sign ?c_d_u_sign ?k_d_u_sign ?n_d_u_written ?l_d_u_written ?c_d_u_written ?k_d_u_written ?n_d_written ?l_d_written ?c_d_written ?k_d_written ?n_d_u_law_refused ?l_d_u_law_refused ?c_d_u_law_refused ?k_d_u_law_refused ?n_d_u_number ?l_d_u_number ?c_d_u_number ?k_d_u_number ?n_d_u_whole ?l_d_u_whole ?c_d_u_whole ?k_d_u_whole ?n_d_u_read ?l_d_u_read ?c_d_u_read ?k_d_u_read ?n_d_read ?l_d_read ?c_d_read ?k_d_read ?n_d_u_law_told ?l_d_u_law_told ?c_d_u_law_told ?k_d_u_law_told ?n_d_law ?l_d_law ?c_d_law ?k_d_law ?x_n ?x_k ?x_e ?x_s ?x_t ?x_i ?x_o ?g_DEEPEST ?g_HIGH ?g_LOW ?z_abs ?z_bool ?z_int ?z_isinstance ?z_len ?z_ord ?z_range ?z_repr ?z_str ?z_tuple
    (case n_d_u_law_box => k_is)
    (case l_d_u_law_box => k_is)
    (case c_d_u_law_box => k_is)
    (case k_d_u_law_box => k_is)
    (case n_d_u_law_take => k_is)
    (case l_d_u_law_take => k_is)
    (case c_d_u_law_take => k_is)
    (case k_d_u_law_take => k_is)
    (case n_d_u_law_pick => k_is)
    (case l_d_u_law_pick => k_is)
    (case c_d_u_law_pick => k_is)
    (case k_d_u_law_pick => k_is)
    (case n_d_u_law_plain => k_is)
    (case l_d_u_law_plain => k_is)
    (case c_d_u_law_plain => k_is)
    (case k_d_u_law_plain => k_is)
    (case n_d_u_law_octets => k_is)
    (case l_d_u_law_octets => k_is)
    (case c_d_u_law_octets => k_is)
    (case k_d_u_law_octets => k_is)
    (case n_d_u_law_number => k_is)
    (case l_d_u_law_number => k_is)
    (case c_d_u_law_number => k_is)
    (case k_d_u_law_number => k_is)
    (case n_d_u_law_sign => k_is)
    (case l_d_u_law_sign => k_is)
    (case c_d_u_law_sign => k_is)
    (case k_d_u_law_sign => k_is)
    (case n_d_u_law_value_at => k_is)
    (case l_d_u_law_value_at => k_is)
    (case c_d_u_law_value_at => k_is)
    (case k_d_u_law_value_at => k_is)
    (case n_d_u_law_whole => k_is)
    (case l_d_u_law_whole => k_is)
    (case c_d_u_law_whole => k_is)
    (case k_d_u_law_whole => k_is)
    (case n_d_u_law_spoilt => k_is)
    (case l_d_u_law_spoilt => k_is)
    (case c_d_u_law_spoilt => k_is)
    (case k_d_u_law_spoilt => k_is)
    (case n_d_u_digits => k_is)
    (case l_d_u_digits => k_is)
    (case c_d_u_digits => k_is)
    (case k_d_u_digits => k_is)
    (case n_d_u_sign => k_is)
    (case l_d_u_sign => k_is)
    (case c_d_u_sign => k_is)
    (case k_d_u_sign => k_is)
    (case n_d_u_written => k_is)
    (case l_d_u_written => k_is)
    (case c_d_u_written => k_is)
    (case k_d_u_written => k_is)
    (case n_d_written => k_is)
    (case l_d_written => k_is)
    (case c_d_written => k_is)
    (case k_d_written => k_is)
    (case n_d_u_law_refused => k_is)
    (case l_d_u_law_refused => k_is)
    (case c_d_u_law_refused => k_is)
    (case k_d_u_law_refused => k_is)
    (case n_d_u_number => k_is)
    (case l_d_u_number => k_is)
    (case c_d_u_number => k_is)
    (case k_d_u_number => k_is)
    (case n_d_u_whole => k_is)
    (case l_d_u_whole => k_is)
    (case c_d_u_whole => k_is)
    (case k_d_u_whole => k_is)
    (case n_d_u_read => k_is)
    (case l_d_u_read => k_is)
    (case c_d_u_read => k_is)
    (case k_d_u_read => k_is)
    (case n_d_read => k_is)
    (case l_d_read => k_is)
    (case c_d_read => k_is)
    (case k_d_read => k_is)
    (case n_d_u_law_told => k_is)
    (case l_d_u_law_told => k_is)
    (case c_d_u_law_told => k_is)
    (case k_d_u_law_told => k_is)
    (case n_d_law => k_is)
    (case l_d_law => k_is)
    (case c_d_law => k_is)
    (case k_d_law => k_is)
    (case x_n => k_is)
    (case x_k => k_is)
    (case x_e => k_exc)
    (case x_s => k_is)
    (case x_t => k_is)
    (case x_i => k_is)
    (case x_o => first | rfl | k_is)
    (case g_DEEPEST => k_is)
    (case g_HIGH => k_is)
    (case g_LOW => k_is)
    (case z_abs => k_is)
    (case z_bool => k_is)
    (case z_int => k_is)
    (case z_isinstance => k_is)
    (case z_len => k_is)
    (case z_ord => k_is)
    (case z_range => k_is)
    (case z_repr => k_is)
    (case z_str => k_is)
    (case z_tuple => k_is)
#print axioms PySem.Challenge.cw_entablature_k27_plain_values_in_octets_holds
