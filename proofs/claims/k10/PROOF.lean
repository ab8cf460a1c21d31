import PyProof.Rows.All
import Wide.All
import OpenK.AllK
import Wide.FinOn
import HandS.ForMost
import HandS.Walk
import HandS.Deep
import HandS.TupAny
import HandS.IsInst
import HandS.Flow
import HandS.TupSets
import HandS.SortInts
import KE.GoesMore
import KE.GoesEnum
import HandS.Set
import HandS.SetFor
import HandS.More
import KE.DataEq
import PySem.Challenge.RW_entablature_k10_choices_and_literals
set_option Elab.async false
set_option linter.all false
set_option maxRecDepth 100000
set_option maxHeartbeats 4000000
/-! Dat: Python defs over plain data, mirrored by total Lean functions. -/
namespace Dat
open PySem L2
abbrev D := PyData
def Ex (F H : Hp) : Prop := ∀ a o, F a = some o → H a = some o
theorem Ex.refl (F : Hp) : Ex F F := fun _ _ h => h
theorem Ex.trans {F G H : Hp} (a : Ex F G) (b : Ex G H) : Ex F H := fun x o h => b x o (a x o h)
theorem Ex.free {F H : Hp} (e : Ex F H) {a : Addr} (h : H a = none) : F a = none := by
  cases q : F a with
  | none => rfl
  | some o => rw [e a o q] at h; cases h
theorem Ex.new {F : Hp} {p : Addr} {o : HO} (h : F p = none) : Ex F (upd F p o) := fun a u e => by
  rw [upd_ne (ne_of_none e h)]; exact e
theorem Ex.both {F H : Hp} (e : Ex F H) {p : Addr} {o : HO} (h : H p = none) : Ex (upd F p o) (upd H p o) := fun a u q => by
  by_cases ha : a = p
  · subst ha; rw [upd_same] at q ⊢; exact q
  · rw [upd_ne ha] at q ⊢; exact e a u q
theorem Ex.mut {F H : Hp} (e : Ex F H) {p : Addr} {o : HO} (h : F p = none) : Ex F (upd H p o) := fun a u q => by
  rw [upd_ne (ne_of_none q h)]; exact e a u q
theorem rdE {F H : Hp} {a : Addr} {u : HO} (e : Ex F H) (h : Rd F a u) : Rd H a u := by
  rcases h with h | ⟨o, h⟩
  · exact Or.inl (e a _ h)
  · exact Or.inr ⟨o, e a _ h⟩
theorem sqlE {K : PySem.W.Frag} {F H : Hp} {a : Addr} {xs : List V} (e : Ex F H) (h : SqL K F a xs) : SqL K H a xs := by
  rcases h with h | h
  · exact Or.inl (rdE e h)
  · exact Or.inr h
theorem sqtE {K : PySem.W.Frag} {F H : Hp} {a : Addr} {xs : List V} (e : Ex F H) (h : SqT K F a xs) : SqT K H a xs := by
  rcases h with h | h
  · exact Or.inl (rdE e h)
  · exact Or.inr h
mutual
theorem dpE {K : PySem.W.Frag} {F H : Hp} (e : Ex F H) : ∀ (d : D) (v : V), Dp K F v d → Dp K H v d
  | .none, _, h => by cases h; exact .non
  | .bool b, _, h => by cases h; exact .bl b
  | .int i, _, h => by cases h; exact .int i
  | .str x, _, h => by cases h; exact .str x
  | .list ds, _, h => by
    cases h with
    | lst hs ha => exact .lst (sqlE e hs) (dpsE e ds _ ha)
  | .tuple ds, _, h => by
    cases h with
    | tup hs ha => exact .tup (sqtE e hs) (dpsE e ds _ ha)
  | .dict _, _, h => by cases h
theorem dpsE {K : PySem.W.Frag} {F H : Hp} (e : Ex F H) : ∀ (ds : List D) (vs : List V), DpAll K F vs ds → DpAll K H vs ds
  | [], _, h => by cases h; exact .nil
  | d :: ds, _, h => by
    cases h with
    | cons h1 h2 => exact .cons (dpE e d _ h1) (dpsE e ds _ h2)
end
theorem dps_len {K : PySem.W.Frag} {F : Hp} : ∀ {ds : List D} {vs : List V}, DpAll K F vs ds → vs.length = ds.length
  | [], _, h => by cases h; rfl
  | _ :: ds, _, h => by
    cases h with
    | cons _ h2 => rw [List.length_cons, List.length_cons, dps_len h2]
theorem dps_get {K : PySem.W.Frag} {F : Hp} : ∀ {ds : List D} {vs : List V} {i : Nat} {d : D}, DpAll K F vs ds → ds[i]? = some d → ∃ v, vs[i]? = some v ∧ Dp K F v d
  | [], _, _, _, _, e => by simp at e
  | _ :: ds, _, 0, d, h, e => by
    cases h with
    | cons h1 _ => simp at e; subst e; exact ⟨_, rfl, h1⟩
  | _ :: ds, _, i + 1, d, h, e => by
    cases h with
    | cons _ h2 =>
      obtain ⟨v, e1, e2⟩ := dps_get (i := i) h2 (by simpa using e)
      exact ⟨v, by simpa using e1, e2⟩
theorem dps_getV {K : PySem.W.Frag} {F : Hp} : ∀ {ds : List D} {vs : List V} {i : Nat} {v : V}, DpAll K F vs ds → vs[i]? = some v → ∃ d, ds[i]? = some d ∧ Dp K F v d
  | [], _, _, _, h, e => by cases h; simp at e
  | _ :: ds, _, 0, v, h, e => by
    cases h with
    | cons h1 _ => simp at e; subst e; exact ⟨_, rfl, h1⟩
  | _ :: ds, _, i + 1, v, h, e => by
    cases h with
    | cons _ h2 =>
      obtain ⟨d, e1, e2⟩ := dps_getV (i := i) h2 (by simpa using e)
      exact ⟨d, by simpa using e1, e2⟩
theorem dps_app {K : PySem.W.Frag} {F : Hp} : ∀ {ds es : List D} {vs ws : List V}, DpAll K F vs ds → DpAll K F ws es → DpAll K F (vs ++ ws) (ds ++ es)
  | [], _, _, _, h, k => by cases h; exact k
  | _ :: ds, _, _, _, h, k => by
    cases h with
    | cons h1 h2 => exact .cons h1 (dps_app h2 k)
theorem dps_set {K : PySem.W.Frag} {F : Hp} {d : D} {v : V} (q : Dp K F v d) : ∀ {ds : List D} {vs : List V} (i : Nat), DpAll K F vs ds → DpAll K F (vs.set i v) (ds.set i d)
  | [], _, _, h => by cases h; exact .nil
  | _ :: ds, _, 0, h => by
    cases h with
    | cons _ h2 => exact .cons q h2
  | _ :: ds, _, i + 1, h => by
    cases h with
    | cons h1 h2 => exact .cons h1 (dps_set q i h2)
theorem dps_take {K : PySem.W.Frag} {F : Hp} : ∀ {ds : List D} {vs : List V} (n : Nat), DpAll K F vs ds → DpAll K F (vs.take n) (ds.take n)
  | [], _, _, h => by cases h; simp; exact .nil
  | _ :: ds, _, 0, _ => by simp; exact .nil
  | _ :: ds, _, n + 1, h => by
    cases h with
    | cons h1 h2 => exact .cons h1 (dps_take n h2)
theorem dps_drop {K : PySem.W.Frag} {F : Hp} : ∀ {ds : List D} {vs : List V} (n : Nat), DpAll K F vs ds → DpAll K F (vs.drop n) (ds.drop n)
  | [], _, _, h => by cases h; simp; exact .nil
  | _ :: ds, _, 0, h => h
  | _ :: ds, _, n + 1, h => by
    cases h with
    | cons h1 h2 => exact dps_drop n h2
theorem dps_ints {K : PySem.W.Frag} {F : Hp} : ∀ (ns : List Int), DpAll K F (ns.map V.int) (ns.map PyData.int)
  | [] => .nil
  | n :: ns => .cons (.int n) (dps_ints ns)
/-! ### objects of one's own, slots, the state -/
inductive O where
  | lst (ds : List D)
  | dk (kvs : List (Key × D))
inductive Sl where
  | un
  | dat (d : D)
  | own (o : O)
  | par (o : O)
inductive Vw where
  | dat (d : D)
  | loc (i : Nat)
/-- values under keys -/
inductive KvAll (K : PySem.W.Frag) (F : Hp) : List (Key × V) → List (Key × D) → Prop
  | nil : KvAll K F [] []
  | cons {k : Key} {v : V} {d : D} {vs ds} : Dp K F v d → KvAll K F vs ds → KvAll K F ((k, v) :: vs) ((k, d) :: ds)
theorem kvE {K : PySem.W.Frag} {F H : Hp} (e : Ex F H) : ∀ {ds : List (Key × D)} {vs : List (Key × V)}, KvAll K F vs ds → KvAll K H vs ds
  | _, _, .nil => .nil
  | _, _, .cons h1 h2 => .cons (dpE e _ _ h1) (kvE e h2)
def OOk (K : PySem.W.Frag) (F H : Hp) (l : Addr) : O → Prop
  | .lst ds => ∃ vs, H l = some (.lst vs) ∧ DpAll K F vs ds
  | .dk kvs => ∃ ws, H l = some (.dK ws) ∧ KvAll K F ws kvs
theorem ooE {K : PySem.W.Frag} {F F' H H' : Hp} {l : Addr} {o : O} (e : Ex F F') (h : OOk K F H l o) (k : ∀ u, H l = some u → H' l = some u) : OOk K F' H' l o := by
  cases o with
  | lst ds => obtain ⟨vs, h1, h2⟩ := h; exact ⟨vs, k _ h1, dpsE e _ _ h2⟩
  | dk kvs => obtain ⟨vs, h1, h2⟩ := h; exact ⟨vs, k _ h1, kvE e h2⟩
theorem oo_some {K : PySem.W.Frag} {F H : Hp} {l : Addr} {o : O} (h : OOk K F H l o) : ∃ u, H l = some u := by
  cases o with
  | lst ds => obtain ⟨vs, h1, _⟩ := h; exact ⟨_, h1⟩
  | dk ds => obtain ⟨vs, h1, _⟩ := h; exact ⟨_, h1⟩
/-- what a def's run began with: the data's heap, the heap, where its own parameters' objects stand -/
structure Gh where
  K : PySem.W.Frag
  F0 : Hp
  H0 : Hp
  at_ : Nat → Option Addr
  ath : ∀ i l, at_ i = some l → ∃ u, H0 l = some u
def SlOk (g : Gh) (F H : Hp) (i : Nat) (ov : Option V) : Sl → Prop
  | .un => True
  | .dat d => ∃ v, ov = some v ∧ Dp g.K F v d
  | .own o => ∃ l, ov = some (.ref l) ∧ F l = none ∧ OOk g.K F H l o ∧ g.H0 l = none
  | .par o => ∃ l, ov = some (.ref l) ∧ F l = none ∧ OOk g.K F H l o ∧ g.at_ i = some l ∧ ∃ u, g.H0 l = some u
def isOwn : Sl → Bool
  | .own _ => true
  | .par _ => true
  | _ => false
structure Ok (g : Gh) (F H : Hp) (σ : St) (ρ : List Sl) : Prop where
  ff : Ex F H
  gf : Ex g.F0 F
  gh : ∀ a o, (∀ i, g.at_ i ≠ some a) → g.H0 a = some o → H a = some o
  nw : ∀ a o, F a = some o → g.F0 a = none → g.H0 a = none
  th : ∀ a o, g.H0 a = some o → ∃ o', H a = some o'
  len : ρ.length = σ.length
  sl : ∀ (i : Nat) (s : Sl) (ov : Option V), ρ[i]? = some s → σ[i]? = some ov → SlOk g F H i ov s
  dis : ∀ (i j : Nat) (s t : Sl) (l : Addr), ρ[i]? = some s → ρ[j]? = some t → isOwn s = true → isOwn t = true → σ[i]? = some (some (V.ref l)) → σ[j]? = some (some (V.ref l)) → i = j
section
variable {g : Gh} {F F' H H' : Hp} {σ : St} {ρ : List Sl}
theorem SlOk.mono {i : Nat} {ov : Option V} {s : Sl} (h : SlOk g F H i ov s) (e : Ex F F') (k : ∀ l u, F l = none → H l = some u → H' l = some u) (n : ∀ l u, H l = some u → F l = none → F' l = none) : SlOk g F' H' i ov s := by
  cases s with
  | un => trivial
  | dat d => obtain ⟨v, h1, h2⟩ := h; exact ⟨v, h1, dpE e _ _ h2⟩
  | own o =>
    obtain ⟨l, h1, h2, h3, h4⟩ := h
    obtain ⟨u, hu⟩ := oo_some h3
    exact ⟨l, h1, n l u hu h2, ooE e h3 fun u hu => k l u h2 hu, h4⟩
  | par o =>
    obtain ⟨l, h1, h2, h3, h4⟩ := h
    obtain ⟨u, hu⟩ := oo_some h3
    exact ⟨l, h1, n l u hu h2, ooE e h3 fun u hu => k l u h2 hu, h4⟩
/-- both heaps grow by new objects -/
theorem Ok.grow (k : Ok g F H σ ρ) (e : Ex F F') (f : Ex F' H') (h : Ex H H') (n : ∀ a o, F' a = some o → F a = none → H a = none) : Ok g F' H' σ ρ where
  ff := f
  gf := k.gf.trans e
  gh := fun a o q r => h a o (k.gh a o q r)
  nw := fun a o q r => by
    cases w : F a with
    | some u => exact k.nw a u w r
    | none =>
      cases z : g.H0 a with
      | none => rfl
      | some u =>
        obtain ⟨o', e'⟩ := k.th a u z
        rw [n a o q w] at e'; cases e'
  th := fun a o q => by
    obtain ⟨o', e'⟩ := k.th a o q
    exact ⟨o', h a o' e'⟩
  len := k.len
  sl := fun i s ov q r => (k.sl i s ov q r).mono e (fun l u _ z => h l u z) fun l u z w => by
    cases q : F' l with
    | none => rfl
    | some o => rw [n l o q w] at z; cases z
  dis := k.dis
/-- a new object, data -/
theorem Ok.newD (k : Ok g F H σ ρ) {p : Addr} {o : HO} (hp : H p = none) : Ex F (upd F p o) ∧ Ok g (upd F p o) (upd H p o) σ ρ :=
  ⟨Ex.new (k.ff.free hp), k.grow (Ex.new (k.ff.free hp)) (k.ff.both hp) (Ex.new hp) fun a u q n => by
    by_cases ha : a = p
    · subst ha; exact hp
    · rw [upd_ne ha, n] at q; cases q⟩
/-- a new object that is not data (yet) -/
theorem Ok.newH (k : Ok g F H σ ρ) {p : Addr} {o : HO} (hp : H p = none) : Ok g F (upd H p o) σ ρ :=
  k.grow (Ex.refl F) (k.ff.trans (Ex.new hp)) (Ex.new hp) fun a u q n => by rw [n] at q; cases q
theorem Ok.fresh (k : Ok g F H σ ρ) {p : Addr} (hp : H p = none) : g.H0 p = none := by
  cases q : g.H0 p with
  | none => rfl
  | some o =>
    obtain ⟨o', e⟩ := k.th p o q
    rw [e] at hp; cases hp
theorem get_set {α : Type} {l : List α} {i j : Nat} {x y : α} (h : (l.set i x)[j]? = some y) : (j = i ∧ y = x ∧ i < l.length) ∨ (j ≠ i ∧ l[j]? = some y) := by
  rw [List.getElem?_set] at h
  by_cases e : i = j
  · subst e
    rw [if_pos rfl] at h
    split at h
    · exact .inl ⟨rfl, (Option.some.inj h).symm, by assumption⟩
    · cases h
  · rw [if_neg e] at h
    exact .inr ⟨fun z => e z.symm, h⟩
/-- a slot gets data -/
theorem Ok.setD (k : Ok g F H σ ρ) {i : Nat} {v : V} {d : D} (h : Dp g.K F v d) : Ok g F H (σ.set i (some v)) (ρ.set i (.dat d)) where
  ff := k.ff
  gf := k.gf
  gh := k.gh
  nw := k.nw
  th := k.th
  len := by simp [k.len]
  sl := fun j s ov q r => by
    rcases get_set q with ⟨rfl, rfl, _⟩ | ⟨h1, h2⟩
    · rcases get_set r with ⟨_, rfl, _⟩ | ⟨h3, _⟩
      · exact ⟨v, rfl, h⟩
      · exact absurd rfl h3
    · rcases get_set r with ⟨h3, _⟩ | ⟨_, h4⟩
      · exact absurd h3 h1
      · exact k.sl j s ov h2 h4
  dis := fun a b s t l q r hs ht w z => by
    rcases get_set q with ⟨rfl, rfl, _⟩ | ⟨h1, h2⟩
    · cases hs
    · rcases get_set r with ⟨rfl, rfl, _⟩ | ⟨h3, h4⟩
      · cases ht
      · rcases get_set w with ⟨h5, _⟩ | ⟨_, h5⟩
        · exact absurd h5 h1
        · rcases get_set z with ⟨h6, _⟩ | ⟨_, h6⟩
          · exact absurd h6 h3
          · exact k.dis a b s t l h2 h4 hs ht h5 h6
/-- a slot gets a new object of one's own -/
theorem Ok.setO (k : Ok g F H σ ρ) {i : Nat} {p : Addr} {u : HO} {o : O} (hp : H p = none) (ho : OOk g.K F (upd H p u) p o) : Ok g F (upd H p u) (σ.set i (some (.ref p))) (ρ.set i (.own o)) := by
  have k1 := k.newH (o := u) hp
  have ne : ∀ (j : Nat) (s : Sl) (l : Addr), ρ[j]? = some s → isOwn s = true → σ[j]? = some (some (.ref l)) → l ≠ p := fun j s l q hs w z => by
    have hsl := k.sl j s _ q w
    subst z
    cases s with
    | un => cases hs
    | dat d => cases hs
    | own o =>
      obtain ⟨l', h1, _, h3, _⟩ := hsl
      cases h1
      obtain ⟨u, hu⟩ := oo_some h3
      rw [hp] at hu; cases hu
    | par o =>
      obtain ⟨l', h1, _, h3, _⟩ := hsl
      cases h1
      obtain ⟨u, hu⟩ := oo_some h3
      rw [hp] at hu; cases hu
  refine ⟨k1.ff, k1.gf, k1.gh, k1.nw, k1.th, by simp [k.len], fun j s ov q r => ?_, fun a b s t l q r hs ht w z => ?_⟩
  · rcases get_set q with ⟨rfl, rfl, _⟩ | ⟨h1, h2⟩
    · rcases get_set r with ⟨_, rfl, _⟩ | ⟨h3, _⟩
      · exact ⟨p, rfl, k.ff.free hp, ho, k.fresh hp⟩
      · exact absurd rfl h3
    · rcases get_set r with ⟨h3, _⟩ | ⟨_, h4⟩
      · exact absurd h3 h1
      · exact k1.sl j s ov h2 h4
  · rcases get_set q with ⟨rfl, rfl, _⟩ | ⟨h1, h2⟩
    · rcases get_set w with ⟨_, e, _⟩ | ⟨h3, _⟩
      · cases e
        rcases get_set r with ⟨rfl, _⟩ | ⟨h3, h4⟩
        · rfl
        · rcases get_set z with ⟨h5, _⟩ | ⟨_, h5⟩
          · exact absurd h5 h3
          · exact absurd rfl (ne b t p h4 ht h5)
      · exact absurd rfl h3
    · rcases get_set w with ⟨h5, _⟩ | ⟨_, h5⟩
      · exact absurd h5 h1
      · rcases get_set r with ⟨rfl, _⟩ | ⟨h3, h4⟩
        · rcases get_set z with ⟨_, e, _⟩ | ⟨h6, _⟩
          · cases e
            exact absurd rfl (ne a s p h2 hs h5)
          · exact absurd rfl h6
        · rcases get_set z with ⟨h6, _⟩ | ⟨_, h6⟩
          · exact absurd h6 h3
          · exact k.dis a b s t l h2 h4 hs ht h5 h6
/-- where a slot's own object stands -/
theorem Ok.at (k : Ok g F H σ ρ) {i : Nat} {s : Sl} (h : ρ[i]? = some s) : ∃ ov, σ[i]? = some ov ∧ SlOk g F H i ov s := by
  have hi : i < σ.length := by rw [← k.len]; exact (List.getElem?_eq_some_iff.mp h).1
  exact ⟨σ[i], by simp [hi], k.sl i s _ h (by simp [hi])⟩
/-- the content of a slot's own object is changed -/
theorem Ok.mutO (k : Ok g F H σ ρ) {i : Nat} {l : Addr} {s s' : Sl} {u : HO} {o' : O} (hs : ρ[i]? = some s) (hv : σ[i]? = some (some (.ref l)))
    (he : (∃ o, s = .own o ∧ s' = .own o') ∨ (∃ o, s = .par o ∧ s' = .par o')) (ho : OOk g.K F (upd H l u) l o') : Ok g F (upd H l u) σ (ρ.set i s') := by
  have own : isOwn s = true := by rcases he with ⟨o, rfl, _⟩ | ⟨o, rfl, _⟩ <;> rfl
  have own' : isOwn s' = true := by rcases he with ⟨o, _, rfl⟩ | ⟨o, _, rfl⟩ <;> rfl
  have hsl := k.sl i s _ hs hv
  have hFl : F l = none := by
    rcases he with ⟨o, rfl, _⟩ | ⟨o, rfl, _⟩
    · obtain ⟨l', h1, h2, _⟩ := hsl; cases h1; exact h2
    · obtain ⟨l', h1, h2, _⟩ := hsl; cases h1; exact h2
  have hHl : ∃ u, H l = some u := by
    rcases he with ⟨o, rfl, _⟩ | ⟨o, rfl, _⟩
    · obtain ⟨l', h1, _, h3, _⟩ := hsl; cases h1; exact oo_some h3
    · obtain ⟨l', h1, _, h3, _⟩ := hsl; cases h1; exact oo_some h3
  refine ⟨k.ff.mut hFl, k.gf, fun a o q r => ?_, k.nw, fun a o q => ?_, by simp [k.len], fun j t ov q r => ?_, fun a b t w m q r ht hw y z => ?_⟩
  · have ne : a ≠ l := by
      rintro rfl
      rcases he with ⟨o, rfl, _⟩ | ⟨o, rfl, _⟩
      · obtain ⟨l', h1, _, _, h4⟩ := hsl; cases h1; rw [h4] at r; cases r
      · obtain ⟨l', h1, _, _, h4, _⟩ := hsl; cases h1; exact q i h4
    rw [upd_ne ne]; exact k.gh a o q r
  · by_cases ha : a = l
    · subst ha; exact ⟨u, upd_same⟩
    · obtain ⟨o', e⟩ := k.th a o q
      exact ⟨o', by rw [upd_ne ha]; exact e⟩
  · rcases get_set q with ⟨rfl, rfl, _⟩ | ⟨h1, h2⟩
    · rw [hv] at r; cases r
      rcases he with ⟨o, rfl, rfl⟩ | ⟨o, rfl, rfl⟩
      · obtain ⟨l', h1, h2, h3, h4⟩ := hsl; cases h1; exact ⟨l, rfl, hFl, ho, h4⟩
      · obtain ⟨l', h1, h2, h3, h4⟩ := hsl; cases h1; exact ⟨l, rfl, hFl, ho, h4⟩
    · have old := k.sl j t ov h2 r
      cases t with
      | un => trivial
      | dat d => exact old
      | own o =>
        obtain ⟨m, e1, e2, e3, e4⟩ := old
        have ne : m ≠ l := by
          rintro rfl
          subst e1
          exact h1 (k.dis j i _ s m h2 hs rfl own r hv)
        exact ⟨m, e1, e2, ooE (Ex.refl F) e3 fun w hw => by rw [upd_ne ne]; exact hw, e4⟩
      | par o =>
        obtain ⟨m, e1, e2, e3, e4⟩ := old
        have ne : m ≠ l := by
          rintro rfl
          subst e1
          exact h1 (k.dis j i _ s m h2 hs rfl own r hv)
        exact ⟨m, e1, e2, ooE (Ex.refl F) e3 fun w hw => by rw [upd_ne ne]; exact hw, e4⟩
  · have t1 : ∃ t', ρ[a]? = some t' ∧ isOwn t' = true := by
      rcases get_set q with ⟨rfl, rfl, _⟩ | ⟨_, h2⟩
      · exact ⟨s, hs, own⟩
      · exact ⟨t, h2, ht⟩
    have t2 : ∃ t', ρ[b]? = some t' ∧ isOwn t' = true := by
      rcases get_set r with ⟨rfl, rfl, _⟩ | ⟨_, h2⟩
      · exact ⟨s, hs, own⟩
      · exact ⟨w, h2, hw⟩
    obtain ⟨t', e1, e2⟩ := t1
    obtain ⟨w', e3, e4⟩ := t2
    exact k.dis a b t' w' m e1 e3 e2 e4 y z
/-- a slot's own list becomes data -/
theorem Ok.freeze (k : Ok g F H σ ρ) {i : Nat} {ds : List D} (hs : ρ[i]? = some (.own (.lst ds))) :
    ∃ l F', σ[i]? = some (some (.ref l)) ∧ Ex F F' ∧ Dp g.K F' (.ref l) (.list ds) ∧ Ok g F' H σ (ρ.set i (.dat (.list ds))) := by
  obtain ⟨ov, hv, l, rfl, hF, ⟨vs, h1, h2⟩, h4⟩ := k.at hs
  have e : Ex F (upd F l (.lst vs)) := Ex.new hF
  have hd : Dp g.K (upd F l (.lst vs)) (.ref l) (.list ds) := .lst (.inl (.inl upd_same)) (dpsE e _ _ h2)
  refine ⟨l, _, hv, e, hd, ⟨fun a o q => ?_, k.gf.trans e, k.gh, fun a o q r => ?_, k.th, by simp [k.len], fun j t ov q r => ?_, fun a b t w m q r ht hw y z => ?_⟩⟩
  · by_cases ha : a = l
    · subst ha; rw [upd_same] at q; cases q; exact h1
    · rw [upd_ne ha] at q; exact k.ff a o q
  · by_cases ha : a = l
    · subst ha; exact h4
    · rw [upd_ne ha] at q; exact k.nw a o q r
  · rcases get_set q with ⟨rfl, rfl, _⟩ | ⟨ne, h2⟩
    · rw [hv] at r; cases r; exact ⟨_, rfl, hd⟩
    · have old := k.sl j t ov h2 r
      cases t with
      | un => trivial
      | dat d => obtain ⟨v, e1, e2⟩ := old; exact ⟨v, e1, dpE e _ _ e2⟩
      | own o =>
        obtain ⟨m, e1, e2, e3, e4⟩ := old
        have nm : m ≠ l := by
          rintro rfl
          subst e1
          exact ne (k.dis j i _ _ m h2 hs rfl rfl r hv)
        exact ⟨m, e1, by rw [upd_ne nm]; exact e2, ooE e e3 fun _ z => z, e4⟩
      | par o =>
        obtain ⟨m, e1, e2, e3, e4⟩ := old
        have nm : m ≠ l := by
          rintro rfl
          subst e1
          exact ne (k.dis j i _ _ m h2 hs rfl rfl r hv)
        exact ⟨m, e1, by rw [upd_ne nm]; exact e2, ooE e e3 fun _ z => z, e4⟩
  · rcases get_set q with ⟨rfl, rfl, _⟩ | ⟨_, h3⟩
    · cases ht
    · rcases get_set r with ⟨rfl, rfl, _⟩ | ⟨_, h5⟩
      · cases hw
      · exact k.dis a b t w m h3 h5 ht hw y z
/-- forgetting a slot -/
theorem Ok.drop (k : Ok g F H σ ρ) (i : Nat) : Ok g F H σ (ρ.set i .un) where
  ff := k.ff
  gf := k.gf
  gh := k.gh
  nw := k.nw
  th := k.th
  len := by simp [k.len]
  sl := fun j s ov q r => by
    rcases get_set q with ⟨rfl, rfl, _⟩ | ⟨h1, h2⟩
    · trivial
    · exact k.sl j s ov h2 r
  dis := fun a b s t l q r hs ht w z => by
    rcases get_set q with ⟨rfl, rfl, _⟩ | ⟨h1, h2⟩
    · cases hs
    · rcases get_set r with ⟨rfl, rfl, _⟩ | ⟨h3, h4⟩
      · cases ht
      · exact k.dis a b s t l h2 h4 hs ht w z
/-- both forget a slot -/
theorem Ok.wipe1 (k : Ok g F H σ ρ) (i : Nat) : Ok g F H (σ.set i none) (ρ.set i .un) where
  ff := k.ff
  gf := k.gf
  gh := k.gh
  nw := k.nw
  th := k.th
  len := by simp [k.len]
  sl := fun j s ov q r => by
    rcases get_set q with ⟨rfl, rfl, _⟩ | ⟨h1, h2⟩
    · trivial
    · rcases get_set r with ⟨h3, _⟩ | ⟨_, h4⟩
      · exact absurd h3 h1
      · exact k.sl j s ov h2 h4
  dis := fun a b s t l q r hs ht w z => by
    rcases get_set q with ⟨rfl, rfl, _⟩ | ⟨h1, h2⟩
    · cases hs
    · rcases get_set r with ⟨rfl, rfl, _⟩ | ⟨h3, h4⟩
      · cases ht
      · rcases get_set w with ⟨h5, _⟩ | ⟨_, h5⟩
        · exact absurd h5 h1
        · rcases get_set z with ⟨h6, _⟩ | ⟨_, h6⟩
          · exact absurd h6 h3
          · exact k.dis a b s t l h2 h4 hs ht h5 h6
/-! ### a part of a run, seen from its own start -/
open Classical in
noncomputable def subH (H : Hp) (σ : St) (ρ : List Sl) : Hp := fun a => if (∃ (i : Nat) (o : O), ρ[i]? = some (.own o) ∧ σ[i]? = some (some (V.ref a))) then none else H a
theorem subH_some {a : Addr} {o : HO} (h : subH H σ ρ a = some o) : H a = some o ∧ ∀ (i : Nat) (o : O), ρ[i]? = some (.own o) → σ[i]? ≠ some (some (V.ref a)) := by
  unfold subH at h
  split at h
  · cases h
  · rename_i n
    exact ⟨h, fun i o q r => n ⟨i, o, q, r⟩⟩
theorem subH_none {a : Addr} (h : subH H σ ρ a = none) : H a = none ∨ ∃ (i : Nat) (o : O), ρ[i]? = some (.own o) ∧ σ[i]? = some (some (V.ref a)) := by
  unfold subH at h
  split at h
  · exact .inr (by assumption)
  · exact .inl h
theorem subH_of {a : Addr} {o : HO} (h : H a = some o) (n : ∀ (i : Nat) (o : O), ρ[i]? = some (.own o) → σ[i]? ≠ some (some (V.ref a))) : subH H σ ρ a = some o := by
  unfold subH
  rw [if_neg (fun ⟨i, o, q, r⟩ => n i o q r)]
  exact h
theorem Ok.atN (k : Ok g F H σ ρ) {i : Nat} {l : Addr} (h : g.at_ i = some l) : ∀ (j : Nat) (o : O), ρ[j]? = some (.own o) → σ[j]? ≠ some (some (V.ref l)) := fun j o q r => by
  obtain ⟨l', e1, _, _, e4⟩ := k.sl j _ _ q r
  cases e1
  obtain ⟨u, hu⟩ := g.ath i l h
  rw [e4] at hu; cases hu
noncomputable def Ok.sub (k : Ok g F H σ ρ) : Gh := ⟨g.K, F, subH H σ ρ, g.at_, fun i l h => by
  obtain ⟨u, hu⟩ := g.ath i l h
  obtain ⟨o', e⟩ := k.th l u hu
  exact ⟨o', subH_of e (k.atN h)⟩⟩
theorem Ok.subOk (k : Ok g F H σ ρ) : Ok k.sub F H σ ρ where
  ff := k.ff
  gf := Ex.refl F
  gh := fun a o _ r => (subH_some r).1
  nw := fun a o q r => by
    have r : F a = none := r
    rw [r] at q; cases q
  th := fun a o r => ⟨o, (subH_some r).1⟩
  len := k.len
  sl := fun i s ov q r => by
    have old := k.sl i s ov q r
    cases s with
    | un => trivial
    | dat d => exact old
    | own o =>
      obtain ⟨l, e1, e2, e3, e4⟩ := old
      subst e1
      refine ⟨l, rfl, e2, e3, ?_⟩
      show subH H σ ρ l = none
      unfold subH
      rw [if_pos ⟨i, o, q, r⟩]
    | par o =>
      obtain ⟨l, e1, e2, e3, e4, e5⟩ := old
      obtain ⟨u, hu⟩ := oo_some e3
      exact ⟨l, e1, e2, e3, e4, u, subH_of hu (k.atN e4)⟩
  dis := k.dis
theorem Ok.back {σ' : St} {ρ' : List Sl} (k : Ok g F H σ ρ) (q : Ok k.sub F' H' σ' ρ') : Ok g F' H' σ' ρ' where
  ff := q.ff
  gf := k.gf.trans q.gf
  gh := fun a o n r => q.gh a o n (subH_of (k.gh a o n r) fun i o' w z => by
    obtain ⟨l, e1, _, _, e4⟩ := k.sl i _ _ w z
    cases e1
    rw [r] at e4; cases e4)
  nw := fun a o r n => by
    cases w : F a with
    | some u => exact k.nw a u w n
    | none =>
      have z : subH H σ ρ a = none := q.nw a o r w
      rcases subH_none z with z | ⟨i, o', z1, z2⟩
      · exact k.fresh z
      · obtain ⟨l, e1, _, _, e4⟩ := k.sl i _ _ z1 z2
        cases e1
        exact e4
  th := fun a o r => by
    obtain ⟨o', e⟩ := k.th a o r
    exact q.th a o' (subH_of e fun i o' w z => by
      obtain ⟨l, e1, _, _, e4⟩ := k.sl i _ _ w z
      cases e1
      rw [r] at e4; cases e4)
  len := q.len
  sl := fun i s ov w z => by
    have old := q.sl i s ov w z
    cases s with
    | un => trivial
    | dat d => exact old
    | own o =>
      obtain ⟨l, e1, e2, e3, e4⟩ := old
      refine ⟨l, e1, e2, e3, ?_⟩
      rcases subH_none e4 with z | ⟨i, o', z1, z2⟩
      · exact k.fresh z
      · obtain ⟨l, e1, _, _, e4⟩ := k.sl i _ _ z1 z2
        cases e1
        exact e4
    | par o =>
      obtain ⟨l, e1, e2, e3, e4, e5⟩ := old
      exact ⟨l, e1, e2, e3, e4, g.ath i l e4⟩
  dis := q.dis
/-- an object of no slot: it stays -/
theorem Ok.stay {σ' : St} {ρ' : List Sl} (k : Ok g F H σ ρ) (q : Ok k.sub F' H' σ' ρ') {a : Addr} {o : HO} (ha : H a = some o) (hF : F a = none) (n : ∀ (i : Nat) (o : O), ρ[i]? = some (.own o) → σ[i]? ≠ some (some (V.ref a))) (m : ∀ i, g.at_ i ≠ some a) :
    H' a = some o ∧ F' a = none ∧ ∀ (i : Nat) (o : O), ρ'[i]? = some (.own o) → σ'[i]? ≠ some (some (V.ref a)) := by
  have hs := subH_of ha n
  refine ⟨q.gh a o m hs, ?_, fun i o' w z => ?_⟩
  · cases r : F' a with
    | none => rfl
    | some u =>
      have z : subH H σ ρ a = none := q.nw a u r hF
      rw [hs] at z; cases z
  · obtain ⟨l, e1, _, _, e4⟩ := q.sl i _ _ w z
    cases e1
    have z : subH H σ ρ a = none := e4
    rw [hs] at z; cases z
/-- an object of no slot becomes data -/
theorem Ok.take (k : Ok g F H σ ρ) {a : Addr} {vs : List V} {ds : List D} (ha : H a = some (.lst vs)) (hF : F a = none) (hds : DpAll g.K F vs ds) (h0 : g.H0 a = none) (n : ∀ (i : Nat) (o : O), ρ[i]? = some (.own o) → σ[i]? ≠ some (some (V.ref a))) (m : ∀ i, g.at_ i ≠ some a) :
    Ex F (upd F a (.lst vs)) ∧ Ok g (upd F a (.lst vs)) H σ ρ ∧ Dp g.K (upd F a (.lst vs)) (.ref a) (.list ds) := by
  have e : Ex F (upd F a (.lst vs)) := Ex.new hF
  refine ⟨e, ⟨fun b o q => ?_, k.gf.trans e, k.gh, fun b o q r => ?_, k.th, k.len, fun j t ov q r => ?_, k.dis⟩, .lst (.inl (.inl upd_same)) (dpsE e _ _ hds)⟩
  · by_cases hb : b = a
    · subst hb; rw [upd_same] at q; cases q; exact ha
    · rw [upd_ne hb] at q; exact k.ff b o q
  · by_cases hb : b = a
    · subst hb; exact h0
    · rw [upd_ne hb] at q; exact k.nw b o q r
  · have old := k.sl j t ov q r
    cases t with
    | un => trivial
    | dat d => obtain ⟨v, e1, e2⟩ := old; exact ⟨v, e1, dpE e _ _ e2⟩
    | own o =>
      obtain ⟨l, e1, e2, e3, e4⟩ := old
      have nl : l ≠ a := by
        rintro rfl
        subst e1
        exact n j o q r
      exact ⟨l, e1, by rw [upd_ne nl]; exact e2, ooE e e3 fun _ z => z, e4⟩
    | par o =>
      obtain ⟨l, e1, e2, e3, e4, e5⟩ := old
      have nl : l ≠ a := by
        rintro rfl
        exact m j e4
      exact ⟨l, e1, by rw [upd_ne nl]; exact e2, ooE e e3 fun _ z => z, e4, e5⟩
/-- other values in the slots that hold nothing -/
theorem Ok.slots {σ' : St} {ρ' : List Sl} (k : Ok g F H σ ρ) (hl : ρ'.length = σ'.length) (h : ∀ (i : Nat) (s : Sl), ρ'[i]? = some s → s = .un ∨ (ρ[i]? = some s ∧ σ'[i]? = σ[i]?)) : Ok g F H σ' ρ' where
  ff := k.ff
  gf := k.gf
  gh := k.gh
  nw := k.nw
  th := k.th
  len := hl
  sl := fun i s ov q r => by
    rcases h i s q with rfl | ⟨h1, h2⟩
    · trivial
    · exact k.sl i s ov h1 (by rw [← h2]; exact r)
  dis := fun a b s t l q r hs ht w z => by
    rcases h a s q with rfl | ⟨h1, h2⟩
    · cases hs
    · rcases h b t r with rfl | ⟨h3, h4⟩
      · cases ht
      · exact k.dis a b s t l h1 h3 hs ht (by rw [← h2]; exact w) (by rw [← h4]; exact z)
def wipeS (ρ : List Sl) : List Nat → List Sl
  | [] => ρ
  | v :: vs => (wipeS ρ vs).set v .un
theorem wipeS_length (ρ : List Sl) : ∀ vs : List Nat, (wipeS ρ vs).length = ρ.length
  | [] => rfl
  | v :: vs => by unfold wipeS; rw [List.length_set, wipeS_length ρ vs]
theorem wipeS_get {ρ : List Sl} {i : Nat} {s : Sl} : ∀ {vs : List Nat}, (wipeS ρ vs)[i]? = some s → s = .un ∨ (ρ[i]? = some s ∧ i ∉ vs)
  | [], h => .inr ⟨h, by simp⟩
  | v :: vs, h => by
    unfold wipeS at h
    rcases get_set h with ⟨_, rfl, _⟩ | ⟨h1, h2⟩
    · exact .inl rfl
    · rcases wipeS_get h2 with e | ⟨h3, h4⟩
      · exact .inl e
      · exact .inr ⟨h3, by simp only [List.mem_cons, not_or]; exact ⟨h1, h4⟩⟩
theorem Ok.wiped (k : Ok g F H σ ρ) (vs : List Nat) : Ok g F H (wipe σ vs) (wipeS ρ vs) :=
  k.slots (by rw [wipeS_length, wipe_length]; exact k.len) fun i s h => (wipeS_get h).imp id fun h => ⟨h.1, wipe_out h.2⟩
theorem Ok.unwiped {vs : List Nat} (k : Ok g F H (wipe σ vs) ρ) : Ok g F H σ (wipeS ρ vs) :=
  k.slots (by rw [wipeS_length, k.len, wipe_length]) fun i s h => (wipeS_get h).imp id fun h => ⟨h.1, (wipe_out h.2).symm⟩
theorem wipe_set {σ : St} {x : Option V} {i : Nat} : ∀ {vs : List Nat}, i ∈ vs → wipe (σ.set i x) vs = wipe σ vs
  | [], h => by cases h
  | v :: vs, h => by
    unfold wipe
    by_cases hi : i ∈ vs
    · rw [wipe_set hi]
    · have e : i = v := by
        rcases List.mem_cons.mp h with e | e
        · exact e
        · exact absurd e hi
      subst e
      apply List.ext_getElem?
      intro j
      by_cases hj : i = j
      · subst hj
        rw [List.getElem?_set, List.getElem?_set, if_pos rfl, if_pos rfl, wipe_length, wipe_length, List.length_set]
      · rw [List.getElem?_set_ne hj, List.getElem?_set_ne hj]
        by_cases hjv : j ∈ vs
        · have h1 : ∀ (τ : St), (wipe τ vs)[j]? = if j < τ.length then some none else none := by
            intro τ
            cases q : (wipe τ vs)[j]? with
            | none =>
              have := List.getElem?_eq_none_iff.mp q
              rw [wipe_length] at this
              rw [if_neg (by omega)]
            | some z =>
              have hlt := (List.getElem?_eq_some_iff.mp q).1
              rw [wipe_length] at hlt
              rw [if_pos hlt]
              cases z with
              | none => rfl
              | some x => exact absurd hjv (wipe_some q).2
          rw [h1, h1, List.length_set]
        · rw [wipe_out hjv, wipe_out hjv, List.getElem?_set_ne hj]
theorem wipe_idem (σ : St) : ∀ (vs ws : List Nat), (∀ i ∈ ws, i ∈ vs) → wipe (wipe σ ws) vs = wipe σ vs
  | vs, [], _ => rfl
  | vs, w :: ws, h => by
    show wipe ((wipe σ ws).set w none) vs = wipe σ vs
    rw [wipe_set (h w List.mem_cons_self), wipe_idem σ vs ws fun i hi => h i (List.mem_cons_of_mem _ hi)]
end
end Dat
namespace Dat
open PySem L2
/-! ### results -/
inductive Rs (α : Type) where
  | ok (a : α)
  | er (c : Nat)
abbrev M (α : Type) := List Sl → Option (Rs α × List Sl)
def mRet {α : Type} (a : α) : M α := fun ρ => some (.ok a, ρ)
def mBind {α β : Type} (m : M α) (f : α → M β) : M β := fun ρ => match m ρ with
  | none => none
  | some (.er c, ρ') => some (.er c, ρ')
  | some (.ok a, ρ') => f a ρ'
def mLift {α : Type} (o : Option α) : M α := fun ρ => match o with
  | none => none
  | some a => some (.ok a, ρ)
inductive Fl where
  | nx | bk | ct
  | rt (d : D)
  | er (c : Nat)
abbrev MS := List Sl → Option (Fl × List Sl)
def VwOk (g : Gh) (σ : St) (F : Hp) (v : V) : Vw → Prop
  | .dat d => Dp g.K F v d
  | .loc i => σ[i]? = some (some v)
theorem VwOk.mono {g : Gh} {σ : St} {F F' : Hp} {v : V} {w : Vw} (h : VwOk g σ F v w) (e : Ex F F') : VwOk g σ F' v w := by
  cases w with
  | dat d => exact dpE e _ _ h
  | loc i => exact h
def VwsOk (g : Gh) (σ : St) (F : Hp) : List V → List Vw → Prop
  | [], [] => True
  | v :: vs, w :: ws => VwOk g σ F v w ∧ VwsOk g σ F vs ws
  | _, _ => False
theorem VwsOk.mono {g : Gh} {σ : St} {F F' : Hp} (e : Ex F F') : ∀ {vs : List V} {ws : List Vw}, VwsOk g σ F vs ws → VwsOk g σ F' vs ws
  | [], [], _ => trivial
  | _ :: _, _ :: _, h => ⟨h.1.mono e, VwsOk.mono e h.2⟩
  | [], _ :: _, h => h.elim
  | _ :: _, [], h => h.elim
abbrev EWT := Nat → Hp → Prop
def EW0 : EWT := fun _ _ => False
/-- from here the code t does what m tells -/
def At (EW : EWT) (g : Gh) (F : Hp) (H : Hp) (σ : St) {α β : Type} (R : Hp → α → β → Prop) (t : Hp → (α → Hp → Prop) → Prop) (m : Option (Rs β × List Sl)) : Prop :=
  ∀ r ρ', m = some (r, ρ') → ∀ Q : α → Hp → Prop, (∀ F' H', Ex F F' → Ok g F' H' σ ρ' → match r with
    | .ok b => ∀ a, R F' a b → Q a H'
    | .er c => EW c H') → t H Q
section
variable {EW : EWT} {g : Gh} {F H : Hp} {σ : St} {ρ : List Sl} {α β γ δ : Type}
theorem At.bind {R1 : Hp → α → β → Prop} {R2 : Hp → γ → δ → Prop} {t : Hp → (α → Hp → Prop) → Prop} {k : α → Hp → (γ → Hp → Prop) → Prop} {m : M β} {mk : β → M δ} (h : At EW g F H σ R1 t (m ρ))
    (hk : ∀ F' H' ρ' a b, Ex F F' → Ok g F' H' σ ρ' → R1 F' a b → At EW g F' H' σ R2 (k a) (mk b ρ')) : At EW g F H σ R2 (fun H Q => t H fun a H1 => k a H1 Q) (mBind m mk ρ) := by
  intro r ρ' e Q q
  unfold mBind at e
  cases hm : m ρ with
  | none => rw [hm] at e; cases e
  | some p =>
    obtain ⟨r1, ρ1⟩ := p
    rw [hm] at e
    cases r1 with
    | er c =>
      cases e
      exact h _ _ hm _ fun F' H' ex ok => q F' H' ex ok
    | ok b =>
      refine h _ _ hm _ fun F' H' ex ok a ra => ?_
      exact hk F' H' ρ1 a b ex ok ra r ρ' e Q fun F2 H2 ex2 ok2 => q F2 H2 (ex.trans ex2) ok2
theorem At.ret {R : Hp → α → β → Prop} {a : α} {b : β} {t : Hp → (α → Hp → Prop) → Prop} (ok : Ok g F H σ ρ) (h : R F a b) (ht : ∀ Q : α → Hp → Prop, Q a H → t H Q) : At EW g F H σ R t (mRet b ρ) := by
  intro r ρ' e Q q
  cases e
  exact ht Q (q F H (Ex.refl F) ok a h)
theorem At.lift {R : Hp → α → β → Prop} {o : Option γ} {f : γ → M β} {t : Hp → (α → Hp → Prop) → Prop} (h : ∀ c, o = some c → At EW g F H σ R t (f c ρ)) : At EW g F H σ R t (mBind (mLift o) f ρ) := by
  intro r ρ' e Q q
  unfold mBind mLift at e
  cases o with
  | none => cases e
  | some c => exact h c rfl r ρ' e Q q
end
/-! ### judgements: a piece of text, its reading, its mirror -/
structure QE (X : Cx) (EW : EWT) (e : Expr) (t : TE) (m : M Vw) : Prop where
  pe : PE X e t
  sm : ∀ g F H σ ρ, g.K = X.K → Ok g F H σ ρ → At EW g F H σ (VwOk g σ) (t σ) (m ρ)
structure QT (X : Cx) (EW : EWT) (e : Expr) (t : TT) (m : M Bool) : Prop where
  pt : PT X e t
  sm : ∀ g F H σ ρ, g.K = X.K → Ok g F H σ ρ → At EW g F H σ (fun _ (a b : Bool) => a = b) (t σ) (m ρ)
structure QW (X : Cx) (EW : EWT) (e : Expr) (t : TT) (m : M Bool) : Prop where
  pw : PW X e t
  sm : ∀ g F H σ ρ, g.K = X.K → Ok g F H σ ρ → At EW g F H σ (fun _ (a b : Bool) => a = b) (t σ) (m ρ)
structure QA (X : Cx) (EW : EWT) (es : List Expr) (t : TA) (m : M (List Vw)) : Prop where
  pa : PA X es t
  sm : ∀ g F H σ ρ, g.K = X.K → Ok g F H σ ρ → At EW g F H σ (VwsOk g σ) (t σ) (m ρ)
def SmS (K : PySem.W.Frag) (EW : EWT) (t : TS) (m : MS) : Prop :=
  ∀ g F H σ ρ, g.K = K → Ok g F H σ ρ → ∀ r ρ', m ρ = some (r, ρ') → ∀ D : Ends, (∀ F' H' σ', Ex F F' → Ok g F' H' σ' ρ' → match r with
    | .nx => D.nx σ' H'
    | .bk => D.bk σ' H'
    | .ct => D.ct σ' H'
    | .rt d => ∀ v, Dp g.K F' v d → D.rt v H'
    | .er c => EW c H') → t D σ H
structure QS (X : Cx) (EW : EWT) (s : Stmt) (t : TS) (m : MS) : Prop where
  ps : PS X s t
  sm : SmS X.K EW t m
structure QSs (X : Cx) (EW : EWT) (s : List Stmt) (t : TS) (m : MS) : Prop where
  ps : PSs X s t
  sm : SmS X.K EW t m
/-- n turns that give just these data -/
def Wk (K : PySem.W.Frag) (F : Hp) (J : It) (ds : List D) : Prop :=
  (∀ i H, i < ds.length → Ex F H → J.go i H) ∧ (∀ H, Ex F H → J.stop ds.length H) ∧
    ∀ i H x H', i < ds.length → Ex F H → J.yld i H x H' → ∃ d, ds[i]? = some d ∧
      ((H' = H ∧ Dp K F x d) ∨ ∃ T vs es, x = .ref T ∧ H T = none ∧ H' = upd H T (.tup vs) ∧ d = .tuple es ∧ DpAll K F vs es)
structure QI (X : Cx) (EW : EWT) (tg iter : Expr) (wi : TI) (m : M (List D)) : Prop where
  pi : PI X tg iter wi
  sm : ∀ g F H σ ρ, g.K = X.K → Ok g F H σ ρ → At EW g F H σ (fun F J ds => Wk g.K F J ds) (wi σ) (m ρ)
abbrev GM := D → List Sl → Option (List Sl)
structure QG (X : Cx) (tg : Expr) (gt : TG) (vars : List Nat) (m : GM) : Prop where
  pg : PG X tg gt
  sm : ∀ g F H σ ρ v d ρ', g.K = X.K → Ok g F H σ ρ → Dp g.K F v d → m d ρ = some ρ' → ∀ Q : St → Hp → Prop,
    (∀ σ', Ok g F H σ' ρ' → (∀ vs, (∀ i ∈ vars, i ∈ vs) → wipe σ' vs = wipe σ vs) → Q σ' H) → gt v σ H Q
/-! ### reading a view -/
/-- a view's data, its own objects too -/
def rdD (w : Vw) (ρ : List Sl) : Option D := match w with
  | .dat d => some d
  | .loc i => match ρ[i]? with
    | some (.dat d) => some d
    | some (.own (.lst ds)) => some (.list ds)
    | some (.par (.lst ds)) => some (.list ds)
    | _ => none
/-- a view becomes data -/
def frc (w : Vw) : M D := fun ρ => match w with
  | .dat d => some (.ok d, ρ)
  | .loc i => match ρ[i]? with
    | some (.dat d) => some (.ok d, ρ)
    | some (.own (.lst ds)) => some (.ok (.list ds), ρ.set i (.dat (.list ds)))
    | _ => none
def frcs : List Vw → M (List D)
  | [] => mRet []
  | w :: ws => mBind (frc w) fun d => mBind (frcs ws) fun ds => mRet (d :: ds)
section
variable {g : Gh} {F H : Hp} {σ : St} {ρ ρ' : List Sl} {v : V} {w : Vw} {d : D}
theorem loc_at (ok : Ok g F H σ ρ) {i : Nat} {s : Sl} (hv : VwOk g σ F v (.loc i)) (h : ρ[i]? = some s) : SlOk g F H i (some v) s := ok.sl i s _ h hv
theorem rdD_ok (ok : Ok g F H σ ρ) (hv : VwOk g σ F v w) (h : rdD w ρ = some d) : Dp g.K H v d := by
  cases w with
  | dat d' => cases h; exact dpE ok.ff _ _ hv
  | loc i =>
    unfold rdD at h
    cases hs : ρ[i]? with
    | none => simp only [hs] at h; cases h
    | some s =>
      have q := loc_at ok hv hs
      simp only [hs] at h
      cases s with
      | un => cases h
      | dat d' => cases h; obtain ⟨v', e, q⟩ := q; cases e; exact dpE ok.ff _ _ q
      | own o =>
        cases o with
        | lst ds => cases h; obtain ⟨l, e, _, ⟨vs, h1, h2⟩, _⟩ := q; cases e; exact .lst (.inl (.inl h1)) (dpsE ok.ff _ _ h2)
        | dk kvs => cases h
      | par o =>
        cases o with
        | lst ds => cases h; obtain ⟨l, e, _, ⟨vs, h1, h2⟩, _⟩ := q; cases e; exact .lst (.inl (.inl h1)) (dpsE ok.ff _ _ h2)
        | dk kvs => cases h
/-- .. of a sequence: its items are data -/
theorem rdD_list {ds : List D} (ok : Ok g F H σ ρ) (hv : VwOk g σ F v w) (h : rdD w ρ = some (.list ds)) : ∃ a vs, v = .ref a ∧ SqL g.K H a vs ∧ DpAll g.K F vs ds := by
  cases w with
  | dat d' =>
    cases h
    have hv : Dp g.K F v (.list ds) := hv
    cases hv with
    | lst hs ha => exact ⟨_, _, rfl, sqlE ok.ff hs, ha⟩
  | loc i =>
    unfold rdD at h
    cases hs : ρ[i]? with
    | none => simp only [hs] at h; cases h
    | some s =>
      have q := loc_at ok hv hs
      simp only [hs] at h
      cases s with
      | un => cases h
      | dat d' =>
        cases h; obtain ⟨v', e, q⟩ := q; cases e
        cases q with
        | lst hs ha => exact ⟨_, _, rfl, sqlE ok.ff hs, ha⟩
      | own o =>
        cases o with
        | lst ds => cases h; obtain ⟨l, e, _, ⟨vs, h1, h2⟩, _⟩ := q; cases e; exact ⟨_, _, rfl, .inl (.inl h1), h2⟩
        | dk kvs => cases h
      | par o =>
        cases o with
        | lst ds => cases h; obtain ⟨l, e, _, ⟨vs, h1, h2⟩, _⟩ := q; cases e; exact ⟨_, _, rfl, .inl (.inl h1), h2⟩
        | dk kvs => cases h
/-- .. of any other thing: it is data -/
theorem rdD_dat (ok : Ok g F H σ ρ) (hv : VwOk g σ F v w) (h : rdD w ρ = some d) (hn : ∀ ds, d ≠ .list ds) : Dp g.K F v d := by
  cases w with
  | dat d' => cases h; exact hv
  | loc i =>
    unfold rdD at h
    cases hs : ρ[i]? with
    | none => simp only [hs] at h; cases h
    | some s =>
      have q := loc_at ok hv hs
      simp only [hs] at h
      cases s with
      | un => cases h
      | dat d' => cases h; obtain ⟨v', e, q⟩ := q; cases e; exact q
      | own o =>
        cases o with
        | lst ds => cases h; exact absurd rfl (hn ds)
        | dk kvs => cases h
      | par o =>
        cases o with
        | lst ds => cases h; exact absurd rfl (hn ds)
        | dk kvs => cases h
theorem rdD_tuple {ds : List D} (ok : Ok g F H σ ρ) (hv : VwOk g σ F v w) (h : rdD w ρ = some (.tuple ds)) : ∃ a vs, v = .ref a ∧ SqT g.K F a vs ∧ DpAll g.K F vs ds := by
  have q := rdD_dat ok hv h fun _ e => nomatch e
  cases q with
  | tup hs ha => exact ⟨_, _, rfl, hs, ha⟩
theorem frc_ok (ok : Ok g F H σ ρ) (hv : VwOk g σ F v w) {r : Rs D} (h : frc w ρ = some (r, ρ')) : ∃ d F', r = .ok d ∧ Ex F F' ∧ Ok g F' H σ ρ' ∧ Dp g.K F' v d := by
  cases w with
  | dat d' => cases h; exact ⟨d', F, rfl, Ex.refl F, ok, hv⟩
  | loc i =>
    unfold frc at h
    cases hs : ρ[i]? with
    | none => simp only [hs] at h; cases h
    | some s =>
      have q := loc_at ok hv hs
      simp only [hs] at h
      cases s with
      | un => cases h
      | dat d' => cases h; obtain ⟨v', e, q⟩ := q; cases e; exact ⟨_, F, rfl, Ex.refl F, ok, q⟩
      | own o =>
        cases o with
        | lst ds =>
          cases h
          obtain ⟨l, F', h1, h2, h3, h4⟩ := ok.freeze hs
          have e : σ[i]? = some (some v) := hv
          rw [e] at h1; cases h1
          exact ⟨_, F', rfl, h2, h4, h3⟩
        | dk kvs => cases h
      | par o => cases h
theorem frcs_ok : ∀ {ws : List Vw} {F : Hp} {ρ ρ' : List Sl} {vs : List V} {r : Rs (List D)}, Ok g F H σ ρ → VwsOk g σ F vs ws → frcs ws ρ = some (r, ρ') → ∃ ds F', r = .ok ds ∧ Ex F F' ∧ Ok g F' H σ ρ' ∧ DpAll g.K F' vs ds
  | [], F, ρ, _, [], r, ok, _, h => by cases h; exact ⟨[], F, rfl, Ex.refl F, ok, .nil⟩
  | w :: ws, F, ρ, ρ', v :: vs, r, ok, hv, h => by
    unfold frcs mBind at h
    cases h1 : frc w ρ with
    | none => rw [h1] at h; cases h
    | some p =>
      obtain ⟨r1, ρ1⟩ := p
      obtain ⟨d, F1, rfl, e1, ok1, q1⟩ := frc_ok ok hv.1 h1
      rw [h1] at h
      simp only at h
      cases h2 : frcs ws ρ1 with
      | none => rw [h2] at h; cases h
      | some p =>
        obtain ⟨r2, ρ2⟩ := p
        obtain ⟨ds, F2, rfl, e2, ok2, q2⟩ := frcs_ok ok1 (hv.2.mono e1) h2
        rw [h2] at h
        cases h
        exact ⟨d :: ds, F2, rfl, e1.trans e2, ok2, .cons (dpE e2 _ _ q1) q2⟩
  | [], _, _, _, _ :: _, _, _, h, _ => h.elim
  | _ :: _, _, _, _, [], _, _, h, _ => h.elim
end
/-! ### expressions -/
section
variable {X : Cx} {EW : EWT} {pos : Pos}
def mVar (i : Nat) : M Vw := fun ρ => match ρ[i]? with
  | some .un => none
  | some _ => some (.ok (.loc i), ρ)
  | none => none
theorem qe_var (i : Nat) {x : Str} {pos : Pos} (hN : X.N[i]? = some x := by rfl) (hv : Vis X.env.scope x := by first | exact Or.inl rfl | exact Or.inr (Or.inl rfl) | exact Or.inr (Or.inr rfl)) (hd : (x == ("__debug__" : Str)) = false := by decide)
    (hcd : (x == ("__classdict__" : Str)) = false := by decide) : QE X EW (.Name x pos) (tVar i) (mVar i) := by
  refine ⟨pe_var hN hv hd hcd, fun g F H σ ρ hK ok r ρ' e Q q => ?_⟩
  unfold mVar at e
  cases hs : ρ[i]? with
  | none => simp only [hs] at e; cases e
  | some s =>
    simp only [hs] at e
    obtain ⟨ov, hv, hsl⟩ := ok.at hs
    have : ∃ v, ov = some v := by
      cases s with
      | un => cases e
      | dat d => obtain ⟨v, h, _⟩ := hsl; exact ⟨v, h⟩
      | own o => obtain ⟨l, h, _⟩ := hsl; exact ⟨_, h⟩
      | par o => obtain ⟨l, h, _⟩ := hsl; exact ⟨_, h⟩
    obtain ⟨v, rfl⟩ := this
    have e' : some (Rs.ok (Vw.loc i), ρ) = some (r, ρ') := by
      cases s with
      | un => cases e
      | dat d => exact e
      | own o => exact e
      | par o => exact e
    cases e'
    exact ⟨v, hv, q F H (Ex.refl F) ok v hv⟩
def mC (d : D) : M Vw := mRet (.dat d)
theorem sm_C {v : V} {d : D} (h : ∀ K F, Dp K F v d) : ∀ g F H σ ρ, g.K = X.K → Ok g F H σ ρ → At EW g F H σ (VwOk g σ) (tC v σ) (mC d ρ) := fun g F H σ ρ _ ok => At.ret ok (h _ _) fun _ q => q
theorem qe_int {i j} : QE X EW (.Constant (.int i) j pos) (tC (.int i)) (mC (.int i)) := ⟨pe_int, sm_C fun _ _ => .int i⟩
theorem qe_bl {i j} : QE X EW (.Constant (.bool i) j pos) (tC (.bl i)) (mC (.bool i)) := ⟨pe_bl, sm_C fun _ _ => .bl i⟩
theorem qe_non {j} : QE X EW (.Constant .none j pos) (tC .non) (mC .none) := ⟨pe_non, sm_C fun _ _ => .non⟩
theorem qe_str {x j} : QE X EW (.Constant (.str x) j pos) (tC (.str x)) (mC (.str x)) := ⟨pe_str, sm_C fun _ _ => .str x⟩
/-- an operation on two values, by what it does on data -/
def Op2S (K : PySem.W.Frag) (r : R2) (f : D → D → Option D) : Prop :=
  ∀ g F H σ ρ x y a b d e z, g.K = K → Ok g F H σ ρ → VwOk g σ F x a → VwOk g σ F y b → rdD a ρ = some d → rdD b ρ = some e → f d e = some z →
    ∀ Q : VK, (∀ v F' H', Ex F F' → Ok g F' H' σ ρ → Dp g.K F' v z → Q v H') → r x y H Q
/-- .. that gives a plain value -/
theorem Op2S.flat {K : PySem.W.Frag} {r : R2} {f : D → D → Option D} (h : ∀ H x y d e z, Dp K H x d → Dp K H y e → f d e = some z → ∃ v, (∀ F, Dp K F v z) ∧ ∀ Q : VK, Q v H → r x y H Q) : Op2S K r f := by
  rintro g F H σ ρ x y a b d e z rfl ok ha hb h1 h2 h3 Q q
  obtain ⟨v, hv, k⟩ := h H x y d e z (rdD_ok ok ha h1) (rdD_ok ok hb h2) h3
  exact k Q (q v F H (Ex.refl F) ok (hv F))
def app2 (f : D → D → Option D) (a b : Vw) : M Vw := fun ρ => match rdD a ρ with
  | none => none
  | some d => match rdD b ρ with
    | none => none
    | some e => match f d e with
      | none => none
      | some z => some (.ok (.dat z), ρ)
def mOp2 (f : D → D → Option D) (ma mb : M Vw) : M Vw := mBind ma fun a => mBind mb fun b => app2 f a b
theorem sm_op2 {r : R2} {f : D → D → Option D} {ta tb : TE} {ma mb : M Vw} (hr : Op2S X.K r f)
    (ha : ∀ g F H σ ρ, g.K = X.K → Ok g F H σ ρ → At EW g F H σ (VwOk g σ) (ta σ) (ma ρ)) (hb : ∀ g F H σ ρ, g.K = X.K → Ok g F H σ ρ → At EW g F H σ (VwOk g σ) (tb σ) (mb ρ)) :
    ∀ g F H σ ρ, g.K = X.K → Ok g F H σ ρ → At EW g F H σ (VwOk g σ) (tOp r ta tb σ) (mOp2 f ma mb ρ) := by
  intro g F H σ ρ hK ok
  refine At.bind (k := fun x H1 Q => tb σ H1 fun y H2 => r x y H2 Q) (ha g F H σ ρ hK ok) fun F1 H1 ρ1 x a e1 ok1 hx => ?_
  refine At.bind (k := fun y H2 Q => r x y H2 Q) (hb g F1 H1 σ ρ1 hK ok1) fun F2 H2 ρ2 y b e2 ok2 hy => ?_
  intro rr ρ' e Q q
  unfold app2 at e
  cases h1 : rdD a ρ2 with
  | none => simp only [h1] at e; cases e
  | some d =>
    cases h2 : rdD b ρ2 with
    | none => simp only [h1, h2] at e; cases e
    | some d2 =>
      cases h3 : f d d2 with
      | none => simp only [h1, h2, h3] at e; cases e
      | some z =>
        simp only [h1, h2, h3] at e
        cases e
        exact hr g F2 H2 σ ρ2 x y a b d d2 z hK ok2 (hx.mono e2) hy h1 h2 h3 Q fun v F' H' ex ok' hv => q F' H' ex ok' v hv
theorem qe_op {a b : Expr} {ta tb : TE} {ma mb : M Vw} {op : Operator} {r : R2} {f : D → D → Option D} (ho : OpR X (binaryOp op) r) (hr : Op2S X.K r f) (ha : QE X EW a ta ma) (hb : QE X EW b tb mb) : QE X EW (.BinOp a op b pos) (tOp r ta tb) (mOp2 f ma mb) :=
  ⟨pe_op ho ha.pe hb.pe, sm_op2 hr ha.sm hb.sm⟩
theorem qe_cmp {a b : Expr} {ta tb : TE} {ma mb : M Vw} {op : CmpOp} {r : R2} {f : D → D → Option D} (ho : OpR X (compareOp op) r) (hr : Op2S X.K r f) (ha : QE X EW a ta ma) (hb : QE X EW b tb mb) (hm : behindInMarks op b = false := by first | exact nomark _ | rfl) :
    QE X EW (.Compare a [op] [b] pos) (tOp r ta tb) (mOp2 f ma mb) := ⟨pe_cmpR ho ha.pe hb.pe hm, sm_op2 hr ha.sm hb.sm⟩
theorem qe_ix {a b : Expr} {ta tb : TE} {ma mb : M Vw} {r : R2} {f : D → D → Option D} (ho : IxR X r) (hr : Op2S X.K r f) (ha : QE X EW a ta ma) (hb : QE X EW b tb mb) (hs : PlainIx b := by exact fun _ _ => rfl) : QE X EW (.Subscript a b pos) (tOp r ta tb) (mOp2 f ma mb) :=
  ⟨pe_ix ho ha.pe hb.pe hs, sm_op2 hr ha.sm hb.sm⟩
/-- one value -/
def Op1S (K : PySem.W.Frag) (r : V → Hp → VK → Prop) (f : D → Option D) : Prop :=
  ∀ g F H σ ρ x a d z, g.K = K → Ok g F H σ ρ → VwOk g σ F x a → rdD a ρ = some d → f d = some z →
    ∀ Q : VK, (∀ v F' H', Ex F F' → Ok g F' H' σ ρ → Dp g.K F' v z → Q v H') → r x H Q
def app1 (f : D → Option D) (a : Vw) : M Vw := fun ρ => match rdD a ρ with
  | none => none
  | some d => match f d with
      | none => none
      | some z => some (.ok (.dat z), ρ)
def mOp1 (f : D → Option D) (ma : M Vw) : M Vw := mBind ma fun a => app1 f a
theorem app1_at {g : Gh} {F H : Hp} {σ : St} {ρ : List Sl} {x : V} {a : Vw} {f : D → Option D} {t : Hp → (V → Hp → Prop) → Prop} (ok : Ok g F H σ ρ) (hx : VwOk g σ F x a)
    (h : ∀ d z, rdD a ρ = some d → f d = some z → ∀ Q : VK, (∀ v F' H', Ex F F' → Ok g F' H' σ ρ → Dp g.K F' v z → Q v H') → t H Q) : At EW g F H σ (VwOk g σ) t (app1 f a ρ) := by
  intro rr ρ' e Q q
  unfold app1 at e
  cases h1 : rdD a ρ with
  | none => simp only [h1] at e; cases e
  | some d =>
    cases h3 : f d with
    | none => simp only [h1, h3] at e; cases e
    | some z =>
      simp only [h1, h3] at e
      cases e
      exact h d z h1 h3 Q fun v F' H' ex ok' hv => q F' H' ex ok' v hv
theorem qe_un {a : Expr} {ta : TE} {ma : M Vw} {op : UnaryOp} {r : V → Hp → VK → Prop} {f : D → Option D} (ho : UnR X (unaryOp op) r) (hr : Op1S X.K r f) (ha : QE X EW a ta ma) : QE X EW (.UnaryOp op a pos) (tUn r ta) (mOp1 f ma) := by
  refine ⟨pe_un ho ha.pe, fun g F H σ ρ hK ok => ?_⟩
  refine At.bind (k := fun x H1 Q => r x H1 Q) (ha.sm g F H σ ρ hK ok) fun F1 H1 ρ1 x a e1 ok1 hx => app1_at ok1 hx fun d z h1 h2 Q q => hr g F1 H1 σ ρ1 x a d z hK ok1 hx h1 h2 Q q
/-- a call of a built-in with one argument -/
def Call1S (K : PySem.W.Frag) (r : List V → Hp → VK → Prop) (f : D → Option D) : Prop := Op1S K (fun x H Q => r [x] H Q) f
theorem qe_callB1 {a : Expr} {ta : TE} {ma : M Vw} {id : String} {x : Str} {p : Pos} {r : List V → Hp → VK → Prop} {f : D → Option D} (hc : CallR X (.builtin id) r) (hr : Call1S X.K r f) (hg : Gl X x) (hm : X.mg x = none) (hv : bootBuiltins x = some (.builtin id)) (ha : QE X EW a ta ma)
    (hn : x ≠ "__name__" := by decide) (hdb : (x == ("__debug__" : Str)) = false := by decide) (he : starEach [a] X.env = (false, eval a X.env) :: starEach [] X.env := by rfl) : QE X EW (.Call (.Name x p) [a] [] pos) (tCB r (tCons ta tNil)) (mOp1 f ma) := by
  refine ⟨pe_callB hc hg hm hv (pa_cons ha.pe pa_nil he) hn hdb he rfl, fun g F H σ ρ hK ok => ?_⟩
  refine At.bind (k := fun x H1 Q => r [x] H1 Q) (ha.sm g F H σ ρ hK ok) fun F1 H1 ρ1 x a e1 ok1 hx => app1_at ok1 hx fun d z h1 h2 Q q => hr g F1 H1 σ ρ1 x a d z hK ok1 hx h1 h2 Q q
theorem qe_callT1 {a : Expr} {ta : TE} {ma : M Vw} {T : String} {x : Str} {p : Pos} {r : List V → Hp → VK → Prop} {f : D → Option D} (hc : CallR X (.type T) r) (hr : Call1S X.K r f) (hg : Gl X x) (hm : X.mg x = none) (hv : bootBuiltins x = some (.type T)) (ha : QE X EW a ta ma)
    (hn : x ≠ "__name__" := by decide) (hdb : (x == ("__debug__" : Str)) = false := by decide) (he : starEach [a] X.env = (false, eval a X.env) :: starEach [] X.env := by rfl) : QE X EW (.Call (.Name x p) [a] [] pos) (tCB r (tCons ta tNil)) (mOp1 f ma) := by
  refine ⟨pe_callTy hc hg hm hv (pa_cons ha.pe pa_nil he) hn hdb he rfl, fun g F H σ ρ hK ok => ?_⟩
  refine At.bind (k := fun x H1 Q => r [x] H1 Q) (ha.sm g F H σ ρ hK ok) fun F1 H1 ρ1 x a e1 ok1 hx => app1_at ok1 hx fun d z h1 h2 Q q => hr g F1 H1 σ ρ1 x a d z hK ok1 hx h1 h2 Q q
/-! ### argument lists, displays -/
def mNil : M (List Vw) := mRet []
def mCons (ma : M Vw) (mr : M (List Vw)) : M (List Vw) := mBind ma fun a => mBind mr fun r => mRet (a :: r)
theorem qa_nil : QA X EW [] tNil mNil := ⟨pa_nil, fun g F H σ ρ _ ok => At.ret (a := []) ok trivial fun _ q => q⟩
theorem qa_cons {e : Expr} {es : List Expr} {te : TE} {tr : TA} {ma : M Vw} {mr : M (List Vw)} (ha : QE X EW e te ma) (hr : QA X EW es tr mr) (hs : starEach (e :: es) X.env = (false, eval e X.env) :: starEach es X.env := by rfl) : QA X EW (e :: es) (tCons te tr) (mCons ma mr) := by
  refine ⟨pa_cons ha.pe hr.pa hs, fun g F H σ ρ hK ok => ?_⟩
  refine At.bind (k := fun x H1 Q => tr σ H1 fun xs H2 => Q (x :: xs) H2) (ha.sm g F H σ ρ hK ok) fun F1 H1 ρ1 x a e1 ok1 hx => ?_
  refine At.bind (k := fun xs H2 Q => Q (x :: xs) H2) (hr.sm g F1 H1 σ ρ1 hK ok1) fun F2 H2 ρ2 xs ws e2 ok2 hxs => ?_
  exact At.ret (a := x :: xs) ok2 ⟨hx.mono e2, hxs⟩ fun _ q => q
abbrev BIG : Nat := 1000000
theorem big_le {n : Nat} (h : n ≤ BIG) : n ≤ sizeLine := by
  have h' : n ≤ 1000000 := h
  rw [sizeLine_eq]; omega
theorem big_lt {n : Nat} (h : n ≤ BIG) : n < sizeLine := by
  have h' : n ≤ 1000000 := h
  rw [sizeLine_eq]; omega
def mkSeq (c : List D → D) (ds : List D) : Option Vw := if ds.length ≤ BIG then some (.dat (c ds)) else none
def mTup (ma : M (List Vw)) : M Vw := mBind ma fun ws => mBind (frcs ws) fun ds => mLift (mkSeq .tuple ds)
def mLst (ma : M (List Vw)) : M Vw := mBind ma fun ws => mBind (frcs ws) fun ds => mLift (mkSeq .list ds)
theorem frcs_at {g : Gh} {F H : Hp} {σ : St} {ρ : List Sl} {xs : List V} {ws : List Vw} {β : Type} {f : List D → M β} {R : Hp → V → β → Prop} {t : Hp → (V → Hp → Prop) → Prop} (ok : Ok g F H σ ρ) (h : VwsOk g σ F xs ws)
    (k : ∀ F' ρ' ds, Ex F F' → Ok g F' H σ ρ' → DpAll g.K F' xs ds → At EW g F' H σ R t (f ds ρ')) : At EW g F H σ R t (mBind (frcs ws) f ρ) := by
  intro r ρ' e Q q
  unfold mBind at e
  cases h1 : frcs ws ρ with
  | none => rw [h1] at e; cases e
  | some p =>
    obtain ⟨r1, ρ1⟩ := p
    obtain ⟨ds, F1, rfl, e1, ok1, q1⟩ := frcs_ok ok h h1
    rw [h1] at e
    exact k F1 ρ1 ds e1 ok1 q1 r ρ' e Q fun F' H' ex ok' => q F' H' (e1.trans ex) ok'
theorem frc_at {g : Gh} {F H : Hp} {σ : St} {ρ : List Sl} {x : V} {w : Vw} {α β : Type} {f : D → M β} {R : Hp → α → β → Prop} {t : Hp → (α → Hp → Prop) → Prop} (ok : Ok g F H σ ρ) (h : VwOk g σ F x w)
    (k : ∀ F' ρ' d, Ex F F' → Ok g F' H σ ρ' → Dp g.K F' x d → At EW g F' H σ R t (f d ρ')) : At EW g F H σ R t (mBind (frc w) f ρ) := by
  intro r ρ' e Q q
  unfold mBind at e
  cases h1 : frc w ρ with
  | none => rw [h1] at e; cases e
  | some p =>
    obtain ⟨r1, ρ1⟩ := p
    obtain ⟨d, F1, rfl, e1, ok1, q1⟩ := frc_ok ok h h1
    rw [h1] at e
    exact k F1 ρ1 d e1 ok1 q1 r ρ' e Q fun F' H' ex ok' => q F' H' (e1.trans ex) ok'
theorem qe_tup {es : List Expr} {x1} {ta : TA} {ma : M (List Vw)} (h : QA X EW es ta ma) : QE X EW (.Tuple es x1 pos) (tTup ta) (mTup ma) := by
  refine ⟨pe_tup h.pa, fun g F H σ ρ hK ok => ?_⟩
  refine At.bind (k := fun xs H1 (Q : VK) => xs.length ≤ sizeLine ∧ ∀ p, H1 p = none → Q (.ref p) (upd H1 p (.tup xs))) (h.sm g F H σ ρ hK ok) fun F1 H1 ρ1 xs ws e1 ok1 hx => ?_
  refine frcs_at ok1 hx fun F2 ρ2 ds e2 ok2 hds => ?_
  intro r ρ' e Q q
  unfold mLift mkSeq at e
  by_cases hz : ds.length ≤ BIG
  · rw [if_pos hz] at e
    cases e
    refine ⟨big_le (by rw [dps_len hds]; exact hz), fun p hp => ?_⟩
    obtain ⟨ex, ok3⟩ := ok2.newD (o := .tup xs) hp
    exact q _ _ ex ok3 _ (show Dp _ _ _ _ from .tup (.inl (.inl upd_same)) (dpsE ex _ _ hds))
  · rw [if_neg hz] at e; cases e
theorem qe_lst {es : List Expr} {ta : TA} {ma : M (List Vw)} (h : QA X EW es ta ma) : QE X EW (.List es pos) (tLst ta) (mLst ma) := by
  refine ⟨pe_lst h.pa, fun g F H σ ρ hK ok => ?_⟩
  refine At.bind (k := fun xs H1 (Q : VK) => xs.length ≤ sizeLine ∧ ∀ p, H1 p = none → Q (.ref p) (upd H1 p (.lst xs))) (h.sm g F H σ ρ hK ok) fun F1 H1 ρ1 xs ws e1 ok1 hx => ?_
  refine frcs_at ok1 hx fun F2 ρ2 ds e2 ok2 hds => ?_
  intro r ρ' e Q q
  unfold mLift mkSeq at e
  by_cases hz : ds.length ≤ BIG
  · rw [if_pos hz] at e
    cases e
    refine ⟨big_le (by rw [dps_len hds]; exact hz), fun p hp => ?_⟩
    obtain ⟨ex, ok3⟩ := ok2.newD (o := .lst xs) hp
    exact q _ _ ex ok3 _ (show Dp _ _ _ _ from .lst (.inl (.inl upd_same)) (dpsE ex _ _ hds))
  · rw [if_neg hz] at e; cases e
/-! ### tests -/
/-- a value's truth -/
def truD : D → Option Bool
  | .none => some false
  | .bool b => some b
  | .int i => some (i != 0)
  | .str x => if x.length ≤ BIG then some (x.length != 0) else none
  | .list ds => some (!ds.isEmpty)
  | .tuple ds => some (!ds.isEmpty)
  | .dict _ => none
def tru (w : Vw) : M Bool := fun ρ => match rdD w ρ with
  | none => (match w with
    | .loc i => (match ρ[i]? with
      | some (.own (.dk kvs)) => some (.ok (!kvs.isEmpty), ρ)
      | some (.par (.dk kvs)) => some (.ok (!kvs.isEmpty), ρ)
      | _ => none)
    | .dat _ => none)
  | some d => match truD d with
    | none => none
    | some b => some (.ok b, ρ)
theorem kv_isEmpty {K : PySem.W.Frag} {F : Hp} {ws : List (Key × V)} {kvs : List (Key × D)} (h : KvAll K F ws kvs) : ws.isEmpty = kvs.isEmpty := by cases h <;> rfl
theorem dps_isEmpty {K : PySem.W.Frag} {F : Hp} {ws : List V} {ds : List D} (h : DpAll K F ws ds) : ws.isEmpty = ds.isEmpty := by cases h <;> rfl
theorem truD_ok {K : PySem.W.Frag} {H : Hp} {v : V} {d : D} {b : Bool} (h : Dp K H v d) (e : truD d = some b) : TruV K v H b := by
  cases d with
  | none => cases h; cases e; exact rfl
  | bool x => cases h; cases e; exact rfl
  | int x => cases h; cases e; exact rfl
  | str x =>
    cases h
    have e : (if x.length ≤ BIG then some (x.length != 0) else none) = some b := e
    by_cases hz : x.length ≤ BIG
    · rw [if_pos hz] at e
      cases e
      refine ⟨big_le hz, ?_⟩
      by_cases h0 : x.length = 0
      · rw [h0]; rfl
      · have h1 : ((x.length : Int) != 0) = true := by
          rw [bne_iff_ne]; omega
        rw [h1, bne_iff_ne]; exact h0
    · rw [if_neg hz] at e; cases e
  | list ds =>
    cases e
    cases h with
    | lst hs ha => exact .inl ⟨_, hs, by rw [dps_isEmpty ha]⟩
  | tuple ds =>
    cases e
    cases h with
    | tup hs ha => exact .inr (.inl ⟨_, hs, by rw [dps_isEmpty ha]⟩)
  | dict _ => cases e
theorem tru_at {g : Gh} {F H : Hp} {σ : St} {ρ : List Sl} {x : V} {w : Vw} (ok : Ok g F H σ ρ) (hx : VwOk g σ F x w) : At EW g F H σ (fun _ (a b : Bool) => a = b) (fun H Q => ∃ k, TruV g.K x H k ∧ Q k H) (tru w ρ) := by
  intro r ρ' e Q q
  unfold tru at e
  cases h1 : rdD w ρ with
  | some d =>
    simp only [h1] at e
    cases h2 : truD d with
    | none => simp only [h2] at e; cases e
    | some b =>
      simp only [h2] at e
      cases e
      exact ⟨b, truD_ok (rdD_ok ok hx h1) h2, q F H (Ex.refl F) ok b rfl⟩
  | none =>
    simp only [h1] at e
    cases w with
    | dat d => cases e
    | loc i =>
      simp only at e
      cases hs : ρ[i]? with
      | none => simp only [hs] at e; cases e
      | some s =>
        have qs := loc_at ok hx hs
        simp only [hs] at e
        cases s with
        | un => cases e
        | dat d => cases e
        | own o =>
          cases o with
          | lst ds => cases e
          | dk kvs =>
            cases e
            obtain ⟨l, hl, _, ⟨ws, h3, h4⟩, _⟩ := qs
            cases hl
            exact ⟨_, .inr (.inr ⟨ws, h3, rfl⟩), q F H (Ex.refl F) ok _ (by rw [kv_isEmpty h4])⟩
        | par o =>
          cases o with
          | lst ds => cases e
          | dk kvs =>
            cases e
            obtain ⟨l, hl, _, ⟨ws, h3, h4⟩, _⟩ := qs
            cases hl
            exact ⟨_, .inr (.inr ⟨ws, h3, rfl⟩), q F H (Ex.refl F) ok _ (by rw [kv_isEmpty h4])⟩
def mTru (ma : M Vw) : M Bool := mBind ma tru
/-- any expression as a test (not a comparison, and, or, not) -/
theorem qt_truth {e : Expr} {ta : TE} {ma : M Vw} (h : QE X EW e ta ma) (he : ∀ whole, isTrue e X.env whole = (do let v ← whole; standAt e.pos; holding [v] (truthy v)) := by intro _; rfl) :
    QT X EW e (fun σ H Q => ta σ H fun x H' => ∃ k, TruV X.K x H' k ∧ Q k H') (mTru ma) := by
  refine ⟨pt_truth h.pe he, fun g F H σ ρ hK ok => ?_⟩
  refine At.bind (k := fun x H1 Q => ∃ k, TruV X.K x H1 k ∧ Q k H1) (h.sm g F H σ ρ hK ok) fun F1 H1 ρ1 x a e1 ok1 hx => ?_
  rw [← hK]
  exact tru_at ok1 hx
/-- a view that is a truth value -/
def asB (w : Vw) : M Bool := fun ρ => match rdD w ρ with
  | some (.bool b) => some (.ok b, ρ)
  | _ => none
theorem asB_at {g : Gh} {F H : Hp} {σ : St} {ρ : List Sl} {x : V} {w : Vw} (ok : Ok g F H σ ρ) (hx : VwOk g σ F x w) : At EW g F H σ (fun _ (a b : Bool) => a = b) (fun H Q => ∃ c, x = .bl c ∧ Q c H) (asB w ρ) := by
  intro r ρ' e Q q
  unfold asB at e
  cases h1 : rdD w ρ with
  | none => simp only [h1] at e; cases e
  | some d =>
    simp only [h1] at e
    have hd := rdD_ok ok hx h1
    cases d with
    | bool b =>
      cases e
      cases hd
      exact ⟨b, rfl, q F H (Ex.refl F) ok b rfl⟩
    | none => cases e
    | int _ => cases e
    | str _ => cases e
    | list _ => cases e
    | tuple _ => cases e
    | dict _ => cases e
def mAsB (ma : M Vw) : M Bool := mBind ma asB
theorem qt_cmp {a b : Expr} {ta tb : TE} {ma mb : M Vw} {op : CmpOp} {r : R2} {f : D → D → Option D} (ho : OpR X (compareOp op) r) (hr : Op2S X.K r f) (ha : QE X EW a ta ma) (hb : QE X EW b tb mb) (hm : behindInMarks op b = false := by first | exact nomark _ | rfl) :
    QT X EW (.Compare a [op] [b] pos) (tTest (tOp r ta tb)) (mAsB (mOp2 f ma mb)) := by
  refine ⟨pt_cmpR ho ha.pe hb.pe hm, fun g F H σ ρ hK ok => ?_⟩
  exact At.bind (k := fun x H1 Q => ∃ k, x = .bl k ∧ Q k H1) (sm_op2 hr ha.sm hb.sm g F H σ ρ hK ok) fun F1 H1 ρ1 x a e1 ok1 hx => asB_at ok1 hx
def mNot (m : M Bool) : M Bool := mBind m fun b => mRet (!b)
theorem qt_not {a : Expr} {t : TT} {m : M Bool} (h : QT X EW a t m) : QT X EW (.UnaryOp .Not a pos) (tNot t) (mNot m) := by
  refine ⟨pt_not h.pt, fun g F H σ ρ hK ok => ?_⟩
  refine At.bind (k := fun c H1 Q => Q (!c) H1) (h.sm g F H σ ρ hK ok) fun F1 H1 ρ1 x b e1 ok1 hx => ?_
  cases hx
  exact At.ret (a := !x) ok1 rfl fun _ q => q
def mAnd (m n : M Bool) : M Bool := mBind m fun b => if b = true then n else mRet false
def mOr (m n : M Bool) : M Bool := mBind m fun b => if b = true then mRet true else n
theorem qw_and1 {a : Expr} {t : TT} {m : M Bool} (h : QT X EW a t m) : QW X EW (.BoolOp .And [a] pos) t m := ⟨pw_and1 h.pt, h.sm⟩
theorem qw_or1 {a : Expr} {t : TT} {m : M Bool} (h : QT X EW a t m) : QW X EW (.BoolOp .Or [a] pos) t m := ⟨pw_or1 h.pt, h.sm⟩
theorem qw_and {a b : Expr} {rest : List Expr} {t u : TT} {m n : M Bool} (h : QT X EW a t m) (k : QW X EW (.BoolOp .And (b :: rest) pos) u n) : QW X EW (.BoolOp .And (a :: b :: rest) pos) (tAnd t u) (mAnd m n) := by
  refine ⟨pw_and h.pt k.pw, fun g F H σ ρ hK ok => ?_⟩
  refine At.bind (k := fun c H1 Q => if c = true then u σ H1 Q else Q false H1) (h.sm g F H σ ρ hK ok) fun F1 H1 ρ1 x b e1 ok1 hx => ?_
  cases hx
  cases x with
  | true => exact k.sm g F1 H1 σ ρ1 hK ok1
  | false => exact At.ret (a := false) ok1 rfl fun _ q => q
theorem qw_or {a b : Expr} {rest : List Expr} {t u : TT} {m n : M Bool} (h : QT X EW a t m) (k : QW X EW (.BoolOp .Or (b :: rest) pos) u n) : QW X EW (.BoolOp .Or (a :: b :: rest) pos) (tOr t u) (mOr m n) := by
  refine ⟨pw_or h.pt k.pw, fun g F H σ ρ hK ok => ?_⟩
  refine At.bind (k := fun c H1 Q => if c = true then Q true H1 else u σ H1 Q) (h.sm g F H σ ρ hK ok) fun F1 H1 ρ1 x b e1 ok1 hx => ?_
  cases hx
  cases x with
  | true => exact At.ret (a := true) ok1 rfl fun _ q => q
  | false => exact k.sm g F1 H1 σ ρ1 hK ok1
theorem QW.qt {e : Expr} {t : TT} {m : M Bool} (h : QW X EW e t m) : QT X EW e t m := ⟨h.pw.pt, h.sm⟩
def mIf (mt : M Bool) (ma mb : M Vw) : M Vw := mBind mt fun b => if b = true then ma else mb
theorem qe_if {c a b : Expr} {t : TT} {ta tb : TE} {mt : M Bool} {ma mb : M Vw} (hc : QT X EW c t mt) (ha : QE X EW a ta ma) (hb : QE X EW b tb mb) : QE X EW (.IfExp c a b pos) (tIf t ta tb) (mIf mt ma mb) := by
  refine ⟨pe_ifExp hc.pt ha.pe hb.pe, fun g F H σ ρ hK ok => ?_⟩
  refine At.bind (k := fun c H1 Q => if c = true then ta σ H1 Q else tb σ H1 Q) (hc.sm g F H σ ρ hK ok) fun F1 H1 ρ1 x b e1 ok1 hx => ?_
  cases hx
  cases x with
  | true => exact ha.sm g F1 H1 σ ρ1 hK ok1
  | false => exact hb.sm g F1 H1 σ ρ1 hK ok1
/-- a comparison, not, as a value -/
def mB (m : M Bool) : M Vw := mBind m fun b => mRet (.dat (.bool b))
end
end Dat
namespace Dat
open PySem L2
/-! ### targets -/
section
variable {X : Cx} {EW : EWT} {pos : Pos}
/-- a slot is stored: none of the def's own parameters -/
def asgD (i : Nat) : GM := fun d ρ => match ρ[i]? with
  | none => none
  | some (.par _) => none
  | some _ => some (ρ.set i (.dat d))
theorem asgD_some {i : Nat} {d : D} {ρ ρ' : List Sl} (h : asgD i d ρ = some ρ') : ρ' = ρ.set i (.dat d) := by
  unfold asgD at h
  cases hs : ρ[i]? with
  | none => simp only [hs] at h; cases h
  | some s =>
    simp only [hs] at h
    cases s with
    | un => cases h; rfl
    | dat d => cases h; rfl
    | own o => cases h; rfl
    | par o => cases h
theorem qg_name (i : Nat) {x : Str} (hN : X.N.Nodup) (hi : X.N[i]? = some x := by rfl) (hx : Loc X.env.scope x := by first | exact Or.inl rfl | exact Or.inr rfl) (hf : X.fn x = true ∨ X.env.scope.names.lookup x = some .local := by first | exact .inl rfl | exact .inr rfl) : QG X (.Name x pos) (gName i) [i] (asgD i) := by
  refine ⟨pg_name hN hi hx hf, fun g F H σ ρ v d ρ' hK ok hv h Q q => ?_⟩
  cases asgD_some h
  exact q _ (ok.setD hv) fun vs hs => wipe_set (hs i (by simp))
abbrev GMs := List D → List Sl → Option (List Sl)
structure QGs (X : Cx) (ts : List Expr) (t : TGs) (vars : List Nat) (m : GMs) : Prop where
  pg : PGs X ts t
  sm : ∀ g F H σ ρ vs ds ρ', g.K = X.K → Ok g F H σ ρ → DpAll g.K F vs ds → m ds ρ = some ρ' → ∀ Q : St → Hp → Prop,
    (∀ σ', Ok g F H σ' ρ' → (∀ ws, (∀ i ∈ vars, i ∈ ws) → wipe σ' ws = wipe σ ws) → Q σ' H) → t vs σ H Q
def gmNil : GMs := fun ds ρ => match ds with
  | [] => some ρ
  | _ => none
def gmCons (m : GM) (n : GMs) : GMs := fun ds ρ => match ds with
  | [] => none
  | d :: ds => match m d ρ with
    | none => none
    | some ρ' => n ds ρ'
theorem qgs_nil : QGs X [] gNil [] gmNil := by
  refine ⟨pgs_nil, fun g F H σ ρ vs ds ρ' hK ok hv h Q q => ?_⟩
  cases hv with
  | nil => cases h; exact ⟨rfl, q σ ok fun _ _ => rfl⟩
  | cons _ _ => cases h
theorem qgs_cons {e : Expr} {es : List Expr} {t : TG} {u : TGs} {v1 v2 : List Nat} {m : GM} {n : GMs} (h1 : QG X e t v1 m) (h2 : QGs X es u v2 n)
    (hs : (assignEach (e :: es) X.env).map (·.2) = assign e X.env :: (assignEach es X.env).map (·.2) := by rfl) : QGs X (e :: es) (gCons t u) (v1 ++ v2) (gmCons m n) := by
  refine ⟨pgs_cons h1.pg h2.pg hs, fun g F H σ ρ vs ds ρ' hK ok hv h Q q => ?_⟩
  cases hv with
  | nil => cases h
  | cons hv1 hv2 =>
    rename_i v vs d ds
    unfold gmCons at h
    cases h3 : m d ρ with
    | none => simp only [h3] at h; cases h
    | some ρ1 =>
      simp only [h3] at h
      refine ⟨_, _, rfl, ?_⟩
      refine h1.sm g F H σ ρ v d ρ1 hK ok hv1 h3 _ fun σ1 ok1 w1 => ?_
      refine h2.sm g F H σ1 ρ1 vs ds ρ' hK ok1 hv2 h Q fun σ2 ok2 w2 => ?_
      exact q σ2 ok2 fun ws hw => (w2 ws fun i hi => hw i (List.mem_append_right _ hi)).trans (w1 ws fun i hi => hw i (List.mem_append_left _ hi))
def gmTup (n : Nat) (m : GMs) : GM := fun d ρ => match d with
  | .tuple ds => if ds.length = n then m ds ρ else none
  | _ => none
theorem qg_tup {es : List Expr} {k : Nat} {t : TGs} {n : Nat} {vars : List Nat} {m : GMs} (hc : X.calm = true) (h : QGs X es t vars m)
    (hn : (assignEach es X.env).length = n := by rfl) (hst : (assignEach es X.env).findIdx? (·.1) = none := by rfl) : QG X (.Tuple es k pos) (gTup X.K n t) vars (gmTup n m) := by
  refine ⟨pg_tup hc h.pg hn hst, fun g F H σ ρ v d ρ' hK ok hv e Q q => ?_⟩
  cases d with
  | tuple ds =>
    have e : (if ds.length = n then m ds ρ else none) = some ρ' := e
    by_cases hl : ds.length = n
    · rw [if_pos hl] at e
      cases hv with
      | tup hs ha =>
        rw [← hK]
        exact ⟨_, _, rfl, sqtE ok.ff hs, (dps_len ha).trans hl, h.sm g F H σ ρ _ ds ρ' hK ok ha e Q q⟩
    · rw [if_neg hl] at e; cases e
  | none => cases e
  | bool _ => cases e
  | int _ => cases e
  | str _ => cases e
  | list _ => cases e
  | dict _ => cases e
/-! ### statements -/
def mSkip : MS := fun ρ => some (.nx, ρ)
def mSeq (m n : MS) : MS := fun ρ => match m ρ with
  | some (.nx, ρ') => n ρ'
  | r => r
theorem qss_nil : QSs X EW [] tNext mSkip := ⟨pss_nil, fun g F H σ ρ _ ok r ρ' e D q => by cases e; exact q F H σ (Ex.refl F) ok⟩
theorem qss_cons {s : Stmt} {ss : List Stmt} {t u : TS} {m n : MS} (h : QS X EW s t m) (k : QSs X EW ss u n) : QSs X EW (s :: ss) (tSeq t u) (mSeq m n) := by
  refine ⟨pss_cons h.ps k.ps, fun g F H σ ρ hK ok r ρ' e D q => ?_⟩
  unfold mSeq at e
  cases hm : m ρ with
  | none => rw [hm] at e; cases e
  | some p =>
    obtain ⟨r1, ρ1⟩ := p
    rw [hm] at e
    cases r1 with
    | nx => exact h.sm g F H σ ρ hK ok _ _ hm _ fun F1 H1 σ1 e1 ok1 => k.sm g F1 H1 σ1 ρ1 hK ok1 r ρ' e D fun F2 H2 σ2 e2 ok2 => q F2 H2 σ2 (e1.trans e2) ok2
    | bk => cases e; exact h.sm g F H σ ρ hK ok _ _ hm _ q
    | ct => cases e; exact h.sm g F H σ ρ hK ok _ _ hm _ q
    | rt d => cases e; exact h.sm g F H σ ρ hK ok _ _ hm _ q
    | er c => cases e; exact h.sm g F H σ ρ hK ok _ _ hm _ q
theorem qss_one {s : Stmt} {t : TS} {m : MS} (h : QS X EW s t m) : QSs X EW [s] t m := ⟨pss_one h.ps, h.sm⟩
theorem qs_pass : QS X EW (.Pass pos) tNext mSkip := ⟨ps_pass, fun g F H σ ρ _ ok r ρ' e D q => by cases e; exact q F H σ (Ex.refl F) ok⟩
def mBrk : MS := fun ρ => some (.bk, ρ)
def mCont : MS := fun ρ => some (.ct, ρ)
theorem qs_break : QS X EW (.Break pos) tBreak mBrk := ⟨ps_break, fun g F H σ ρ _ ok r ρ' e D q => by cases e; exact q F H σ (Ex.refl F) ok⟩
theorem qs_continue : QS X EW (.Continue pos) tCont mCont := ⟨ps_continue, fun g F H σ ρ _ ok r ρ' e D q => by cases e; exact q F H σ (Ex.refl F) ok⟩
/-- behind a value: what is done with it -/
def mThen {α : Type} (m : M α) (f : α → MS) : MS := fun ρ => match m ρ with
  | none => none
  | some (.er c, ρ') => some (.er c, ρ')
  | some (.ok a, ρ') => f a ρ'
theorem then_sm {α β : Type} {K : PySem.W.Frag} {R : Gh → St → Hp → α → β → Prop} {t : St → Hp → (α → Hp → Prop) → Prop} {k : Ends → St → α → Hp → Prop} {m : M β} {f : β → MS}
    (h : ∀ g F H σ ρ, g.K = K → Ok g F H σ ρ → At EW g F H σ (R g σ) (t σ) (m ρ))
    (hk : ∀ g F H σ ρ a b, g.K = K → Ok g F H σ ρ → R g σ F a b → ∀ r ρ', f b ρ = some (r, ρ') → ∀ D : Ends, (∀ F' H' σ', Ex F F' → Ok g F' H' σ' ρ' → match r with
      | .nx => D.nx σ' H'
      | .bk => D.bk σ' H'
      | .ct => D.ct σ' H'
      | .rt d => ∀ v, Dp g.K F' v d → D.rt v H'
      | .er c => EW c H') → k D σ a H) : SmS K EW (fun D σ H => t σ H fun a H1 => k D σ a H1) (mThen m f) := by
  intro g F H σ ρ hK ok r ρ' e D q
  unfold mThen at e
  cases hm : m ρ with
  | none => rw [hm] at e; cases e
  | some p =>
    obtain ⟨r1, ρ1⟩ := p
    rw [hm] at e
    cases r1 with
    | er c =>
      cases e
      exact h g F H σ ρ hK ok _ _ hm _ fun F' H' ex ok' => q F' H' σ ex ok'
    | ok b => exact h g F H σ ρ hK ok _ _ hm _ fun F1 H1 e1 ok1 a ra => hk g F1 H1 σ ρ1 a b hK ok1 ra r ρ' e D fun F2 H2 σ2 e2 ok2 => q F2 H2 σ2 (e1.trans e2) ok2
/-- behind a value that is forced -/
theorem frcS {g : Gh} {F H : Hp} {σ : St} {ρ ρ' : List Sl} {x : V} {w : Vw} {f : D → MS} {r : Fl} (ok : Ok g F H σ ρ) (hx : VwOk g σ F x w) (h : mThen (frc w) f ρ = some (r, ρ')) :
    ∃ d F1 ρ1, Ex F F1 ∧ Ok g F1 H σ ρ1 ∧ Dp g.K F1 x d ∧ f d ρ1 = some (r, ρ') := by
  unfold mThen at h
  cases h1 : frc w ρ with
  | none => rw [h1] at h; cases h
  | some p =>
    obtain ⟨r1, ρ1⟩ := p
    obtain ⟨d, F1, rfl, e1, ok1, q1⟩ := frc_ok ok hx h1
    rw [h1] at h
    exact ⟨d, F1, ρ1, e1, ok1, q1, h⟩
def mIfS (mt : M Bool) (m n : MS) : MS := mThen mt fun b => if b = true then m else n
theorem qs_if {c : Expr} {a b : List Stmt} {tc : TT} {t u : TS} {mt : M Bool} {m n : MS} (hc : QT X EW c tc mt) (ha : QSs X EW a t m) (hb : QSs X EW b u n) : QS X EW (.If c a b pos) (tIfS tc t u) (mIfS mt m n) := by
  refine ⟨ps_if hc.pt ha.ps hb.ps, ?_⟩
  refine then_sm (R := fun _ _ _ (a b : Bool) => a = b) (k := fun D σ b H1 => if b = true then t D σ H1 else u D σ H1) hc.sm fun g F H σ ρ a b hK ok hab r ρ' e D q => ?_
  cases hab
  cases a with
  | true => exact ha.sm g F H σ ρ hK ok r ρ' e D q
  | false => exact hb.sm g F H σ ρ hK ok r ρ' e D q
def retD (d : D) : MS := fun ρ => some (.rt d, ρ)
def mRetS (ma : M Vw) : MS := mThen ma fun w => mThen (frc w) retD
theorem qs_ret {e : Expr} {te : TE} {ma : M Vw} (h : QE X EW e te ma) : QS X EW (.Return (some e) pos) (tRet te) (mRetS ma) := by
  refine ⟨ps_ret h.pe, ?_⟩
  refine then_sm (R := VwOk) (k := fun D σ x H1 => D.rt x H1) h.sm fun g F H σ ρ a b hK ok hab r ρ' e D q => ?_
  obtain ⟨d, F1, ρ1, e1, ok1, q1, h1⟩ := frcS ok hab e
  cases h1
  exact q F1 H σ e1 ok1 a q1
theorem qs_retN : QS X EW (.Return none pos) tRetN (retD .none) := ⟨ps_retN, fun g F H σ ρ _ ok r ρ' e D q => by cases e; exact q F H σ (Ex.refl F) ok .non .non⟩
def mDrop (ma : M Vw) : MS := mThen ma fun _ => mSkip
theorem qs_expr {e : Expr} {te : TE} {ma : M Vw} (h : QE X EW e te ma) (hs : swapsWith e none pos.line X.env = pure false := by rfl) : QS X EW (.Expr e pos) (tDrop te) (mDrop ma) := by
  refine ⟨ps_expr h.pe hs, ?_⟩
  refine then_sm (R := VwOk) (k := fun D σ _ H1 => D.nx σ H1) h.sm fun g F H σ ρ a b hK ok hab r ρ' e D q => ?_
  cases e
  exact q F H σ (Ex.refl F) ok
def asgS (gm : GM) (d : D) : MS := fun ρ => match gm d ρ with
  | none => none
  | some ρ' => some (.nx, ρ')
def mAsg (ma : M Vw) (gm : GM) : MS := mThen ma fun w => mThen (frc w) (asgS gm)
theorem asg_sm {te : TE} {ma : M Vw} {gt : TG} {vars : List Nat} {gm : GM} {tg : Expr} (hg : QG X tg gt vars gm) (h : ∀ g F H σ ρ, g.K = X.K → Ok g F H σ ρ → At EW g F H σ (VwOk g σ) (te σ) (ma ρ)) : SmS X.K EW (tAsg te gt) (mAsg ma gm) := by
  refine then_sm (R := VwOk) (k := fun D σ x H1 => gt x σ H1 D.nx) h fun g F H σ ρ a b hK ok hab r ρ' e D q => ?_
  obtain ⟨d, F1, ρ1, e1, ok1, q1, h1⟩ := frcS ok hab e
  unfold asgS at h1
  cases h2 : gm d ρ1 with
  | none => rw [h2] at h1; cases h1
  | some ρ2 =>
    rw [h2] at h1
    cases h1
    exact hg.sm g F1 H σ ρ1 a d ρ' hK ok1 q1 h2 _ fun σ' ok' _ => q F1 H σ' e1 ok'
theorem qs_asg {tg e : Expr} {te : TE} {ma : M Vw} {gt : TG} {vars : List Nat} {gm : GM} (he : QE X EW e te ma) (hg : QG X tg gt vars gm) (hs : swapsWithSole [tg] e pos.line X.env = pure false := by rfl) (hw : swappedStores [tg] e X.env = pure none := by rfl)
    (h1 : (assignEach [tg] X.env).map (·.2) = [assign tg X.env] := by rfl) : QS X EW (.Assign [tg] e pos) (tAsg te gt) (mAsg ma gm) := ⟨ps_asg he.pe hg.pg hs hw h1, asg_sm hg he.sm⟩
theorem qs_set (i : Nat) {x : Str} {e : Expr} {te : TE} {ma : M Vw} {pos' : Pos} (hN : X.N.Nodup) (he : QE X EW e te ma) (hi : X.N[i]? = some x := by rfl) (hx : Loc X.env.scope x := by first | exact Or.inl rfl | exact Or.inr rfl) (hs : swapsWith e (some (.Name x pos')) pos.line X.env = pure false := by rfl)
    (hf : X.fn x = true ∨ X.env.scope.names.lookup x = some .local := by first | exact .inl rfl | exact .inr rfl) : QS X EW (.Assign [.Name x pos'] e pos) (tAsg te (gName i)) (mAsg ma (asgD i)) :=
  ⟨ps_set hN hi hx he.pe hs hf, asg_sm (qg_name (pos := pos') i hN hi hx hf) he.sm⟩
/-- a slot gets an object of one's own -/
def asgO (i : Nat) (o : O) : MS := fun ρ => match ρ[i]? with
  | none => none
  | some (.par _) => none
  | some _ => some (.nx, ρ.set i (.own o))
theorem asgO_some {i : Nat} {o : O} {ρ ρ' : List Sl} {r : Fl} (h : asgO i o ρ = some (r, ρ')) : r = .nx ∧ ρ' = ρ.set i (.own o) := by
  unfold asgO at h
  cases hs : ρ[i]? with
  | none => simp only [hs] at h; cases h
  | some s =>
    simp only [hs] at h
    cases s with
    | un => cases h; exact ⟨rfl, rfl⟩
    | dat d => cases h; exact ⟨rfl, rfl⟩
    | own o => cases h; exact ⟨rfl, rfl⟩
    | par o => cases h
def newL (i : Nat) (ds : List D) : MS := if ds.length ≤ BIG then asgO i (.lst ds) else fun _ => none
def mNewL (ma : M (List Vw)) (i : Nat) : MS := mThen ma fun ws => mThen (frcs ws) (newL i)
/-- x = [a, b, ..], a list of one's own -/
theorem qs_newL (i : Nat) {x : Str} {es : List Expr} {ta : TA} {ma : M (List Vw)} {pos' p2 : Pos} (hN : X.N.Nodup) (h : QA X EW es ta ma) (hi : X.N[i]? = some x := by rfl) (hx : Loc X.env.scope x := by first | exact Or.inl rfl | exact Or.inr rfl) (hs : swapsWith (.List es p2) (some (.Name x pos')) pos.line X.env = pure false := by rfl)
    (hf : X.fn x = true ∨ X.env.scope.names.lookup x = some .local := by first | exact .inl rfl | exact .inr rfl) : QS X EW (.Assign [.Name x pos'] (.List es p2) pos) (tAsg (tLst ta) (gName i)) (mNewL ma i) := by
  refine ⟨ps_set hN hi hx (pe_lst h.pa) hs hf, ?_⟩
  refine then_sm (R := VwsOk) (k := fun D σ xs H1 => xs.length ≤ sizeLine ∧ ∀ p, H1 p = none → D.nx (σ.set i (some (.ref p))) (upd H1 p (.lst xs))) h.sm fun g F H σ ρ xs ws hK ok hab r ρ' e D q => ?_
  unfold mThen at e
  cases h1 : frcs ws ρ with
  | none => rw [h1] at e; cases e
  | some p =>
    obtain ⟨r1, ρ1⟩ := p
    obtain ⟨ds, F1, rfl, e1, ok1, q1⟩ := frcs_ok ok hab h1
    rw [h1] at e
    have e : newL i ds ρ1 = some (r, ρ') := e
    unfold newL at e
    by_cases hz : ds.length ≤ BIG
    · rw [if_pos hz] at e
      obtain ⟨rfl, rfl⟩ := asgO_some e
      refine ⟨big_le (by rw [dps_len q1]; exact hz), fun p hp => ?_⟩
      exact q F1 _ _ e1 (ok1.setO (o := .lst ds) hp ⟨xs, upd_same, q1⟩)
    · rw [if_neg hz] at e; cases e
/-! ### loops -/
def loopS (gm : GM) (body : MS) : List D → MS
  | [], ρ => some (.nx, ρ)
  | d :: ds, ρ => match gm d ρ with
    | none => none
    | some ρ1 => match body ρ1 with
      | some (.nx, ρ2) => loopS gm body ds ρ2
      | some (.ct, ρ2) => loopS gm body ds ρ2
      | some (.bk, ρ2) => some (.nx, ρ2)
      | r => r
def mFor (mi : M (List D)) (gm : GM) (body : MS) : MS := mThen mi fun ds => loopS gm body ds
theorem qs_for {iter tg : Expr} {body : List Stmt} {wi : TI} {gt : TG} {vars : List Nat} {tb : TS} {mi : M (List D)} {gm : GM} {mb : MS} (hp : PassesOwn (model X.prog X.w) X.A X.env X.xe) (hc : X.calm = true) (hi : QI X EW tg iter wi mi) (hg : QG X tg gt vars gm) (hb : QSs X EW body tb mb)
    (hs : ∀ x, foldedSetIterable iter X.env x = pure x := by intro _; rfl) : QS X EW (.For tg iter body [] pos) (tFor wi gt tb) (mFor mi gm mb) := by
  refine ⟨ps_for hp hc hi.pi hg.pg hb.ps hs, ?_⟩
  refine then_sm (R := fun g _ F J ds => Wk g.K F J ds) (k := fun D σ J H1 => ∃ W : Nat → Nat → St → Hp → Prop, (∃ m, W 0 m σ H1) ∧ ∀ i m σ H, W i m σ H →
    (J.stop i H ∧ D.nx σ H) ∨ (J.go i H ∧ ∃ N : St → Hp → Prop, (∀ σ' H', N σ' H' → ∃ m', m' < m ∧ W (i + 1) m' σ' H') ∧ ∀ x H', J.yld i H x H' → gt x σ H' fun σ2 H2 => tb { D with nx := N, ct := N, bk := D.nx } σ2 H2))
    hi.sm fun g F H σ ρ J ds hK ok wk r ρ' e D q => ?_
  obtain ⟨wg, wst, wy⟩ := wk
  refine ⟨fun i m σ H => m = ds.length - i ∧ i ≤ ds.length ∧ ∃ F1 ρ1, Ex F F1 ∧ Ok g F1 H σ ρ1 ∧ loopS gm mb (ds.drop i) ρ1 = some (r, ρ'), ⟨_, rfl, Nat.zero_le _, F, ρ, Ex.refl F, ok, e⟩, ?_⟩
  rintro i m σ1 H1 ⟨rfl, hi', F1, ρ1, e1, ok1, h1⟩
  by_cases hlt : i < ds.length
  · refine .inr ⟨wg i H1 hlt (e1.trans ok1.ff), fun σ2 H2 => ∃ F2 ρ2, Ex F F2 ∧ Ok g F2 H2 σ2 ρ2 ∧ loopS gm mb (ds.drop (i + 1)) ρ2 = some (r, ρ'), fun σ2 H2 ⟨F2, ρ2, e2, ok2, h2⟩ => ⟨ds.length - (i + 1), by omega, rfl, hlt, F2, ρ2, e2, ok2, h2⟩, fun x H2 y => ?_⟩
    obtain ⟨d, hd, hx⟩ := wy i H1 x H2 hlt (e1.trans ok1.ff) y
    have step : ∃ F2, Ex F1 F2 ∧ Ok g F2 H2 σ1 ρ1 ∧ Dp g.K F2 x d := by
      rcases hx with ⟨rfl, hx⟩ | ⟨T, vs, es, rfl, hT, rfl, rfl, hx⟩
      · exact ⟨F1, Ex.refl F1, ok1, dpE e1 _ _ hx⟩
      · obtain ⟨ex, ok2⟩ := ok1.newD (o := .tup vs) hT
        exact ⟨_, ex, ok2, .tup (.inl (.inl upd_same)) (dpsE (e1.trans ex) _ _ hx)⟩
    obtain ⟨F2, e2, ok2, hd2⟩ := step
    have hdrop : ds.drop i = d :: ds.drop (i + 1) := by
      rw [List.drop_eq_getElem_cons hlt]
      have : ds[i] = d := by
        have h := hd
        rw [List.getElem?_eq_getElem hlt] at h
        exact Option.some.inj h
      rw [this]
    rw [hdrop] at h1
    unfold loopS at h1
    cases h3 : gm d ρ1 with
    | none => simp only [h3] at h1; cases h1
    | some ρ3 =>
      simp only [h3] at h1
      refine hg.sm g F2 H2 σ1 ρ1 x d ρ3 hK ok2 hd2 h3 _ fun σ3 ok3 _ => ?_
      cases h4 : mb ρ3 with
      | none => simp only [h4] at h1; cases h1
      | some p =>
        obtain ⟨r4, ρ4⟩ := p
        simp only [h4] at h1
        refine hb.sm g F2 H2 σ3 ρ3 hK ok3 r4 ρ4 h4 _ fun F4 H4 σ4 e4 ok4 => ?_
        cases r4 with
        | nx => exact ⟨F4, ρ4, (e1.trans e2).trans e4, ok4, h1⟩
        | ct => exact ⟨F4, ρ4, (e1.trans e2).trans e4, ok4, h1⟩
        | bk => cases h1; exact q F4 H4 σ4 ((e1.trans e2).trans e4) ok4
        | rt d => cases h1; exact q F4 H4 σ4 ((e1.trans e2).trans e4) ok4
        | er c => cases h1; exact q F4 H4 σ4 ((e1.trans e2).trans e4) ok4
  · have hi2 : i = ds.length := by omega
    subst hi2
    rw [List.drop_length] at h1
    cases h1
    exact .inl ⟨wst H1 (e1.trans ok1.ff), q F1 H1 σ1 e1 ok1⟩
def loopW (mt : M Bool) (body : MS) : Nat → MS
  | 0, _ => none
  | n + 1, ρ => match mt ρ with
    | none => none
    | some (.er c, ρ1) => some (.er c, ρ1)
    | some (.ok false, ρ1) => some (.nx, ρ1)
    | some (.ok true, ρ1) => match body ρ1 with
      | some (.nx, ρ2) => loopW mt body n ρ2
      | some (.ct, ρ2) => loopW mt body n ρ2
      | some (.bk, ρ2) => some (.nx, ρ2)
      | r => r
/-- a while of at most so many turns -/
theorem qs_while (fuel : Nat) {c : Expr} {body : List Stmt} {tc : TT} {tb : TS} {mt : M Bool} {mb : MS} (hp : PassesOwn (model X.prog X.w) X.A X.env X.xe) (hc : QT X EW c tc mt) (hb : QSs X EW body tb mb) : QS X EW (.While c body [] pos) (tWhile tc tb) (loopW mt mb fuel) := by
  refine ⟨ps_while hp hc.pt hb.ps, fun g F H σ ρ hK ok r ρ' e D q => ?_⟩
  refine ⟨fun n σ H => ∃ F1 ρ1, Ex F F1 ∧ Ok g F1 H σ ρ1 ∧ loopW mt mb n ρ1 = some (r, ρ'), ⟨fuel, F, ρ, Ex.refl F, ok, e⟩, ?_⟩
  rintro n σ1 H1 ⟨F1, ρ1, e1, ok1, h1⟩
  cases n with
  | zero => cases h1
  | succ n =>
    unfold loopW at h1
    cases h2 : mt ρ1 with
    | none => simp only [h2] at h1; cases h1
    | some p =>
      obtain ⟨r2, ρ2⟩ := p
      simp only [h2] at h1
      refine hc.sm g F1 H1 σ1 ρ1 hK ok1 r2 ρ2 h2 _ fun F2 H2 e2 ok2 => ?_
      cases r2 with
      | er c => cases h1; exact q F2 H2 σ1 (e1.trans e2) ok2
      | ok b =>
        intro a hab
        subst hab
        cases a with
        | false =>
          cases h1
          show (if false = true then _ else _)
          rw [if_neg Bool.false_ne_true]
          exact q F2 H2 σ1 (e1.trans e2) ok2
        | true =>
          simp only at h1
          rw [if_pos rfl]
          refine ⟨fun σ3 H3 => ∃ F3 ρ3, Ex F F3 ∧ Ok g F3 H3 σ3 ρ3 ∧ loopW mt mb n ρ3 = some (r, ρ'), fun σ3 H3 h3 => ⟨n, Nat.lt_succ_self n, h3⟩, ?_⟩
          cases h4 : mb ρ2 with
          | none => simp only [h4] at h1; cases h1
          | some p =>
            obtain ⟨r4, ρ4⟩ := p
            simp only [h4] at h1
            refine hb.sm g F2 H2 σ1 ρ2 hK ok2 r4 ρ4 h4 _ fun F4 H4 σ4 e4 ok4 => ?_
            cases r4 with
            | nx => exact ⟨F4, ρ4, (e1.trans e2).trans e4, ok4, h1⟩
            | ct => exact ⟨F4, ρ4, (e1.trans e2).trans e4, ok4, h1⟩
            | bk => cases h1; exact q F4 H4 σ4 ((e1.trans e2).trans e4) ok4
            | rt d => cases h1; exact q F4 H4 σ4 ((e1.trans e2).trans e4) ok4
            | er c => cases h1; exact q F4 H4 σ4 ((e1.trans e2).trans e4) ok4
/-! ### what a loop walks -/
/-- a list, a tuple -/
def seqI (w : Vw) : M (List D) := mBind (frc w) fun d => mLift (match d with
  | .list ds => some ds
  | .tuple ds => some ds
  | _ => none)
def seqL (w : Vw) : M (List D) := mBind (frc w) fun d => mLift (match d with
  | .list ds => some ds
  | _ => none)
def seqT (w : Vw) : M (List D) := mBind (frc w) fun d => mLift (match d with
  | .tuple ds => some ds
  | _ => none)
theorem wk_list {K : PySem.W.Frag} {F : Hp} {a : Addr} {vs : List V} {ds : List D} (h : SqL K F a vs) (hd : DpAll K F vs ds) : Wk K F (Itl K a) ds := by
  have hl := dps_len hd
  refine ⟨fun i H hi e => ⟨vs, vs[i]'(by omega), sqlE e h, by simp [hl, hi]⟩, fun H e => ⟨vs, sqlE e h, by omega⟩, fun i H x H' hi e y => ?_⟩
  obtain ⟨d, h1, h2⟩ := dps_getV hd (y.2 vs (sqlE e h))
  exact ⟨d, h1, .inl ⟨y.1, h2⟩⟩
theorem wk_tup {K : PySem.W.Frag} {F : Hp} {a : Addr} {vs : List V} {ds : List D} (h : SqT K F a vs) (hd : DpAll K F vs ds) : Wk K F (Itt K a) ds := by
  have hl := dps_len hd
  refine ⟨fun i H hi e => ⟨vs, vs[i]'(by omega), sqtE e h, by simp [hl, hi]⟩, fun H e => ⟨vs, sqtE e h, by omega⟩, fun i H x H' hi e y => ?_⟩
  obtain ⟨d, h1, h2⟩ := dps_getV hd (y.2 vs (sqtE e h))
  exact ⟨d, h1, .inl ⟨y.1, h2⟩⟩
def mSeqL (ma : M Vw) : M (List D) := mBind ma seqL
def mSeqT (ma : M Vw) : M (List D) := mBind ma seqT
theorem qi_list {tg l : Expr} {tl : TE} {ma : M Vw} (h : QE X EW l tl ma) : QI X EW tg l (iList X.K tl) (mSeqL ma) := by
  refine ⟨pi_list h.pe, fun g F H σ ρ hK ok => ?_⟩
  refine At.bind (k := fun x H1 R => ∃ a, x = .ref a ∧ (∃ xs, SqL X.K H1 a xs) ∧ R (Itl X.K a) H1) (h.sm g F H σ ρ hK ok) fun F1 H1 ρ1 x w e1 ok1 hx => ?_
  refine frc_at ok1 hx fun F2 ρ2 d e2 ok2 hd => ?_
  intro r ρ' e Q q
  cases d with
  | list ds =>
    cases e
    cases hd with
    | lst hs ha =>
      rw [← hK]
      exact ⟨_, rfl, ⟨_, sqlE ok2.ff hs⟩, q F2 H1 (Ex.refl F2) ok2 _ (wk_list hs ha)⟩
  | none => cases e
  | bool _ => cases e
  | int _ => cases e
  | str _ => cases e
  | tuple _ => cases e
  | dict _ => cases e
theorem qi_tup {tg l : Expr} {tl : TE} {ma : M Vw} (h : QE X EW l tl ma) : QI X EW tg l (iTup X.K tl) (mSeqT ma) := by
  refine ⟨pi_tup h.pe, fun g F H σ ρ hK ok => ?_⟩
  refine At.bind (k := fun x H1 R => ∃ a, x = .ref a ∧ (∃ xs, SqT X.K H1 a xs) ∧ R (Itt X.K a) H1) (h.sm g F H σ ρ hK ok) fun F1 H1 ρ1 x w e1 ok1 hx => ?_
  refine frc_at ok1 hx fun F2 ρ2 d e2 ok2 hd => ?_
  intro r ρ' e Q q
  cases d with
  | tuple ds =>
    cases e
    cases hd with
    | tup hs ha =>
      rw [← hK]
      exact ⟨_, rfl, ⟨_, sqtE ok2.ff hs⟩, q F2 H1 (Ex.refl F2) ok2 _ (wk_tup hs ha)⟩
  | none => cases e
  | bool _ => cases e
  | int _ => cases e
  | str _ => cases e
  | list _ => cases e
  | dict _ => cases e
def asI (w : Vw) : M Int := fun ρ => match rdD w ρ with
  | some (.int i) => some (.ok i, ρ)
  | _ => none
theorem asI_at {g : Gh} {F H : Hp} {σ : St} {ρ : List Sl} {x : V} {w : Vw} {α β : Type} {R : Hp → α → β → Prop} {t : Hp → (α → Hp → Prop) → Prop} {f : Int → M β} (ok : Ok g F H σ ρ) (hx : VwOk g σ F x w) (h : ∀ i, x = .int i → At EW g F H σ R t (f i ρ)) : At EW g F H σ R t (mBind (asI w) f ρ) := by
  intro r ρ' e Q q
  unfold mBind asI at e
  cases h1 : rdD w ρ with
  | none => simp only [h1] at e; cases e
  | some d =>
    simp only [h1] at e
    have hd := rdD_ok ok hx h1
    cases d with
    | int i => cases hd; exact h i rfl r ρ' e Q q
    | none => cases e
    | bool _ => cases e
    | str _ => cases e
    | list _ => cases e
    | tuple _ => cases e
    | dict _ => cases e
def upTo (lo : Int) (n : Nat) : List D := (List.range n).map fun (i : Nat) => .int (lo + (i : Int))
theorem upTo_length (lo : Int) (n : Nat) : (upTo lo n).length = n := by simp [upTo]
theorem wk_range {K : PySem.W.Frag} {F : Hp} {lo : Int} {n : Nat} : Wk K F (Itr lo n) (upTo lo n) := by
  refine ⟨fun i H hi _ => by rw [upTo_length] at hi; exact hi, fun H _ => by rw [upTo_length]; exact Nat.le_refl _, fun i H x H' hi _ y => ?_⟩
  obtain ⟨rfl, rfl⟩ := y
  rw [upTo_length] at hi
  exact ⟨.int (lo + i), by simp [upTo, hi], .inl ⟨rfl, .int _⟩⟩
def rngI (lo hi : Int) : M (List D) := fun ρ => if -1000000000000 ≤ lo ∧ lo ≤ 1000000000000 ∧ -1000000000000 ≤ hi ∧ hi ≤ 1000000000000 then some (.ok (upTo lo (hi - lo).toNat), ρ) else none
def mRng1 (ma : M Vw) : M (List D) := mBind ma fun w => mBind (asI w) fun j => rngI 0 j
def mRng2 (ma mb : M Vw) : M (List D) := mBind ma fun w => mBind mb fun u => mBind (asI w) fun i => mBind (asI u) fun j => rngI i j
theorem qi_range1 {tg a : Expr} {ta : TE} {ma : M Vw} {p : Pos} (hg : Gl X "range") (hm : X.mg "range" = none) (h : QE X EW a ta ma) (hs : starEach [a] X.env = [(false, eval a X.env)] := by rfl) : QI X EW tg (.Call (.Name "range" p) [a] [] pos) (iRng1 (tCons ta tNil)) (mRng1 ma) := by
  refine ⟨pi_range1 hg hm (pa_cons h.pe pa_nil hs) hs, fun g F H σ ρ hK ok => ?_⟩
  refine At.bind (k := fun x H1 R => ∃ j : Int, [x] = [.int j] ∧ -(2 ^ 62) ≤ j ∧ j < 2 ^ 62 ∧ R (Itr 0 j.toNat) H1) (h.sm g F H σ ρ hK ok) fun F1 H1 ρ1 x w e1 ok1 hx => ?_
  refine asI_at ok1 hx fun j hj => ?_
  subst hj
  intro r ρ' e Q q
  unfold rngI at e
  split at e
  · rename_i hz
    cases e
    refine ⟨j, rfl, by omega, by omega, ?_⟩
    have e0 : j - 0 = j := Int.sub_zero j
    rw [e0] at q
    exact q F1 H1 (Ex.refl F1) ok1 _ wk_range
  · cases e
theorem qi_range2 {tg a b : Expr} {ta tb : TE} {ma mb : M Vw} {p : Pos} (hg : Gl X "range") (hm : X.mg "range" = none) (h : QE X EW a ta ma) (k : QE X EW b tb mb) (hs : starEach [a, b] X.env = [(false, eval a X.env), (false, eval b X.env)] := by rfl) (hs2 : starEach [b] X.env = [(false, eval b X.env)] := by rfl) :
    QI X EW tg (.Call (.Name "range" p) [a, b] [] pos) (iRng2 (tCons ta (tCons tb tNil))) (mRng2 ma mb) := by
  refine ⟨pi_range2 hg hm (pa_cons h.pe (pa_cons k.pe pa_nil hs2) (by rw [hs, hs2])) hs hs2, fun g F H σ ρ hK ok => ?_⟩
  refine At.bind (k := fun x H1 R => tb σ H1 fun y H2 => ∃ i j : Int, [x, y] = [.int i, .int j] ∧ (-(2 ^ 62) ≤ i ∧ i < 2 ^ 62 ∧ -(2 ^ 62) ≤ j ∧ j < 2 ^ 62) ∧ R (Itr i (j - i).toNat) H2) (h.sm g F H σ ρ hK ok) fun F1 H1 ρ1 x w e1 ok1 hx => ?_
  refine At.bind (k := fun y H2 R => ∃ i j : Int, [x, y] = [.int i, .int j] ∧ (-(2 ^ 62) ≤ i ∧ i < 2 ^ 62 ∧ -(2 ^ 62) ≤ j ∧ j < 2 ^ 62) ∧ R (Itr i (j - i).toNat) H2) (k.sm g F1 H1 σ ρ1 hK ok1) fun F2 H2 ρ2 y u e2 ok2 hy => ?_
  refine asI_at ok2 (hx.mono e2) fun i hi => ?_
  refine asI_at ok2 hy fun j hj => ?_
  subst hi
  subst hj
  intro r ρ' e Q q
  unfold rngI at e
  split at e
  · rename_i hz
    cases e
    exact ⟨i, j, rfl, by omega, q F2 H2 (Ex.refl F2) ok2 _ wk_range⟩
  · cases e
end
end Dat
namespace Dat
open PySem L2
/-! ### comprehensions -/
def loopC (gm : GM) (mt : M Bool) (me : M Vw) (vs : List Nat) : List D → List Sl → List D → Option (List D × List Sl)
  | [], ρ, acc => some (acc, ρ)
  | d :: ds, ρ, acc => match gm d ρ with
    | none => none
    | some ρ1 => match mt ρ1 with
      | some (.ok true, ρ2) => (match mBind me frc ρ2 with
        | some (.ok y, ρ3) => if acc.length < BIG then loopC gm mt me vs ds (wipeS ρ3 vs) (acc ++ [y]) else none
        | _ => none)
      | some (.ok false, ρ2) => loopC gm mt me vs ds (wipeS ρ2 vs) acc
      | _ => none
def compL (gm : GM) (mt : M Bool) (me : M Vw) (vs : List Nat) (ds : List D) : M (List D) := fun ρ => match loopC gm mt me vs ds (wipeS ρ vs) [] with
  | none => none
  | some (ys, ρ') => some (.ok ys, wipeS ρ' vs)
def mLc (mi : M (List D)) (gm : GM) (mt : M Bool) (me : M Vw) (vs : List Nat) : M Vw := mBind mi fun ds => mBind (compL gm mt me vs ds) fun ys => mRet (.dat (.list ys))
/-- the tests of a comprehension -/
structure QTs (X : Cx) (EW : EWT) (ifs : List Expr) (t : TT) (m : M Bool) : Prop where
  pts : PTs X ifs t
  sm : ∀ g F H σ ρ, g.K = X.K → Ok g F H σ ρ → At EW g F H σ (fun _ (a b : Bool) => a = b) (t σ) (m ρ)
section
variable {X : Cx} {EW : EWT} {pos : Pos}
theorem qts_nil : QTs X EW [] tYes (mRet true) := ⟨pts_nil, fun g F H σ ρ _ ok => At.ret (a := true) ok rfl fun _ q => q⟩
theorem qts_one {c : Expr} {t : TT} {m : M Bool} (h : QT X EW c t m) : QTs X EW [c] t m := ⟨pts_one h.pt, h.sm⟩
/-- what the loop of a comprehension does; Qd: what is wanted of the list that stands at Dl in the end, no data yet -/
theorem lc_sm {K : PySem.W.Frag} {J : It} {ds ys : List D} {gt : TG} {vars : List Nat} {gm : GM} {tt : TT} {mt : M Bool} {te : TE} {me : M Vw} {vs : List Nat} {g : Gh} {F H : Hp} {σ : St} {ρ ρ' : List Sl}
    (hK : g.K = K) (hg : ∀ g F H σ ρ v d ρ', g.K = K → Ok g F H σ ρ → Dp g.K F v d → gm d ρ = some ρ' → ∀ Q : St → Hp → Prop, (∀ σ', Ok g F H σ' ρ' → (∀ vs, (∀ i ∈ vars, i ∈ vs) → wipe σ' vs = wipe σ vs) → Q σ' H) → gt v σ H Q)
    (ht : ∀ g F H σ ρ, g.K = K → Ok g F H σ ρ → At EW0 g F H σ (fun _ (a b : Bool) => a = b) (tt σ) (mt ρ))
    (he : ∀ g F H σ ρ, g.K = K → Ok g F H σ ρ → At EW0 g F H σ (VwOk g σ) (te σ) (me ρ))
    (hv : ∀ i ∈ vars, i ∈ vs) (ok : Ok g F H σ ρ) (wk : Wk g.K F J ds) (hl : loopC gm mt me vs ds (wipeS ρ vs) [] = some (ys, ρ')) {Dl : Addr} (hD : H Dl = none) {Qd : Hp → Prop}
    (q : ∀ F' H' ws, Ex F F' → Ok g F' H' σ (wipeS ρ' vs) → F' Dl = none → H' Dl = some (.lst ws) → DpAll g.K F' ws ys → g.H0 Dl = none → (∀ i, g.at_ i ≠ some Dl) →
      (∀ (i : Nat) (o : O), (wipeS ρ' vs)[i]? = some (.own o) → σ[i]? ≠ some (some (V.ref Dl))) → ys.length ≤ BIG → Qd H') :
    ∃ W : Nat → Nat → Hp → Prop, (∃ m, W 0 m (upd H Dl (.lst []))) ∧ ∀ i m H, W i m H →
      (J.stop i H ∧ Qd H) ∨ (J.go i H ∧ ∃ Nx : Hp → Prop, (∀ H', Nx H' → ∃ m', m' < m ∧ W (i + 1) m' H') ∧ ∀ x H', J.yld i H x H' → gt x (wipe σ vs) H' fun σ2 H2 => wipe σ2 vs = wipe σ vs ∧ tt σ2 H2 fun b H3 =>
        if b = true then te σ2 H3 fun y H4 => ∃ acc, H4 Dl = some (.lst acc) ∧ acc.length < sizeLine ∧ Nx (upd H4 Dl (.lst (acc ++ [y]))) else Nx H3) := by
  obtain ⟨wg, wst, wy⟩ := wk
  have at0 : ∀ i, g.at_ i ≠ some Dl := fun i e => by
    obtain ⟨u, hu⟩ := g.ath i Dl e
    obtain ⟨o', e'⟩ := ok.th Dl u hu
    rw [hD] at e'; cases e'
  have h00 : g.H0 Dl = none := ok.fresh hD
  refine ⟨fun i m H1 => m = ds.length - i ∧ i ≤ ds.length ∧ ∃ F1 ρ1 acc ws, Ex F F1 ∧ Ok g F1 H1 (wipe σ vs) ρ1 ∧ F1 Dl = none ∧ H1 Dl = some (.lst ws) ∧ DpAll g.K F1 ws acc ∧ acc.length ≤ BIG ∧
    (∀ (i : Nat) (o : O), ρ1[i]? = some (.own o) → (wipe σ vs)[i]? ≠ some (some (V.ref Dl))) ∧ loopC gm mt me vs (ds.drop i) ρ1 acc = some (ys, ρ'), ⟨_, rfl, Nat.zero_le _, F, wipeS ρ vs, [], [], Ex.refl F, (ok.newH hD).wiped vs, ok.ff.free hD, upd_same, .nil, Nat.zero_le _, ?_, hl⟩, ?_⟩
  · intro i o h1 h2
    have k := ok.wiped vs
    obtain ⟨l, e1, _, e3, _⟩ := k.sl i _ _ h1 h2
    cases e1
    obtain ⟨u, hu⟩ := oo_some e3
    rw [hD] at hu; cases hu
  rintro i m H1 ⟨rfl, hi', F1, ρ1, acc, ws, e1, ok1, fD, hD1, hws, hz, nD, h1⟩
  by_cases hlt : i < ds.length
  · let NX : Hp → Prop := fun H2 => ∃ F2 ρ2 acc ws, Ex F F2 ∧ Ok g F2 H2 (wipe σ vs) ρ2 ∧ F2 Dl = none ∧ H2 Dl = some (.lst ws) ∧ DpAll g.K F2 ws acc ∧ acc.length ≤ BIG ∧
      (∀ (i : Nat) (o : O), ρ2[i]? = some (.own o) → (wipe σ vs)[i]? ≠ some (some (V.ref Dl))) ∧ loopC gm mt me vs (ds.drop (i + 1)) ρ2 acc = some (ys, ρ')
    refine .inr ⟨wg i H1 hlt (e1.trans ok1.ff), NX, fun H2 h2 => ⟨ds.length - (i + 1), by omega, rfl, hlt, h2⟩, fun x H2 y => ?_⟩
    obtain ⟨d, hd, hx⟩ := wy i H1 x H2 hlt (e1.trans ok1.ff) y
    have step : ∃ F2, Ex F1 F2 ∧ Ok g F2 H2 (wipe σ vs) ρ1 ∧ Dp g.K F2 x d ∧ F2 Dl = none ∧ H2 Dl = some (.lst ws) := by
      rcases hx with ⟨rfl, hx⟩ | ⟨T, us, es, rfl, hT, rfl, rfl, hx⟩
      · exact ⟨F1, Ex.refl F1, ok1, dpE e1 _ _ hx, fD, hD1⟩
      · obtain ⟨ex, ok2⟩ := ok1.newD (o := .tup us) hT
        have ne : Dl ≠ T := by
          rintro rfl
          rw [hD1] at hT; cases hT
        exact ⟨_, ex, ok2, .tup (.inl (.inl upd_same)) (dpsE (e1.trans ex) _ _ hx), by rw [upd_ne ne]; exact fD, by rw [upd_ne ne]; exact hD1⟩
    obtain ⟨F2, e2, ok2, hd2, fD2, hD2⟩ := step
    have hdrop : ds.drop i = d :: ds.drop (i + 1) := by
      rw [List.drop_eq_getElem_cons hlt]
      have : ds[i] = d := by
        have h := hd
        rw [List.getElem?_eq_getElem hlt] at h
        exact Option.some.inj h
      rw [this]
    rw [hdrop] at h1
    unfold loopC at h1
    cases h3 : gm d ρ1 with
    | none => simp only [h3] at h1; cases h1
    | some ρ3 =>
      simp only [h3] at h1
      refine hg ok2.sub F2 H2 (wipe σ vs) ρ1 x d ρ3 hK ok2.subOk hd2 h3 _ fun σ3 ok3 w3 => ?_
      have w3' : wipe σ3 vs = wipe σ vs := (w3 vs hv).trans (wipe_idem σ vs vs fun _ h => h)
      refine ⟨w3', ?_⟩
      have ok3b : Ok g F2 H2 σ3 ρ3 := ok2.back ok3
      obtain ⟨hD3, fD3, nD3⟩ := ok2.stay ok3 hD2 fD2 nD at0
      cases h4 : mt ρ3 with
      | none => simp only [h4] at h1; cases h1
      | some p =>
        obtain ⟨r4, ρ4⟩ := p
        simp only [h4] at h1
        refine ht ok3b.sub F2 H2 σ3 ρ3 hK ok3b.subOk r4 ρ4 h4 _ fun F4 H4 e4 ok4 => ?_
        cases r4 with
        | er c => cases h1
        | ok b =>
          intro b' hb'
          subst hb'
          have ok4b : Ok g F4 H4 σ3 ρ4 := ok3b.back ok4
          obtain ⟨hD4, fD4, nD4⟩ := ok3b.stay ok4 hD3 fD3 nD3 at0
          cases b' with
          | false =>
            rw [if_neg Bool.false_ne_true]
            simp only at h1
            refine ⟨F4, wipeS ρ4 vs, acc, ws, (e1.trans e2).trans e4, by rw [← w3']; exact ok4b.wiped vs, fD4, hD4, dpsE (e2.trans e4) _ _ hws, hz, fun j o a c => ?_, h1⟩
            rcases wipeS_get a with z | ⟨z, nv⟩
            · cases z
            · rw [← w3', wipe_out nv] at c
              exact nD4 j o z c
          | true =>
            rw [if_pos rfl]
            simp only at h1
            unfold mBind at h1
            cases h5 : me ρ4 with
            | none => simp only [h5] at h1; cases h1
            | some p =>
              obtain ⟨r5, ρ5⟩ := p
              simp only [h5] at h1
              refine he ok4b.sub F4 H4 σ3 ρ4 hK ok4b.subOk r5 ρ5 h5 _ fun F5 H5 e5 ok5 => ?_
              cases r5 with
              | er c => cases h1
              | ok w =>
                intro yv hy
                simp only at h1
                have ok5b : Ok g F5 H5 σ3 ρ5 := ok4b.back ok5
                obtain ⟨hD5, fD5, nD5⟩ := ok4b.stay ok5 hD4 fD4 nD4 at0
                cases h6 : frc w ρ5 with
                | none => simp only [h6] at h1; cases h1
                | some p =>
                  obtain ⟨r6, ρ6⟩ := p
                  obtain ⟨dy, F6, rfl, e6, ok6, q6⟩ := frc_ok (g := ok5b.sub) ok5b.subOk hy h6
                  simp only [h6] at h1
                  have ok6b : Ok g F6 H5 σ3 ρ6 := ok5b.back ok6
                  obtain ⟨hD6, fD6, nD6⟩ := ok5b.stay ok6 hD5 fD5 nD5 at0
                  by_cases hz6 : acc.length < BIG
                  · rw [if_pos hz6] at h1
                    have hl6 := dps_len hws
                    refine ⟨ws, hD6, by rw [hl6]; exact big_lt (Nat.le_of_lt hz6), F6, wipeS ρ6 vs, acc ++ [dy], ws ++ [yv], (((e1.trans e2).trans e4).trans e5).trans e6, ?_, fD6, upd_same, dps_app (dpsE (((e2.trans e4).trans e5).trans e6) _ _ hws) (.cons q6 .nil), ?_, fun j o a c => ?_, h1⟩
                    · rw [← w3']
                      refine Ok.wiped ?_ vs
                      refine ⟨ok6b.ff.mut fD6, ok6b.gf, fun a o n r => ?_, ok6b.nw, fun a o r => ?_, ok6b.len, fun j s ov a c => ?_, ok6b.dis⟩
                      · have ne : a ≠ Dl := by
                          rintro rfl
                          rw [h00] at r; cases r
                        rw [upd_ne ne]; exact ok6b.gh a o n r
                      · have ne : a ≠ Dl := by
                          rintro rfl
                          rw [h00] at r; cases r
                        rw [upd_ne ne]; exact ok6b.th a o r
                      · have old := ok6b.sl j s ov a c
                        cases s with
                        | un => trivial
                        | dat d => exact old
                        | own o =>
                          obtain ⟨l, z1, z2, z3, z4⟩ := old
                          have ne : l ≠ Dl := by
                            rintro rfl
                            subst z1
                            exact nD6 j o a c
                          exact ⟨l, z1, z2, ooE (Ex.refl F6) z3 fun u hu => by rw [upd_ne ne]; exact hu, z4⟩
                        | par o =>
                          obtain ⟨l, z1, z2, z3, z4, z5⟩ := old
                          have ne : l ≠ Dl := by
                            rintro rfl
                            exact at0 j z4
                          exact ⟨l, z1, z2, ooE (Ex.refl F6) z3 fun u hu => by rw [upd_ne ne]; exact hu, z4, z5⟩
                    · rw [List.length_append, List.length_singleton]; exact hz6
                    · rcases wipeS_get a with z | ⟨z, nv⟩
                      · cases z
                      · rw [← w3', wipe_out nv] at c
                        exact nD6 j o z c
                  · rw [if_neg hz6] at h1; cases h1
  · have hi2 : i = ds.length := by omega
    subst hi2
    rw [List.drop_length] at h1
    cases h1
    refine .inl ⟨wst H1 (e1.trans ok1.ff), q F1 H1 ws e1 ok1.unwiped fD hD1 hws h00 at0 (fun j o a c => ?_) hz⟩
    rcases wipeS_get a with z | ⟨z, nv⟩
    · cases z
    · exact nD j o z (by rw [wipe_out nv]; exact c)
theorem lc_at {J : It} {ds : List D} {gt : TG} {vars : List Nat} {gm : GM} {tt : TT} {mt : M Bool} {te : TE} {me : M Vw} {vs : List Nat} {g : Gh} {F H : Hp} {σ : St} {ρ : List Sl}
    (hK : g.K = X.K) (hg : ∀ g F H σ ρ v d ρ', g.K = X.K → Ok g F H σ ρ → Dp g.K F v d → gm d ρ = some ρ' → ∀ Q : St → Hp → Prop, (∀ σ', Ok g F H σ' ρ' → (∀ vs, (∀ i ∈ vars, i ∈ vs) → wipe σ' vs = wipe σ vs) → Q σ' H) → gt v σ H Q)
    (ht : ∀ g F H σ ρ, g.K = X.K → Ok g F H σ ρ → At EW0 g F H σ (fun _ (a b : Bool) => a = b) (tt σ) (mt ρ))
    (he : ∀ g F H σ ρ, g.K = X.K → Ok g F H σ ρ → At EW0 g F H σ (VwOk g σ) (te σ) (me ρ))
    (hv : ∀ i ∈ vars, i ∈ vs) (ok : Ok g F H σ ρ) (wk : Wk g.K F J ds) :
    At EW g F H σ (VwOk g σ) (fun H1 (Q : VK) => ∀ D, H1 D = none → ∃ W : Nat → Nat → Hp → Prop, (∃ m, W 0 m (upd H1 D (.lst []))) ∧ ∀ i m H, W i m H →
      (J.stop i H ∧ Q (.ref D) H) ∨ (J.go i H ∧ ∃ Nx : Hp → Prop, (∀ H', Nx H' → ∃ m', m' < m ∧ W (i + 1) m' H') ∧ ∀ x H', J.yld i H x H' → gt x (wipe σ vs) H' fun σ2 H2 => wipe σ2 vs = wipe σ vs ∧ tt σ2 H2 fun b H3 =>
        if b = true then te σ2 H3 fun y H4 => ∃ acc, H4 D = some (.lst acc) ∧ acc.length < sizeLine ∧ Nx (upd H4 D (.lst (acc ++ [y]))) else Nx H3)) (mBind (compL gm mt me vs ds) (fun ys => mRet (.dat (.list ys))) ρ) := by
  intro r ρ' e Q q
  unfold mBind compL at e
  cases h1 : loopC gm mt me vs ds (wipeS ρ vs) [] with
  | none => simp only [h1] at e; cases e
  | some p =>
    obtain ⟨ys, ρ1⟩ := p
    simp only [h1] at e
    cases e
    intro Dl hD
    refine lc_sm (K := X.K) hK hg ht he hv ok wk h1 hD fun F' H' ws e1 ok1 fD hD1 hws h0 hat hn _ => ?_
    obtain ⟨ex, ok2, hd⟩ := ok1.take hD1 fD hws h0 hn hat
    exact q _ _ (e1.trans ex) ok2 _ hd
variable {elt tg iter : Expr} {ifs : List Expr} {scope : Scope} {wi : TI} {gt : TG} {tt : TT} {te : TE} {mi : M (List D)} {gm : GM} {mt : M Bool} {me : M Vw} {vars : List Nat}
theorem qe_lc {own : List (Str × Nat)} (hc : X.calm = true) (hN : X.N.Nodup) (hi : QI X EW tg iter wi mi) (ok : BlkOk X.N X.env.scope scope own)
    (hg : ∀ (s : Shared) (H : Hp) (C : Addr) (cl : List (Str × Addr)) (fp : List Addr), QG (X.blk s H scope (compEnvC scope cl C X.env) fp) tg gt vars gm)
    (ht : ∀ (s : Shared) (H : Hp) (C : Addr) (cl : List (Str × Addr)) (fp : List Addr), QTs (X.blk s H scope (compEnvC scope cl C X.env) fp) EW0 ifs tt mt)
    (he : ∀ (s : Shared) (H : Hp) (C : Addr) (cl : List (Str × Addr)) (fp : List Addr), QE (X.blk s H scope (compEnvC scope cl C X.env) fp) EW0 elt te me)
    (hv : ∀ i ∈ vars, i ∈ own.map (·.2) := by decide) (hs : ∀ x, foldedSetIterable iter X.env x = pure x := by intro _; rfl) :
    QE X EW (.ListComp elt [⟨tg, iter, ifs, 0⟩] scope pos) (tLc wi gt tt te (own.map (·.2))) (mLc mi gm mt me (own.map (·.2))) := by
  refine ⟨pe_lc hc hN hi.pi ok (fun s H C cl fp => (hg s H C cl fp).pg) (fun s H C cl fp => (ht s H C cl fp).pts) (fun s H C cl fp => (he s H C cl fp).pe) hs, fun g F H σ ρ hK ok => ?_⟩
  refine At.bind (k := fun J H1 (Q : VK) => ∀ D, H1 D = none → ∃ W : Nat → Nat → Hp → Prop, (∃ m, W 0 m (upd H1 D (.lst []))) ∧ ∀ i m H, W i m H →
      (J.stop i H ∧ Q (.ref D) H) ∨ (J.go i H ∧ ∃ Nx : Hp → Prop, (∀ H', Nx H' → ∃ m', m' < m ∧ W (i + 1) m' H') ∧ ∀ x H', J.yld i H x H' → gt x (wipe σ (own.map (·.2))) H' fun σ2 H2 => wipe σ2 (own.map (·.2)) = wipe σ (own.map (·.2)) ∧ tt σ2 H2 fun b H3 =>
        if b = true then te σ2 H3 fun y H4 => ∃ acc, H4 D = some (.lst acc) ∧ acc.length < sizeLine ∧ Nx (upd H4 D (.lst (acc ++ [y]))) else Nx H3)) (hi.sm g F H σ ρ hK ok) fun F1 H1 ρ1 J ds e1 ok1 wk => ?_
  exact lc_at hK (hg X.s_0 X.H_0 0 [] []).sm (ht X.s_0 X.H_0 0 [] []).sm (he X.s_0 X.H_0 0 [] []).sm hv ok1 wk
/-- x = [..] -/
theorem qs_setLc (i : Nat) {y : Str} {py pos spos : Pos} {own : List (Str × Nat)} (hc : X.calm = true) (hN : X.N.Nodup) (hi : QI X EW tg iter wi mi) (ok : BlkOk X.N X.env.scope scope own)
    (hg : ∀ (s : Shared) (H : Hp) (C : Addr) (cl : List (Str × Addr)) (fp : List Addr), QG (X.blk s H scope (compEnvC scope cl C X.env) fp) tg gt vars gm)
    (ht : ∀ (s : Shared) (H : Hp) (C : Addr) (cl : List (Str × Addr)) (fp : List Addr), QTs (X.blk s H scope (compEnvC scope cl C X.env) fp) EW0 ifs tt mt)
    (he : ∀ (s : Shared) (H : Hp) (C : Addr) (cl : List (Str × Addr)) (fp : List Addr), QE (X.blk s H scope (compEnvC scope cl C X.env) fp) EW0 elt te me)
    (hy : X.N[i]? = some y := by rfl) (hyl : X.env.scope.names.lookup y = some .local := by rfl)
    (hsw : swapsWith (.ListComp elt [⟨tg, iter, ifs, 0⟩] scope pos) (some (.Name y py)) spos.line X.env = pure true := by exact sw_true rfl rfl rfl (by decide +kernel))
    (hv : ∀ i ∈ vars, i ∈ own.map (·.2) := by decide) (hs : ∀ x, foldedSetIterable iter X.env x = pure x := by intro _; rfl) :
    QS X EW (.Assign [.Name y py] (.ListComp elt [⟨tg, iter, ifs, 0⟩] scope pos) spos) (tAsg (tLc wi gt tt te (own.map (·.2))) (gName i)) (mAsg (mLc mi gm mt me (own.map (·.2))) (asgD i)) :=
  ⟨ps_setLc hc hN hy hyl hsw hi.pi ok (fun s H C cl fp => (hg s H C cl fp).pg) (fun s H C cl fp => (ht s H C cl fp).pts) (fun s H C cl fp => (he s H C cl fp).pe) hs,
    asg_sm (tg := .Name y py) (qg_name i hN hy (.inl hyl) (.inr hyl)) (qe_lc (pos := pos) hc hN hi ok hg ht he hv hs).sm⟩
end
end Dat
namespace Dat
open PySem L2
/-! ### enumerate over a tuple -/
section
open PySem.AutoSeq1 (wpAny_loadPart')
theorem enumNewT (l : Addr) (items : Array Value) (n : Nat) (dct : Option Addr) (sl : Array (Option Value)) :
    Meets (Builtin.«enumerate.__new__» ⟨[.type "enumerate", .ref l], []⟩) (fun _ R s => s.heap.get? l = some { cls := .type "tuple", dict := dct, data := .seq items n, slots := sl } ∧
      R (.ok (.ret (.ref (s.heap.push { cls := .type "tuple_iterator", data := .fields #[.ref l, .int 0 0] }).objs.size)))
        { s with heap := (s.heap.push { cls := .type "tuple_iterator", data := .fields #[.ref l, .int 0 0] }).push { cls := .type "enumerate", data := .fields #[.none, .bool false, .ref s.heap.objs.size, rawInt 0, .none, .none] } }) :=
  .of_wp fun prog w A R s h => by
    obtain ⟨hp, g, d, tk, os⟩ := s; obtain ⟨hl, h⟩ := h
    have hsub := sub_enumerate
    have hL : Heap.IsTuple (Shared.heap ⟨hp, g, d, tk, os⟩) l items := ⟨_, hl, rfl, n, rfl⟩
    wp_walk using wpAny_loadPart' hl
    refine wpAny_stack_any fun st => wpAny_pure ?_
    split
    · rename_i c _ _ _ _ _
      cases (c == Value.type "enumerate")
      · wp_walk using wpAny_loadPart' hl, wpAny_pyIter_tuple hL
        exact ⟨_, rfl, h⟩
      · wp_walk using wpAny_loadPart' hl, wpAny_pyIter_tuple hL
        exact ⟨_, rfl, h⟩
    · wp_walk using wpAny_loadPart' hl, wpAny_pyIter_tuple hL
      exact ⟨_, rfl, h⟩
variable {prog : Program} {w : World} {A : Around} {E : Value → Shared → Prop} {s : Shared}
theorem callEnumT {l : Addr} {items : Array Value} {Q : Value → Shared → Prop} (hL : s.heap.IsTuple l items)
    (h : ∀ h', IsEnum h' (s.heap.objs.size + 1) s.heap.objs.size 0 .none → h'.IsTupleIter s.heap.objs.size l 0 → h'.objs.size = s.heap.objs.size + 2 →
      (∀ b o, s.heap.get? b = some o → h'.get? b = some o) → Q (.ref (s.heap.objs.size + 1)) { s with heap := h' }) :
    wpAny (model prog w) A (call (.type "enumerate") [.ref l]) Q E s := by
  obtain ⟨⟨c, dct, dt, sl⟩, hl, hc, n, hd⟩ := hL
  replace hc : c = .type "tuple" := hc
  replace hd : dt = .seq items n := hd
  subst hc hd
  refine callType_new F.called_enumerate (by decide) (F.typeCall_enumerate_1 _) (F.newCall_enumerate_1 _) (fun obj => F.args_object_init_2 obj _) F.entry_enumerate_new
    (enumNewT l items n dct sl) ⟨hl, ?_⟩
  have hz : (s.heap.push { cls := .type "tuple_iterator", data := .fields #[.ref l, .int 0 0] }).objs.size = s.heap.objs.size + 1 := Heap.size_push ..
  show _ ∧ _
  rw [hz]
  have he : IsEnum ((s.heap.push { cls := .type "tuple_iterator", data := .fields #[.ref l, .int 0 0] }).push
      { cls := .type "enumerate", data := .fields #[.none, .bool false, .ref s.heap.objs.size, rawInt 0, .none, .none] }) (s.heap.objs.size + 1) s.heap.objs.size 0 .none := by
    have := Heap.get?_push_size (s.heap.push { cls := .type "tuple_iterator", data := .fields #[.ref l, .int 0 0] })
      (o := { cls := .type "enumerate", data := .fields #[.none, .bool false, .ref s.heap.objs.size, rawInt 0, .none, .none] }) rfl
    rw [hz] at this; exact this
  refine ⟨⟨_, he, rfl⟩, h _ he ⟨_, Heap.get?_push_of_some _ (Heap.get?_push_size _ rfl), rfl, rfl⟩ (by rw [Heap.size_push, hz]) fun b o x => Heap.get?_push_of_some _ (Heap.get?_push_of_some _ x)⟩
end
/-- the tuple at a, its items in new pairs -/
def Iet (K : PySem.W.Frag) (a : Addr) : It :=
  ⟨fun i H => ∃ (xs : List V) (x : V), SqT K H a xs ∧ xs[i]? = some x, fun i H v H' => ∃ T x, v = .ref T ∧ H T = none ∧ H' = upd H T (.tup [.int (i : Nat), x]) ∧ ∀ xs, SqT K H a xs → xs[i]? = some x, fun i H => ∃ xs : List V, SqT K H a xs ∧ xs.length ≤ i⟩
theorem turnEnumT {P : Program} {w : World} {K : PySem.W.Frag} {elts : List Expr} {kk : Nat} {tpos : Pos} (a e it : Addr) :
    Turn P w K (.Tuple elts kk tpos) (Iet K a) [e, it] e (fun i h => (∃ old, IsEnum h e it ((i : Nat) : Int) old) ∧ h.IsTupleIter it a i ∧ e ≠ it) where
  mem := by simp
  obj := fun i h st b hb => by
    obtain ⟨⟨old, he⟩, ⟨o, ho, hc, hd⟩, _⟩ := st
    have e' : b = e ∨ b = it := by simpa using hb
    rcases e' with z | z
    · rw [z]; exact ⟨_, he, fun v q => nomatch q⟩
    · rw [z]; exact ⟨o, ho, fun v q => by rw [hd] at q; cases q⟩
  keep := fun i h h' st k => let ⟨⟨old, he⟩, hi, hne⟩ := st; ⟨⟨old, k e (by simp) _ he⟩, hi.at fun o q => k it (by simp) o q, hne⟩
  item := by
    intro X hP hw hK hc i pins s σ H E I hf st hg
    subst hP hw hK
    obtain ⟨⟨old, he⟩, hit, hne⟩ := st
    obtain ⟨xs, x, hq, hx⟩ := hg
    obtain ⟨its, rv, p, hz⟩ := I.tuple hq
    obtain ⟨u, hu, ru⟩ := rv.get hx
    have hel : e < s.heap.objs.size := Heap.lt_size he
    have hil : it < s.heap.objs.size := by obtain ⟨_, q, _⟩ := hit; exact Heap.lt_size q
    have hai : a ≠ it := by
      rintro rfl
      obtain ⟨o1, q1, c1, _⟩ := hit
      obtain ⟨o2, q2, c2, _⟩ := p
      rw [q1] at q2; cases q2
      rw [c1] at c2
      exact absurd (Value.type.inj c2) (by decide)
    have hae : e ∉ [it, a] := by
      intro hm
      have e' : e = it ∨ e = a := by simpa using hm
      rcases e' with z | rfl
      · exact hne z
      · obtain ⟨o2, q2, c2, _⟩ := p
        have he' : s.heap.get? e = _ := he
        rw [he'] at q2; cases q2
        exact absurd (Value.type.inj c2) (by decide)
    have hin : i < its.toArray.size := by
      have := (List.getElem?_eq_some_iff.mp hu).1
      simpa using this
    refine wpAny_pyNext_enum_itemD (Draws.tuple (prog := X.prog) (w := X.w) (A := X.A.in1) (by show X.A.handled = none; exact I.ok.hd hc) it a hai its.toArray) he ⟨hit, show s.heap.IsTuple a its.toArray from p⟩ hin hne hae fun u' h' tk hu' ho hst hT hsz hk => ?_
    have eu : u' = u := by
      have h1 : its.toArray[i]? = some u := by simpa using hu
      rw [h1] at hu'; exact (Option.some.inj hu').symm
    subst eu
    refine ⟨_, rfl, wpAny_letOwnedTupleGo_enum (s := { s with heap := h', toks := tk + 1 }) ho fun h'' he' sb => ?_⟩
    have hT2 : h''.get? s.heap.objs.size = some { cls := .type "tuple", data := .seq #[.int i tk, u'] } := (sb.2 _ (Nat.ne_of_gt hel)).trans hT
    have new : ObjOk X.prog X.w (upd H s.heap.objs.size (.tup [.int (i : Nat), x])) h'' s.heap.objs.size (.tup [.int (i : Nat), x]) :=
      ⟨by show 2 ≤ sizeLine; decide, [.int i tk, u'], .cons ⟨_, rfl⟩ (.cons ru .nil), ⟨_, hT2, rfl, _, rfl⟩⟩
    have I1 : Inv X pins σ (upd H s.heap.objs.size (.tup [.int (i : Nat), x])) { s with heap := h'', toks := tk + 1 } :=
      I.turnedNew (ch := [e, it]) (fun b ob hb q => (sb.2 b (fun z => hb (by simp [z]))).trans (hk b ob (fun z => hb (by simp [z])) (fun z => hb (by simp [z])) q)) hf (Nat.le_refl _) new
    refine ⟨.ref s.heap.objs.size, _, I1, rfl, ⟨_, x, rfl, I.hok.fresh (Nat.le_refl _), rfl, fun ys hy => by rw [I.tuple_inj hy hq]; exact hx⟩, ⟨⟨u', ?_⟩, hst.1.at fun o q => (sb.2 it (Ne.symm hne)).trans q, hne⟩, fun b hb => ?_⟩
    · have e1 : ((i + 1 : Nat) : Int) = (i : Int) + 1 := by omega
      rw [e1]; exact he'
    · have hb' : b < s.heap.objs.size := by
        have e' : b = e ∨ b = it := by simpa using hb
        rcases e' with z | z
        · rw [z]; exact hel
        · rw [z]; exact hil
      rw [upd_ne (Nat.ne_of_lt hb')]
      exact (hf b hb).1
  done := by
    intro X hP hw hK hc i pins s σ H E I hf st hg
    subst hP hw hK
    obtain ⟨⟨old, he⟩, hit, hne⟩ := st
    obtain ⟨xs, hq, hx⟩ := hg
    obtain ⟨its, rv, p, hz⟩ := I.tuple hq
    obtain ⟨f0, f1, f2, f3, f4, f5⟩ := hf it (by simp)
    have hl := rv.length
    have hai : a ≠ it := by
      rintro rfl
      obtain ⟨o1, q1, c1, _⟩ := hit
      obtain ⟨o2, q2, c2, _⟩ := p
      rw [q1] at q2; cases q2
      rw [c1] at c2
      exact absurd (Value.type.inj c2) (by decide)
    have D0 := Draws.tuple (prog := X.prog) (w := X.w) (A := X.A.in1) (by show X.A.handled = none; exact I.ok.hd hc) it a hai its.toArray
    have D1 : Draws X.prog X.w X.A.in1 it [it, a] i (fun _ _ => False) (fun j h => (j = i ∧ h.IsTupleIter it a i ∧ h.IsTuple a its.toArray)) := by
      refine ⟨fun j h st => ?_, fun j h h' st hk => ⟨st.1, st.2.1.at fun o e => hk it (by simp) o e, st.2.2.at fun o e => hk a (by simp) o e⟩, fun j s Q E hlt st _ => by have := st.1; omega, fun s Q E st hE => ?_⟩
      · obtain ⟨o, ho, _⟩ := st.2.1
        exact ⟨o, ho⟩
      · exact wpAny_nextOf_tuple_end (by show X.A.handled = none; exact I.ok.hd hc) st.2.1 st.2.2 (by simp; omega) hE
    exact wpAny_pyNext_enum_endD D1 he ⟨rfl, hit, p⟩ fun h' eb => ⟨rfl, I.turned (t' := s.toks) (fun b o hb q => eb b o hb q) f0 f1 f3 f4 f5⟩
  self := fun A i s Q E st h => let ⟨⟨_, he⟩, _⟩ := st; wpAny_pyIter_enum he h
def iEnumT (K : PySem.W.Frag) (ta : TA) : TI := fun σ H R => ta σ H fun vs H1 => ∃ a xs, vs = [.ref a] ∧ SqT K H1 a xs ∧ R (Iet K a) H1
theorem pi_enumT {X : Cx} {e : Expr} {ta : TA} {p pos tpos : Pos} {elts : List Expr} {kk : Nat} (hg : Gl X "enumerate") (hm : X.mg "enumerate" = none) (ha : PA X [e] ta) (hs : starEach [e] X.env = [(false, eval e X.env)] := by rfl) :
    PI X (.Tuple elts kk tpos) (.Call (.Name "enumerate" p) [e] [] pos) (iEnumT X.K ta) := by
  refine ⟨fun pins s σ H R I h => ?_⟩
  refine PyProof.Rows.Call_ (ld_blt I hg hm PyProof.Rows.boot_enumerate (PyProof.Rows.callWith_type1 (thn (ha.run pos pins s σ H _ I h) fun us s1 ⟨vs, H1, I1, r1, q1⟩ => ?_) hs rfl))
  obtain ⟨a, xs, ex, hq, q⟩ := q1
  subst ex
  cases r1 with
  | cons r rr =>
    cases rr
    cases r
    obtain ⟨its, rv, p', hz⟩ := I1.tuple hq
    refine callEnumT (show s1.heap.IsTuple a its.toArray from p') fun h' he hit hsz hk => wpAny_pyIter_enum he ?_
    have I2 : Inv X pins σ H1 { s1 with heap := h' } := I1.kept (t' := s1.toks) hk
    refine ⟨s1.heap.objs.size + 1, [s1.heap.objs.size + 1, s1.heap.objs.size], _, _, H1, rfl, I2, turnEnumT a (s1.heap.objs.size + 1) s1.heap.objs.size, ⟨⟨.none, he⟩, hit, Nat.succ_ne_self _⟩, fun b hb => ?_, q⟩
    have e' : b = s1.heap.objs.size + 1 ∨ b = s1.heap.objs.size := by simpa using hb
    have hle : s1.heap.objs.size ≤ b := by
      rcases e' with z | z
      · rw [z]; exact Nat.le_add_right _ _
      · rw [z]; exact Nat.le_refl _
    exact I1.fpOk hle (I1.hok.fresh hle)
/-- pairs of a place and an item -/
def enumD (ds : List D) : List D := (List.range ds.length).map fun i => .tuple [.int (i : Nat), ds.getD i .none]
theorem enumD_length (ds : List D) : (enumD ds).length = ds.length := by simp [enumD]
theorem enumD_get {ds : List D} {i : Nat} {d : D} (h : ds[i]? = some d) : (enumD ds)[i]? = some (.tuple [.int (i : Nat), d]) := by
  have hi := (List.getElem?_eq_some_iff.mp h).1
  unfold enumD
  rw [List.getElem?_map, List.getElem?_range hi]
  simp only [Option.map_some, List.getD, h, Option.getD_some]
theorem wk_enumL {K : PySem.W.Frag} {F : Hp} {a : Addr} {vs : List V} {ds : List D} (h : SqL K F a vs) (hd : DpAll K F vs ds) : Wk K F (Ite K a) (enumD ds) := by
  have hl := dps_len hd
  refine ⟨fun i H hi e => ⟨vs, vs[i]'(by rw [enumD_length] at hi; omega), sqlE e h, by rw [enumD_length] at hi; simp [hl, hi]⟩, fun H e => ⟨vs, sqlE e h, by rw [enumD_length]; omega⟩, fun i H x H' hi e y => ?_⟩
  obtain ⟨T, x, rfl, hT, rfl, hx⟩ := y
  obtain ⟨d, h1, h2⟩ := dps_getV hd (hx vs (sqlE e h))
  exact ⟨_, enumD_get h1, .inr ⟨T, _, [.int (i : Nat), d], rfl, hT, rfl, rfl, .cons (.int _) (.cons h2 .nil)⟩⟩
theorem wk_enumT {K : PySem.W.Frag} {F : Hp} {a : Addr} {vs : List V} {ds : List D} (h : SqT K F a vs) (hd : DpAll K F vs ds) : Wk K F (Iet K a) (enumD ds) := by
  have hl := dps_len hd
  refine ⟨fun i H hi e => ⟨vs, vs[i]'(by rw [enumD_length] at hi; omega), sqtE e h, by rw [enumD_length] at hi; simp [hl, hi]⟩, fun H e => ⟨vs, sqtE e h, by rw [enumD_length]; omega⟩, fun i H x H' hi e y => ?_⟩
  obtain ⟨T, x, rfl, hT, rfl, hx⟩ := y
  obtain ⟨d, h1, h2⟩ := dps_getV hd (hx vs (sqtE e h))
  exact ⟨_, enumD_get h1, .inr ⟨T, _, [.int (i : Nat), d], rfl, hT, rfl, rfl, .cons (.int _) (.cons h2 .nil)⟩⟩
section
variable {X : Cx} {EW : EWT} {pos : Pos}
def mEnumL (ma : M Vw) : M (List D) := mBind (mSeqL ma) fun ds => mRet (enumD ds)
def mEnumT (ma : M Vw) : M (List D) := mBind (mSeqT ma) fun ds => mRet (enumD ds)
theorem seqL_at {g : Gh} {F H : Hp} {σ : St} {ρ : List Sl} {x : V} {w : Vw} {α β : Type} {R : Hp → α → β → Prop} {t : Hp → (α → Hp → Prop) → Prop} {f : List D → M β} (ok : Ok g F H σ ρ) (hx : VwOk g σ F x w)
    (h : ∀ F' ρ' ds a vs, Ex F F' → Ok g F' H σ ρ' → x = .ref a → SqL g.K F' a vs → DpAll g.K F' vs ds → At EW g F' H σ R t (f ds ρ')) : At EW g F H σ R t (mBind (seqL w) f ρ) := by
  have e0 : mBind (seqL w) f = mBind (frc w) fun d => mBind (mLift (match d with | .list ds => some ds | _ => none)) f := by
    funext ρ
    unfold seqL mBind
    cases frc w ρ with
    | none => rfl
    | some p =>
      obtain ⟨r, ρ1⟩ := p
      cases r <;> rfl
  rw [e0]
  refine frc_at ok hx fun F2 ρ2 d e2 ok2 hd => At.lift fun ds hds => ?_
  cases d with
  | list ds' =>
    cases hds
    cases hd with
    | lst hs ha => exact h F2 ρ2 ds _ _ e2 ok2 rfl hs ha
  | none => cases hds
  | bool _ => cases hds
  | int _ => cases hds
  | str _ => cases hds
  | tuple _ => cases hds
  | dict _ => cases hds
theorem seqT_at {g : Gh} {F H : Hp} {σ : St} {ρ : List Sl} {x : V} {w : Vw} {α β : Type} {R : Hp → α → β → Prop} {t : Hp → (α → Hp → Prop) → Prop} {f : List D → M β} (ok : Ok g F H σ ρ) (hx : VwOk g σ F x w)
    (h : ∀ F' ρ' ds a vs, Ex F F' → Ok g F' H σ ρ' → x = .ref a → SqT g.K F' a vs → DpAll g.K F' vs ds → At EW g F' H σ R t (f ds ρ')) : At EW g F H σ R t (mBind (seqT w) f ρ) := by
  have e0 : mBind (seqT w) f = mBind (frc w) fun d => mBind (mLift (match d with | .tuple ds => some ds | _ => none)) f := by
    funext ρ
    unfold seqT mBind
    cases frc w ρ with
    | none => rfl
    | some p =>
      obtain ⟨r, ρ1⟩ := p
      cases r <;> rfl
  rw [e0]
  refine frc_at ok hx fun F2 ρ2 d e2 ok2 hd => At.lift fun ds hds => ?_
  cases d with
  | tuple ds' =>
    cases hds
    cases hd with
    | tup hs ha => exact h F2 ρ2 ds _ _ e2 ok2 rfl hs ha
  | none => cases hds
  | bool _ => cases hds
  | int _ => cases hds
  | str _ => cases hds
  | list _ => cases hds
  | dict _ => cases hds
theorem bind_assoc {α β γ : Type} (m : M α) (f : α → M β) (k : β → M γ) : mBind (mBind m f) k = mBind m fun a => mBind (f a) k := by
  funext ρ
  unfold mBind
  cases m ρ with
  | none => rfl
  | some p =>
    obtain ⟨r, ρ1⟩ := p
    cases r <;> rfl
theorem qi_enumL {es : List Expr} {k : Nat} {tp : Pos} {e : Expr} {te : TE} {ma : M Vw} {p : Pos} (hg : Gl X "enumerate") (hm : X.mg "enumerate" = none) (h : QE X EW e te ma) (hs : starEach [e] X.env = [(false, eval e X.env)] := by rfl) :
    QI X EW (.Tuple es k tp) (.Call (.Name "enumerate" p) [e] [] pos) (iEnum X.K (tCons te tNil)) (mEnumL ma) := by
  refine ⟨pi_enum hg hm (pa_cons h.pe pa_nil hs) hs, fun g F H σ ρ hK ok => ?_⟩
  unfold mEnumL mSeqL
  rw [bind_assoc]
  refine At.bind (k := fun x H1 R => ∃ a xs, [x] = [.ref a] ∧ SqL X.K H1 a xs ∧ R (Ite X.K a) H1) (h.sm g F H σ ρ hK ok) fun F1 H1 ρ1 x w e1 ok1 hx => ?_
  refine seqL_at ok1 hx fun F2 ρ2 ds a vs e2 ok2 ea hs ha => ?_
  subst ea
  rw [← hK]
  exact At.ret (a := Ite g.K a) ok2 (wk_enumL hs ha) fun Q q => ⟨a, vs, rfl, sqlE ok2.ff hs, q⟩
theorem qi_enumT {es : List Expr} {k : Nat} {tp : Pos} {e : Expr} {te : TE} {ma : M Vw} {p : Pos} (hg : Gl X "enumerate") (hm : X.mg "enumerate" = none) (h : QE X EW e te ma) (hs : starEach [e] X.env = [(false, eval e X.env)] := by rfl) :
    QI X EW (.Tuple es k tp) (.Call (.Name "enumerate" p) [e] [] pos) (iEnumT X.K (tCons te tNil)) (mEnumT ma) := by
  refine ⟨pi_enumT hg hm (pa_cons h.pe pa_nil hs) hs, fun g F H σ ρ hK ok => ?_⟩
  unfold mEnumT mSeqT
  rw [bind_assoc]
  refine At.bind (k := fun x H1 R => ∃ a xs, [x] = [.ref a] ∧ SqT X.K H1 a xs ∧ R (Iet X.K a) H1) (h.sm g F H σ ρ hK ok) fun F1 H1 ρ1 x w e1 ok1 hx => ?_
  refine seqT_at ok1 hx fun F2 ρ2 ds a vs e2 ok2 ea hs ha => ?_
  subst ea
  rw [← hK]
  exact At.ret (a := Iet g.K a) ok2 (wk_enumT hs ha) fun Q q => ⟨a, vs, rfl, sqtE ok2.ff hs, q⟩
end
end Dat
namespace Dat
open PySem L2 PyProof.Rows
/-! ### defs on data -/
structure Grow (F H F' H' : Hp) : Prop where
  ff : Ex F F'
  fh : Ex F' H'
  hh : Ex H H'
  nw : ∀ a o, F' a = some o → F a = none → H a = none
def spP (K : PySem.W.Frag) (f : List D → Option D) : Sp := fun vs H Q _ => ∃ F ds d, Ex F H ∧ DpAll K F vs ds ∧ f ds = some d ∧ ∀ v F' H', Grow F H F' H' → Dp K F' v d → Q v H'
/-- the first argument is the caller's own object: it may change -/
structure GrowB (l : Addr) (F H F' H' : Hp) : Prop where
  ff : Ex F F'
  fh : Ex F' H'
  hh : ∀ a o, a ≠ l → H a = some o → H' a = some o
  fl : F' l = none
  nw : ∀ a o, F' a = some o → F a = none → H a = none
def spB (K : PySem.W.Frag) (f : O → List D → Option (D × O)) : Sp := fun vs H Q _ => ∃ F l us o ds d o', vs = .ref l :: us ∧ Ex F H ∧ F l = none ∧ OOk K F H l o ∧ DpAll K F us ds ∧ f o ds = some (d, o') ∧ ∀ v F' H', GrowB l F H F' H' → OOk K F' H' l o' → Dp K F' v d → Q v H'
def runP (n N : Nat) (ms : MS) (ds : List D) : Option D := if ds.length = n then (match ms (ds.map Sl.dat ++ List.replicate (N - n) .un) with
  | some (.rt d, _) => some d
  | some (.nx, _) => some .none
  | _ => none) else none
def runB (n N : Nat) (ms : MS) (o : O) (ds : List D) : Option (D × O) := if ds.length + 1 = n then (match ms (.par o :: ds.map Sl.dat ++ List.replicate (N - n) .un) with
  | some (.rt d, .par o' :: _) => some (d, o')
  | some (.nx, .par o' :: _) => some (.none, o')
  | _ => none) else none
theorem start_get {N : List Str} {vs : List V} {i : Nat} {ov : Option V} (h : (L2.start N vs)[i]? = some ov) : (∃ v, vs[i]? = some v ∧ ov = some v) ∨ (vs.length ≤ i ∧ ov = none) := by
  unfold L2.start at h
  rw [List.getElem?_append] at h
  split at h
  · rw [List.getElem?_map] at h
    cases q : vs[i]? with
    | none => rw [q] at h; cases h
    | some v => rw [q] at h; exact .inl ⟨v, rfl, (Option.some.inj h).symm⟩
  · rename_i hi
    rw [List.length_map] at hi
    have := List.mem_of_getElem? h
    exact .inr ⟨by omega, List.eq_of_mem_replicate this⟩
theorem datun_get {ds : List D} {n : Nat} {i : Nat} {s : Sl} (h : (ds.map Sl.dat ++ List.replicate n Sl.un)[i]? = some s) : (∃ d, ds[i]? = some d ∧ s = .dat d) ∨ (ds.length ≤ i ∧ s = .un) := by
  rw [List.getElem?_append] at h
  split at h
  · rw [List.getElem?_map] at h
    cases q : ds[i]? with
    | none => rw [q] at h; cases h
    | some v => rw [q] at h; exact .inl ⟨v, rfl, (Option.some.inj h).symm⟩
  · rename_i hi
    rw [List.length_map] at hi
    have := List.mem_of_getElem? h
    exact .inr ⟨by omega, List.eq_of_mem_replicate this⟩
section
variable {P : Program} {w : World} {K : PySem.W.Frag} {mg : Str → Option Value} {base : Heap}
theorem start_ok {F H : Hp} {N : List Str} {vs : List V} {ds : List D} {n : Nat} (e : Ex F H) (h : DpAll K F vs ds) (hn : ds.length = n) (hN : n ≤ N.length) :
    Ok ⟨K, F, H, fun _ => none, fun _ _ z => nomatch z⟩ F H (L2.start N vs) (ds.map Sl.dat ++ List.replicate (N.length - n) .un) where
  ff := e
  gf := Ex.refl F
  gh := fun _ _ _ q => q
  nw := fun a o q r => by
    have r : F a = none := r
    rw [r] at q; cases q
  th := fun a o q => ⟨o, q⟩
  len := by
    have hl := dps_len h
    unfold L2.start
    simp [hl, hn]
  sl := fun i s ov q r => by
    rcases datun_get q with ⟨d, h1, rfl⟩ | ⟨_, rfl⟩
    · obtain ⟨v, h2, h3⟩ := dps_get h h1
      rcases start_get r with ⟨v', h4, rfl⟩ | ⟨h4, _⟩
      · rw [h2] at h4; cases h4
        exact ⟨v, rfl, h3⟩
      · have := (List.getElem?_eq_some_iff.mp h2).1
        omega
    · trivial
  dis := fun i j s t l q r hs _ _ _ => by
    rcases datun_get q with ⟨d, h1, rfl⟩ | ⟨_, rfl⟩ <;> cases hs
/-- THE RULE for a def on data -/
theorem fnP {x qual : Str} {st : Stmt} {f : Addr} {fd : FuncData} {N ps : List Str} {k : Nat} {ms : MS} (F : Fun K x qual st f fd) (S : FnScope N ps (defScope st)) (hN : ps.length ≤ N.length)
    (hbody : ∀ (cdv : Value) (A : Around) (outer : List Env) (s : Shared) (H : Hp) (E : XK), Room k (A.deeper (envOfC qual (defScope st) s.heap.objs.size f cdv)) →
      ∃ t, QSs (cxOf CX0 P w K mg base N qual (defScope st) f cdv A outer s H E).nox EW0 (defBody st) t ms) : FnOk P w K mg base CX0 (k + 1) f fd ps (spP K (runP ps.length N.length ms)) := by
  refine F.ok S (fun vs H Q E h => ?_) (fun cdv A outer s H vs Q E hr h => ?_)
  · obtain ⟨F0, ds, d, _, h2, h3, _⟩ := h
    unfold runP at h3
    split at h3
    · rename_i hl
      rw [dps_len h2, hl]
    · cases h3
  · obtain ⟨F0, ds, d, e0, h2, h3, q⟩ := h
    unfold runP at h3
    split at h3
    · rename_i hl
      obtain ⟨t, hq⟩ := hbody cdv A outer s H E hr
      refine ⟨t, hq.ps, ?_⟩
      have ok := start_ok (N := N) e0 h2 hl hN
      cases hm : ms (ds.map Sl.dat ++ List.replicate (N.length - ps.length) .un) with
      | none => rw [hm] at h3; cases h3
      | some p =>
        obtain ⟨r, ρ'⟩ := p
        rw [hm] at h3
        refine hq.sm _ F0 H _ _ rfl ok r ρ' hm _ fun F' H' σ' e1 ok1 => ?_
        have gr : Grow F0 H F' H' := ⟨e1, ok1.ff, fun a o z => ok1.gh a o (fun _ z => nomatch z) z, ok1.nw⟩
        cases r with
        | nx => cases h3; exact q .non F' H' gr .non
        | rt d' => cases h3; exact fun v hv => q v F' H' gr hv
        | bk => cases h3
        | ct => cases h3
        | er c => cases h3
    · cases h3
theorem start_okB {F H : Hp} {N : List Str} {vs : List V} {ds : List D} {n : Nat} {l : Addr} {o : O} (e : Ex F H) (hl : F l = none) (ho : OOk K F H l o) (h : DpAll K F vs ds) (hn : ds.length + 1 = n) (hN : n ≤ N.length) :
    Ok ⟨K, F, H, fun i => if i = 0 then some l else none, fun i a z => by
      by_cases hi : i = 0
      · subst hi; cases z; exact oo_some ho
      · rw [if_neg hi] at z; cases z⟩ F H (L2.start N (.ref l :: vs)) (.par o :: ds.map Sl.dat ++ List.replicate (N.length - n) .un) where
  ff := e
  gf := Ex.refl F
  gh := fun _ _ _ q => q
  nw := fun a o q r => by
    have r : F a = none := r
    rw [r] at q; cases q
  th := fun a o q => ⟨o, q⟩
  len := by
    have hl := dps_len h
    unfold L2.start
    simp [hl]
    omega
  sl := fun i s ov q r => by
    cases i with
    | zero =>
      have e1 : Sl.par o = s := by simpa using q
      subst e1
      have e2 : some (V.ref l) = ov := by simpa [L2.start] using r
      subst e2
      exact ⟨l, rfl, hl, ho, rfl, oo_some ho⟩
    | succ j =>
      have q' : (ds.map Sl.dat ++ List.replicate (N.length - n) Sl.un)[j]? = some s := by simpa using q
      have r' := start_get r
      rcases datun_get q' with ⟨d, h1, rfl⟩ | ⟨_, rfl⟩
      · obtain ⟨v, h2, h3⟩ := dps_get h h1
        rcases r' with ⟨v', h4, rfl⟩ | ⟨h4, _⟩
        · have h4 : vs[j]? = some v' := by simpa using h4
          rw [h2] at h4; cases h4
          exact ⟨v, rfl, h3⟩
        · have := (List.getElem?_eq_some_iff.mp h2).1
          simp at h4
          omega
      · trivial
  dis := fun i j s t l q r hs ht _ _ => by
    cases i with
    | zero =>
      cases j with
      | zero => rfl
      | succ j =>
        have r' : (ds.map Sl.dat ++ List.replicate (N.length - n) Sl.un)[j]? = some t := by simpa using r
        rcases datun_get r' with ⟨d, h1, rfl⟩ | ⟨_, rfl⟩ <;> cases ht
    | succ i =>
      have q' : (ds.map Sl.dat ++ List.replicate (N.length - n) Sl.un)[i]? = some s := by simpa using q
      rcases datun_get q' with ⟨d, h1, rfl⟩ | ⟨_, rfl⟩ <;> cases hs
/-- .. whose first parameter is an object that it may change -/
theorem fnB {x qual : Str} {st : Stmt} {f : Addr} {fd : FuncData} {N ps : List Str} {k : Nat} {ms : MS} (F : Fun K x qual st f fd) (S : FnScope N ps (defScope st)) (hN : ps.length ≤ N.length)
    (hbody : ∀ (cdv : Value) (A : Around) (outer : List Env) (s : Shared) (H : Hp) (E : XK), Room k (A.deeper (envOfC qual (defScope st) s.heap.objs.size f cdv)) →
      ∃ t, QSs (cxOf CX0 P w K mg base N qual (defScope st) f cdv A outer s H E).nox EW0 (defBody st) t ms) : FnOk P w K mg base CX0 (k + 1) f fd ps (spB K (runB ps.length N.length ms)) := by
  refine F.ok S (fun vs H Q E h => ?_) (fun cdv A outer s H vs Q E hr h => ?_)
  · obtain ⟨F0, l, us, o, ds, d, o', rfl, _, _, _, h2, h3, _⟩ := h
    unfold runB at h3
    split at h3
    · rename_i hl
      rw [List.length_cons, dps_len h2, hl]
    · cases h3
  · obtain ⟨F0, l, us, o, ds, d, o', rfl, e0, hl0, ho, h2, h3, q⟩ := h
    unfold runB at h3
    split at h3
    · rename_i hl
      obtain ⟨t, hq⟩ := hbody cdv A outer s H E hr
      refine ⟨t, hq.ps, ?_⟩
      have ok := start_okB (N := N) e0 hl0 ho h2 hl hN
      cases hm : ms (.par o :: ds.map Sl.dat ++ List.replicate (N.length - ps.length) .un) with
      | none => rw [hm] at h3; cases h3
      | some p =>
        obtain ⟨r, ρ'⟩ := p
        rw [hm] at h3
        refine hq.sm _ F0 H _ _ rfl ok r ρ' hm _ fun F' H' σ' e1 ok1 => ?_
        have key : ∀ o2 ρ2, ρ' = .par o2 :: ρ2 → GrowB l F0 H F' H' ∧ OOk K F' H' l o2 := fun o2 ρ2 e => by
          subst e
          obtain ⟨ov, _, l', _, f1, f2, f3, _⟩ := ok1.at (i := 0) rfl
          cases f3
          refine ⟨⟨e1, ok1.ff, fun a o hne z => ok1.gh a o (fun i z => ?_) z, f1, ok1.nw⟩, f2⟩
          have z : (if i = 0 then some l else none) = some a := z
          by_cases hi : i = 0
          · rw [if_pos hi] at z; cases z; exact hne rfl
          · rw [if_neg hi] at z; cases z
        cases r with
        | nx =>
          cases ρ' with
          | nil => cases h3
          | cons s ρ2 =>
            cases s with
            | par o2 =>
              cases h3
              obtain ⟨k1, k2⟩ := key _ _ rfl
              exact q .non F' H' k1 k2 .non
            | un => cases h3
            | dat _ => cases h3
            | own _ => cases h3
        | rt d' =>
          cases ρ' with
          | nil => cases h3
          | cons s ρ2 =>
            cases s with
            | par o2 =>
              cases h3
              obtain ⟨k1, k2⟩ := key _ _ rfl
              exact fun v hv => q v F' H' k1 k2 hv
            | un => cases h3
            | dat _ => cases h3
            | own _ => cases h3
        | bk => cases h3
        | ct => cases h3
        | er c => cases h3
    · cases h3
end
/-- behind a call that grows both heaps -/
theorem Ok.call {g : Gh} {F F' H H' : Hp} {σ : L2.St} {ρ : List Sl} (k : Ok g F H σ ρ) (q : Grow F H F' H') : Ok g F' H' σ ρ := k.grow q.ff q.fh q.hh q.nw
/-- .. and changes a slot's own object -/
theorem Ok.callB {g : Gh} {F F' H H' : Hp} {σ : L2.St} {ρ : List Sl} {i : Nat} {l : Addr} {s s' : Sl} {o' : O} (k : Ok g F H σ ρ) (hs : ρ[i]? = some s) (hv : σ[i]? = some (some (.ref l)))
    (he : (∃ o, s = .own o ∧ s' = .own o') ∨ (∃ o, s = .par o ∧ s' = .par o')) (q : GrowB l F H F' H') (ho : OOk g.K F' H' l o') : Ok g F' H' σ (ρ.set i s') := by
  have own : isOwn s = true := by rcases he with ⟨o, rfl, _⟩ | ⟨o, rfl, _⟩ <;> rfl
  have own' : isOwn s' = true := by rcases he with ⟨o, _, rfl⟩ | ⟨o, _, rfl⟩ <;> rfl
  have hsl := k.sl i s _ hs hv
  have h0 : (g.H0 l = none) ∨ g.at_ i = some l := by
    rcases he with ⟨o, rfl, _⟩ | ⟨o, rfl, _⟩
    · obtain ⟨l', h1, _, _, h4⟩ := hsl; cases h1; exact .inl h4
    · obtain ⟨l', h1, _, _, h4, _⟩ := hsl; cases h1; exact .inr h4
  refine ⟨q.fh, k.gf.trans q.ff, fun a o n r => q.hh a o ?_ (k.gh a o n r), fun a o r n => ?_, fun a o r => ?_, by simp [k.len], fun j t ov w r => ?_, fun a b t v m w r ht hw y z => ?_⟩
  · rintro rfl
    rcases h0 with h0 | h0
    · rw [r] at h0; cases h0
    · exact n i h0
  · cases w : F a with
    | some u => exact k.nw a u w n
    | none => exact k.fresh (q.nw a o r w)
  · by_cases ha : a = l
    · subst ha
      obtain ⟨u, hu⟩ := oo_some ho
      exact ⟨u, hu⟩
    · obtain ⟨o', e⟩ := k.th a o r
      exact ⟨o', q.hh a o' ha e⟩
  · rcases get_set w with ⟨rfl, rfl, _⟩ | ⟨h1, h2⟩
    · rw [hv] at r; cases r
      rcases he with ⟨o, rfl, rfl⟩ | ⟨o, rfl, rfl⟩
      · obtain ⟨l', h1, _, _, h4⟩ := hsl; cases h1; exact ⟨l, rfl, q.fl, ho, h4⟩
      · obtain ⟨l', h1, _, _, h4⟩ := hsl; cases h1; exact ⟨l, rfl, q.fl, ho, h4⟩
    · have old := k.sl j t ov h2 r
      have ff : ∀ m u, F m = none → H m = some u → F' m = none := fun m u f1 f2 => by
        cases z : F' m with
        | none => rfl
        | some o => rw [q.nw m o z f1] at f2; cases f2
      cases t with
      | un => trivial
      | dat d => obtain ⟨v, e1, e2⟩ := old; exact ⟨v, e1, dpE q.ff _ _ e2⟩
      | own o =>
        obtain ⟨m, e1, e2, e3, e4⟩ := old
        obtain ⟨u, hu⟩ := oo_some e3
        have ne : m ≠ l := by
          rintro rfl
          subst e1
          exact h1 (k.dis j i _ s m h2 hs rfl own r hv)
        exact ⟨m, e1, ff m u e2 hu, ooE q.ff e3 fun w hw => q.hh m w ne hw, e4⟩
      | par o =>
        obtain ⟨m, e1, e2, e3, e4⟩ := old
        obtain ⟨u, hu⟩ := oo_some e3
        have ne : m ≠ l := by
          rintro rfl
          subst e1
          exact h1 (k.dis j i _ s m h2 hs rfl own r hv)
        exact ⟨m, e1, ff m u e2 hu, ooE q.ff e3 fun w hw => q.hh m w ne hw, e4⟩
  · have t1 : ∃ t', ρ[a]? = some t' ∧ isOwn t' = true := by
      rcases get_set w with ⟨rfl, rfl, _⟩ | ⟨_, h2⟩
      · exact ⟨s, hs, own⟩
      · exact ⟨t, h2, ht⟩
    have t2 : ∃ t', ρ[b]? = some t' ∧ isOwn t' = true := by
      rcases get_set r with ⟨rfl, rfl, _⟩ | ⟨_, h2⟩
      · exact ⟨s, hs, own⟩
      · exact ⟨v, h2, hw⟩
    obtain ⟨t', e1, e2⟩ := t1
    obtain ⟨w', e3, e4⟩ := t2
    exact k.dis a b t' w' m e1 e3 e2 e4 y z
section
variable {X : Cx} {EW : EWT} {pos : Pos}
def appF (f : List D → Option D) (ws : List Vw) : M Vw := mBind (frcs ws) fun ds => mLift ((f ds).map Vw.dat)
def mCall (f : List D → Option D) (ma : M (List Vw)) : M Vw := mBind ma (appF f)
theorem qe_call {k : Nat} {f : Addr} {fd : FuncData} {ps : List Str} {fm : List D → Option D} {x : Str} {p : Pos} {e : Expr} {es : List Expr} {ta : TA} {ma : M (List Vw)} (F : FnOk X.prog X.w X.K X.mg X.base CX0 k f fd ps (spP X.K fm)) (hr : Room k X.A) (hm : X.mg x = some (.ref f)) (hk : PySem.W.keepIn X.K (.ref f) = true) (hb : Binds X.K fd ps [])
    (ha : QA X EW (e :: es) ta ma) (hg : Gl X x := by rfl) (hdb : (x == ("__debug__" : Str)) = false := by decide) (he : starEach (e :: es) X.env = (false, eval e X.env) :: starEach es X.env := by rfl) (hpl : (backTo pos (starEach es X.env)).any (·.1) = false := by rfl) :
    QE X EW (.Call (.Name x p) (e :: es) [] pos) (tCall (spP X.K fm) [] E0 ta) (mCall fm ma) := by
  refine ⟨pe_call F hr hg hm hk hb .nil pass0 ha.pa hdb he hpl, fun g F H σ ρ hK ok => ?_⟩
  refine At.bind (k := fun vs H1 (Q : VK) => spP X.K fm (vs ++ []) H1 Q E0) (ha.sm g F H σ ρ hK ok) fun F1 H1 ρ1 vs ws e1 ok1 hx => ?_
  refine frcs_at ok1 hx fun F2 ρ2 ds e2 ok2 hds => ?_
  intro r ρ' e Q q
  unfold mLift at e
  cases h1 : fm ds with
  | none => rw [h1] at e; cases e
  | some d =>
    rw [h1] at e
    cases e
    rw [List.append_nil]
    rw [← hK]
    exact ⟨F2, ds, d, ok2.ff, hds, h1, fun v F' H' gr hv => q F' H' gr.ff (ok2.call gr) v hv⟩
def appB (f : O → List D → Option (D × O)) (ws : List Vw) : M Vw := match ws with
  | .loc i :: ws => mBind (frcs ws) fun ds ρ => match ρ[i]? with
    | some (.own o) => (match f o ds with
      | some (d, o') => some (.ok (.dat d), ρ.set i (.own o'))
      | none => none)
    | some (.par o) => (match f o ds with
      | some (d, o') => some (.ok (.dat d), ρ.set i (.par o'))
      | none => none)
    | _ => none
  | _ => fun _ => none
def mCallB (f : O → List D → Option (D × O)) (ma : M (List Vw)) : M Vw := mBind ma (appB f)
theorem qe_callB {k : Nat} {f : Addr} {fd : FuncData} {ps : List Str} {fm : O → List D → Option (D × O)} {x : Str} {p : Pos} {e : Expr} {es : List Expr} {ta : TA} {ma : M (List Vw)} (F : FnOk X.prog X.w X.K X.mg X.base CX0 k f fd ps (spB X.K fm)) (hr : Room k X.A) (hm : X.mg x = some (.ref f)) (hk : PySem.W.keepIn X.K (.ref f) = true) (hb : Binds X.K fd ps [])
    (ha : QA X EW (e :: es) ta ma) (hg : Gl X x := by rfl) (hdb : (x == ("__debug__" : Str)) = false := by decide) (he : starEach (e :: es) X.env = (false, eval e X.env) :: starEach es X.env := by rfl) (hpl : (backTo pos (starEach es X.env)).any (·.1) = false := by rfl) :
    QE X EW (.Call (.Name x p) (e :: es) [] pos) (tCall (spB X.K fm) [] E0 ta) (mCallB fm ma) := by
  refine ⟨pe_call F hr hg hm hk hb .nil pass0 ha.pa hdb he hpl, fun g F H σ ρ hK ok => ?_⟩
  refine At.bind (k := fun vs H1 (Q : VK) => spB X.K fm (vs ++ []) H1 Q E0) (ha.sm g F H σ ρ hK ok) fun F1 H1 ρ1 vs ws e1 ok1 hx => ?_
  cases ws with
  | nil => exact fun r ρ' e Q q => nomatch e
  | cons w0 ws =>
    cases w0 with
    | dat d => exact fun r ρ' e Q q => nomatch e
    | loc i =>
      cases vs with
      | nil => exact hx.elim
      | cons v0 vs =>
        obtain ⟨hv0, hvs⟩ := hx
        refine frcs_at ok1 hvs fun F2 ρ2 ds e2 ok2 hds => ?_
        intro r ρ' e Q q
        rw [List.append_nil]
        rw [← hK]
        have hv0 : σ[i]? = some (some v0) := hv0
        cases hs : ρ2[i]? with
        | none => simp only [hs] at e; cases e
        | some s =>
          simp only [hs] at e
          have hsl := ok2.sl i s _ hs hv0
          cases s with
          | un => cases e
          | dat d => cases e
          | own o =>
            obtain ⟨l, z1, z2, z3, z4⟩ := hsl
            cases z1
            simp only at e
            cases h1 : fm o ds with
            | none => simp only [h1] at e; cases e
            | some p =>
              obtain ⟨d, o'⟩ := p
              simp only [h1] at e
              cases e
              exact ⟨F2, l, vs, o, ds, d, o', rfl, ok2.ff, z2, z3, hds, h1, fun v F' H' gr ho hv => q F' H' gr.ff (ok2.callB hs hv0 (.inl ⟨o, rfl, rfl⟩) gr ho) v hv⟩
          | par o =>
            obtain ⟨l, z1, z2, z3, z4⟩ := hsl
            cases z1
            simp only at e
            cases h1 : fm o ds with
            | none => simp only [h1] at e; cases e
            | some p =>
              obtain ⟨d, o'⟩ := p
              simp only [h1] at e
              cases e
              exact ⟨F2, l, vs, o, ds, d, o', rfl, ok2.ff, z2, z3, hds, h1, fun v F' H' gr ho hv => q F' H' gr.ff (ok2.callB hs hv0 (.inr ⟨o, rfl, rfl⟩) gr ho) v hv⟩
end
end Dat
namespace Dat
open PySem L2
/-! ### operators on data -/
def fInt2 (g : Int → Int → Option D) : D → D → Option D := fun d e => match d, e with
  | .int i, .int j => g i j
  | _, _ => none
theorem int2_some {g : Int → Int → Option D} {d e z : D} (h : fInt2 g d e = some z) : ∃ i j, d = .int i ∧ e = .int j ∧ g i j = some z := by
  cases d with
  | int i =>
    cases e with
    | int j => exact ⟨i, j, rfl, rfl, h⟩
    | none => cases h
    | bool _ => cases h
    | str _ => cases h
    | list _ => cases h
    | tuple _ => cases h
    | dict _ => cases h
  | none => cases h
  | bool _ => cases h
  | str _ => cases h
  | list _ => cases h
  | tuple _ => cases h
  | dict _ => cases h
theorem op2_int {K : PySem.W.Frag} {C : Int → Int → Prop} {gv : Int → Int → V} {g : Int → Int → Option D} {r : R2} (hr : ∀ i j H (Q : VK), C i j → Q (gv i j) H → r (.int i) (.int j) H Q) (h : ∀ i j z, g i j = some z → C i j ∧ ∀ F, Dp K F (gv i j) z) : Op2S K r (fInt2 g) := by
  refine Op2S.flat fun H x y d e z hx hy hz => ?_
  obtain ⟨i, j, rfl, rfl, hg⟩ := int2_some hz
  cases hx
  cases hy
  obtain ⟨h1, h2⟩ := h i j z hg
  exact ⟨gv i j, h2, fun Q q => hr i j H Q h1 q⟩
def fAdd : D → D → Option D := fInt2 fun i j => some (.int (i + j))
def fSub : D → D → Option D := fInt2 fun i j => some (.int (i - j))
def mulOk (i j : Int) : Bool := (decide (-18446744073709551616 < i) && decide (i < 18446744073709551616)) || (decide (-18446744073709551616 < j) && decide (j < 18446744073709551616))
def fMul : D → D → Option D := fInt2 fun i j => if mulOk i j = true then some (.int (i * j)) else none
def fDiv : D → D → Option D := fInt2 fun i j => if 0 < j ∧ j < 1073741824 then some (.int (i / j)) else none
def fMod : D → D → Option D := fInt2 fun i j => if 0 < j then some (.int (i % j)) else none
def fPow : D → D → Option D := fInt2 fun i j => if 0 ≤ j ∧ j ≤ 1000000 ∧ i.natAbs < 18446744073709551616 then some (.int (i ^ j.toNat)) else none
def fLt : D → D → Option D := fInt2 fun i j => some (.bool (decide (i < j)))
def fLe : D → D → Option D := fInt2 fun i j => some (.bool (decide (i ≤ j)))
def fGt : D → D → Option D := fInt2 fun i j => some (.bool (decide (j < i)))
def fGe : D → D → Option D := fInt2 fun i j => some (.bool (decide (j ≤ i)))
section
variable {X : Cx} {K : PySem.W.Frag}
theorem os_add : Op2S K (rI0 fun i j => .int (i + j)) fAdd := op2_int (C := fun _ _ => True) (fun i j H Q _ q => ⟨i, j, rfl, rfl, q⟩) fun i j z h => by cases h; exact ⟨trivial, fun _ => .int _⟩
theorem os_sub : Op2S K (rI0 fun i j => .int (i - j)) fSub := op2_int (C := fun _ _ => True) (fun i j H Q _ q => ⟨i, j, rfl, rfl, q⟩) fun i j z h => by cases h; exact ⟨trivial, fun _ => .int _⟩
theorem os_mul : Op2S K (rI CMul fun i j => .int (i * j)) fMul := op2_int (C := CMul) (fun i j H Q c q => ⟨i, j, rfl, rfl, c, q⟩) fun i j z h => by
  by_cases c : mulOk i j = true
  · rw [if_pos c] at h
    cases h
    refine ⟨?_, fun _ => .int _⟩
    unfold mulOk at c
    rw [Bool.or_eq_true, Bool.and_eq_true, Bool.and_eq_true, decide_eq_true_eq, decide_eq_true_eq, decide_eq_true_eq, decide_eq_true_eq] at c
    unfold CMul
    rcases c with c | c
    · exact .inl (by omega)
    · exact .inr (by omega)
  · rw [if_neg c] at h; cases h
theorem os_div : Op2S K (rI CDiv fun i j => .int (i / j)) fDiv := op2_int (C := CDiv) (fun i j H Q c q => ⟨i, j, rfl, rfl, c, q⟩) fun i j z h => by
  split at h
  · rename_i c; cases h; exact ⟨c, fun _ => .int _⟩
  · cases h
theorem os_mod : Op2S K (rI (fun _ j => 0 < j) fun i j => .int (i % j)) fMod := op2_int (C := fun _ j => 0 < j) (fun i j H Q c q => ⟨i, j, rfl, rfl, c, q⟩) fun i j z h => by
  split at h
  · rename_i c; cases h; exact ⟨c, fun _ => .int _⟩
  · cases h
theorem os_pow : Op2S K (rI CPow fun i j => .int (i ^ j.toNat)) fPow := op2_int (C := CPow) (fun i j H Q c q => ⟨i, j, rfl, rfl, c, q⟩) fun i j z h => by
  split at h
  · rename_i c; cases h; exact ⟨⟨c.1, c.2.1, by omega⟩, fun _ => .int _⟩
  · cases h
theorem os_lt : Op2S K (rI0 fun i j => .bl (decide (i < j))) fLt := op2_int (C := fun _ _ => True) (fun i j H Q _ q => ⟨i, j, rfl, rfl, q⟩) fun i j z h => by cases h; exact ⟨trivial, fun _ => .bl _⟩
theorem os_le : Op2S K (rI0 fun i j => .bl (decide (i ≤ j))) fLe := op2_int (C := fun _ _ => True) (fun i j H Q _ q => ⟨i, j, rfl, rfl, q⟩) fun i j z h => by cases h; exact ⟨trivial, fun _ => .bl _⟩
theorem os_gt : Op2S K (rI0 fun i j => .bl (decide (j < i))) fGt := op2_int (C := fun _ _ => True) (fun i j H Q _ q => ⟨i, j, rfl, rfl, q⟩) fun i j z h => by cases h; exact ⟨trivial, fun _ => .bl _⟩
theorem os_ge : Op2S K (rI0 fun i j => .bl (decide (j ≤ i))) fGe := op2_int (C := fun _ _ => True) (fun i j H Q _ q => ⟨i, j, rfl, rfl, q⟩) fun i j z h => by cases h; exact ⟨trivial, fun _ => .bl _⟩
/-- == of any data -/
def fEq : D → D → Option D := fun d e => if SeqAt.shaped d = true ∧ SeqAt.shaped e = true then some (.bool (PyData.eqv d e)) else none
def fNe : D → D → Option D := fun d e => if SeqAt.shaped d = true ∧ SeqAt.shaped e = true then some (.bool (!PyData.eqv d e)) else none
theorem os_eq : Op2S K (rEqD K) fEq := Op2S.flat fun H x y d e z hx hy hz => by
  unfold fEq at hz
  split at hz
  · rename_i c; cases hz; exact ⟨_, fun _ => .bl _, fun Q q => ⟨d, e, hx, hy, c.1, c.2, q⟩⟩
  · cases hz
theorem os_ne : Op2S K (rNeD K) fNe := Op2S.flat fun H x y d e z hx hy hz => by
  unfold fNe at hz
  split at hz
  · rename_i c; cases hz; exact ⟨_, fun _ => .bl _, fun Q q => ⟨d, e, hx, hy, c.1, c.2, q⟩⟩
  · cases hz
/-- in, not in a list -/
def fIn : D → D → Option D := fun d e => match e with
  | .list ds => if SeqAt.shaped d = true ∧ SeqAt.shaped (.list ds) = true then some (.bool (ds.any fun z => PyData.eqv z d)) else none
  | _ => none
def fNotIn : D → D → Option D := fun d e => match e with
  | .list ds => if SeqAt.shaped d = true ∧ SeqAt.shaped (.list ds) = true then some (.bool (!ds.any fun z => PyData.eqv z d)) else none
  | _ => none
theorem os_in : Op2S K (rInD K) fIn := Op2S.flat fun H x y d e z hx hy hz => by
  cases e with
  | list ds =>
    have hz : (if SeqAt.shaped d = true ∧ SeqAt.shaped (.list ds) = true then some (PyData.bool (ds.any fun z => PyData.eqv z d)) else none) = some z := hz
    split at hz
    · rename_i c; cases hz; exact ⟨_, fun _ => .bl _, fun Q q => ⟨d, ds, hx, hy, c.1, c.2, q⟩⟩
    · cases hz
  | none => cases hz
  | bool _ => cases hz
  | int _ => cases hz
  | str _ => cases hz
  | tuple _ => cases hz
  | dict _ => cases hz
theorem os_notIn : Op2S K (rNotInD K) fNotIn := Op2S.flat fun H x y d e z hx hy hz => by
  cases e with
  | list ds =>
    have hz : (if SeqAt.shaped d = true ∧ SeqAt.shaped (.list ds) = true then some (PyData.bool (!ds.any fun z => PyData.eqv z d)) else none) = some z := hz
    split at hz
    · rename_i c; cases hz; exact ⟨_, fun _ => .bl _, fun Q q => ⟨d, ds, hx, hy, c.1, c.2, q⟩⟩
    · cases hz
  | none => cases hz
  | bool _ => cases hz
  | int _ => cases hz
  | str _ => cases hz
  | tuple _ => cases hz
  | dict _ => cases hz
/-- texts, one behind the other -/
def fAddS : D → D → Option D := fun d e => match d, e with
  | .str x, .str y => if x.length + y.length ≤ BIG then some (.str (x ++ y)) else none
  | _, _ => none
theorem os_addS : Op2S K (fun x y H Q => ∃ i j, x = .str i ∧ y = .str j ∧ i.length + j.length ≤ sizeLine ∧ Q (.str (i ++ j)) H) fAddS := Op2S.flat fun H x y d e z hx hy hz => by
  cases d with
  | str s =>
    cases e with
    | str t =>
      have hz : (if s.length + t.length ≤ BIG then some (PyData.str (s ++ t)) else none) = some z := hz
      split at hz
      · rename_i c
        cases hz; cases hx; cases hy
        exact ⟨_, fun _ => .str _, fun Q q => ⟨s, t, rfl, rfl, big_le c, q⟩⟩
      · cases hz
    | none => cases hz
    | bool _ => cases hz
    | int _ => cases hz
    | list _ => cases hz
    | tuple _ => cases hz
    | dict _ => cases hz
  | none => cases hz
  | bool _ => cases hz
  | int _ => cases hz
  | list _ => cases hz
  | tuple _ => cases hz
  | dict _ => cases hz
/-- tuples, one behind the other -/
def fAddT : D → D → Option D := fun d e => match d, e with
  | .tuple xs, .tuple ys => if xs.length + ys.length ≤ BIG then some (.tuple (xs ++ ys)) else none
  | _, _ => none
theorem os_addT : Op2S K (rCatA K) fAddT := by
  rintro g F H σ ρ x y a b d e z rfl ok ha hb h1 h2 h3 Q q
  cases d with
  | tuple xs =>
    cases e with
    | tuple ys =>
      have h3 : (if xs.length + ys.length ≤ BIG then some (PyData.tuple (xs ++ ys)) else none) = some z := h3
      split at h3
      · rename_i c
        cases h3
        obtain ⟨p, us, rfl, s1, d1⟩ := rdD_tuple ok ha h1
        obtain ⟨p2, ws, rfl, s2, d2⟩ := rdD_tuple ok hb h2
        refine ⟨p, p2, us, ws, rfl, rfl, sqtE ok.ff s1, sqtE ok.ff s2, by rw [dps_len d1, dps_len d2]; exact big_le c, fun e1 => ?_, fun e1 e2 => ?_, fun e1 e2 P hP => ?_⟩
        · subst e1
          cases d1
          exact q _ F H (Ex.refl F) ok (.tup s2 d2)
        · subst e2
          cases d2
          rw [List.append_nil] at q
          exact q _ F H (Ex.refl F) ok (.tup s1 d1)
        · obtain ⟨ex, ok2⟩ := ok.newD (o := .tup (us ++ ws)) hP
          exact q _ _ _ ex ok2 (.tup (.inl (.inl upd_same)) (dpsE ex _ _ (dps_app d1 d2)))
      · cases h3
    | none => cases h3
    | bool _ => cases h3
    | int _ => cases h3
    | str _ => cases h3
    | list _ => cases h3
    | dict _ => cases h3
  | none => cases h3
  | bool _ => cases h3
  | int _ => cases h3
  | str _ => cases h3
  | list _ => cases h3
  | dict _ => cases h3
end
end Dat
namespace Dat
open PySem L2
/-! ### lists, one behind the other: read, not only tracked -/
def rCatL (K : PySem.W.Frag) : R2 := fun x y H Q => ∃ l b xs zs, x = .ref l ∧ y = .ref b ∧ SqL K H l xs ∧ SqL K H b zs ∧ xs.length + zs.length ≤ sizeLine ∧ ∀ p, H p = none → Q (.ref p) (upd H p (.lst (xs ++ zs)))
theorem op_catL {X : Cx} : OpR X (binaryOp .Add) (rCatL X.K) := by
  intro pins s σ H x y v u Q I rx ry h
  obtain ⟨l, b, xs, zs, rfl, rfl, hL, hB, hz, q⟩ := h
  cases rx
  cases ry
  obtain ⟨i1, r1, ⟨⟨c1, d1, t1, s1⟩, n1, o1, e1, e2, e3⟩, _⟩ := I.list hL
  obtain ⟨i2, r2, ⟨⟨c2, d2, t2, s2⟩, n2, o2, g1, g2, g3⟩, _⟩ := I.list hB
  simp only at e1 e2 e3 g1 g2 g3
  subst e1 e2 e3 g1 g2 g3
  have q1 := r1.length
  have q2 := r2.length
  have ea : i1.toArray ++ i2.toArray = (i1 ++ i2).toArray := by simp
  refine concat_meets ⟨_, o1, rfl⟩ ⟨_, o2, rfl⟩ noFill_list_add seq_list_add PySem.F.slot_list_add PySem.F.entry_list_add (PySem.F.args_list_add_2 _ _) (PyProof.Rows.list_addW l b i1.toArray i2.toArray n1 n2 none none s1 s2 (by simp; omega)) ⟨o1, o2, ?_⟩
  rw [ea]
  exact ⟨.ref _, _, I.lnew (t' := s.toks) (r1.append r2) (by rw [List.length_append]; omega), rfl, q _ I.fresh⟩
section
variable {X : Cx} {EW : EWT} {K : PySem.W.Frag} {pos : Pos}
def fAddL : D → D → Option D := fun d e => match d, e with
  | .list xs, .list ys => if xs.length + ys.length ≤ BIG then some (.list (xs ++ ys)) else none
  | _, _ => none
theorem os_addL : Op2S K (rCatL K) fAddL := by
  rintro g F H σ ρ x y a b d e z rfl ok ha hb h1 h2 h3 Q q
  cases d with
  | list xs =>
    cases e with
    | list ys =>
      have h3 : (if xs.length + ys.length ≤ BIG then some (PyData.list (xs ++ ys)) else none) = some z := h3
      split at h3
      · rename_i c
        cases h3
        obtain ⟨p, us, rfl, s1, d1⟩ := rdD_list ok ha h1
        obtain ⟨p2, ws, rfl, s2, d2⟩ := rdD_list ok hb h2
        refine ⟨p, p2, us, ws, rfl, rfl, s1, s2, by rw [dps_len d1, dps_len d2]; exact big_le c, fun P hP => ?_⟩
        obtain ⟨ex, ok2⟩ := ok.newD (o := .lst (us ++ ws)) hP
        exact q _ _ _ ex ok2 (.lst (.inl (.inl upd_same)) (dpsE ex _ _ (dps_app d1 d2)))
      · cases h3
    | none => cases h3
    | bool _ => cases h3
    | int _ => cases h3
    | str _ => cases h3
    | tuple _ => cases h3
    | dict _ => cases h3
  | none => cases h3
  | bool _ => cases h3
  | int _ => cases h3
  | str _ => cases h3
  | tuple _ => cases h3
  | dict _ => cases h3
/-! ### items -/
def fIx : D → D → Option D := fun d e => match e with
  | .int i => (match d with
    | .list ds => atI ds i
    | .tuple ds => atI ds i
    | .str x => if x.length ≤ BIG then (atI x.cps.toList i).map fun c => .str ⟨#[c]⟩ else none
    | _ => none)
  | _ => none
theorem dps_at {F : Hp} {ds : List D} {vs : List V} {i : Int} {d : D} (h : DpAll K F vs ds) (e : atI ds i = some d) : ∃ v, atI vs i = some v ∧ Dp K F v d := by
  unfold atI at e ⊢
  rw [dps_len h]
  cases q : ixN ds.length i with
  | none => rw [q] at e; cases e
  | some j =>
    rw [q] at e
    obtain ⟨v, h1, h2⟩ := dps_get h (show ds[j]? = some d from e)
    exact ⟨v, h1, h2⟩
theorem os_ix : Op2S K (rIx K) fIx := by
  rintro g F H σ ρ x y a b d e z rfl ok ha hb h1 h2 h3 Q q
  cases e with
  | int i =>
    have hy := rdD_dat ok hb h2 fun _ q => nomatch q
    cases hy
    cases d with
    | list ds =>
      obtain ⟨p, us, rfl, s1, d1⟩ := rdD_list ok ha h1
      obtain ⟨v, h4, h5⟩ := dps_at d1 (show atI ds i = some z from h3)
      exact .inl ⟨p, us, i, v, rfl, rfl, s1, h4, q v F H (Ex.refl F) ok h5⟩
    | tuple ds =>
      obtain ⟨p, us, rfl, s1, d1⟩ := rdD_tuple ok ha h1
      obtain ⟨v, h4, h5⟩ := dps_at d1 (show atI ds i = some z from h3)
      exact .inr (.inl ⟨p, us, i, v, rfl, rfl, sqtE ok.ff s1, h4, q v F H (Ex.refl F) ok h5⟩)
    | str s =>
      have hx := rdD_dat ok ha h1 fun _ q => nomatch q
      cases hx
      have h3 : (if s.length ≤ BIG then (atI s.cps.toList i).map fun c => PyData.str ⟨#[c]⟩ else none) = some z := h3
      split at h3
      · rename_i hz
        cases hc : atI s.cps.toList i with
        | none => rw [hc] at h3; cases h3
        | some c =>
          rw [hc] at h3
          cases h3
          exact .inr (.inr ⟨s, i, c, rfl, rfl, big_le hz, hc, q _ F H (Ex.refl F) ok (.str _)⟩)
      · cases h3
    | none => cases h3
    | bool _ => cases h3
    | int _ => cases h3
    | dict _ => cases h3
  | none => cases h3
  | bool _ => cases h3
  | str _ => cases h3
  | list _ => cases h3
  | tuple _ => cases h3
  | dict _ => cases h3
/-! ### built-ins -/
theorem Call1S.flat {r : List V → Hp → VK → Prop} {f : D → Option D} (h : ∀ H x d z, Dp K H x d → f d = some z → ∃ v, (∀ F, Dp K F v z) ∧ ∀ Q : VK, Q v H → r [x] H Q) : Call1S K r f := by
  rintro g F H σ ρ x a d z rfl ok ha h1 h3 Q q
  obtain ⟨v, hv, k⟩ := h H x d z (rdD_ok ok ha h1) h3
  exact k Q (q v F H (Ex.refl F) ok (hv F))
def fLen : D → Option D
  | .str x => if x.length ≤ BIG then some (.int x.length) else none
  | .list ds => some (.int ds.length)
  | .tuple ds => some (.int ds.length)
  | _ => none
theorem cs_len : Call1S K (fun xs H Q => ∃ x n, xs = [x] ∧ LenV K x H n ∧ Q (.int n) H) fLen := Call1S.flat fun H x d z hx hz => by
  cases d with
  | str s =>
    have hz : (if s.length ≤ BIG then some (PyData.int s.length) else none) = some z := hz
    split at hz
    · rename_i c; cases hz; cases hx; exact ⟨_, fun _ => .int _, fun Q q => ⟨_, _, rfl, ⟨big_le c, rfl⟩, q⟩⟩
    · cases hz
  | list ds =>
    cases hz
    cases hx with
    | lst hs ha => exact ⟨_, fun _ => .int _, fun Q q => ⟨_, _, rfl, .inl ⟨_, hs, (dps_len ha).symm⟩, q⟩⟩
  | tuple ds =>
    cases hz
    cases hx with
    | tup hs ha => exact ⟨_, fun _ => .int _, fun Q q => ⟨_, _, rfl, .inr ⟨_, hs, (dps_len ha).symm⟩, q⟩⟩
  | none => cases hz
  | bool _ => cases hz
  | int _ => cases hz
  | dict _ => cases hz
def fAbs : D → Option D
  | .int i => some (.int (if i < 0 then -i else i))
  | _ => none
theorem cs_abs : Call1S K (fun xs H Q => ∃ i, xs = [.int i] ∧ Q (.int (if i < 0 then -i else i)) H) fAbs := Call1S.flat fun H x d z hx hz => by
  cases d with
  | int i => cases hz; cases hx; exact ⟨_, fun _ => .int _, fun Q q => ⟨i, rfl, q⟩⟩
  | none => cases hz
  | bool _ => cases hz
  | str _ => cases hz
  | list _ => cases hz
  | tuple _ => cases hz
  | dict _ => cases hz
def fIntOf : D → Option D
  | .int i => some (.int i)
  | .bool b => some (.int (if b then 1 else 0))
  | _ => none
theorem cs_int : Call1S K (fun xs H Q => (∃ i, xs = [.int i] ∧ Q (.int i) H) ∨ ∃ k, xs = [.bl k] ∧ Q (.int (if k then 1 else 0)) H) fIntOf := Call1S.flat fun H x d z hx hz => by
  cases d with
  | int i => cases hz; cases hx; exact ⟨_, fun _ => .int _, fun Q q => .inl ⟨i, rfl, q⟩⟩
  | bool b => cases hz; cases hx; exact ⟨_, fun _ => .int _, fun Q q => .inr ⟨b, rfl, q⟩⟩
  | none => cases hz
  | str _ => cases hz
  | list _ => cases hz
  | tuple _ => cases hz
  | dict _ => cases hz
def fStrOf : D → Option D
  | .int i => if i.natAbs < 1000000000000000000000000000000000000000 then some (.str (toString i)) else none
  | _ => none
theorem cs_str : Call1S K (fun xs H Q => ∃ i, xs = [.int i] ∧ i.natAbs.log2 < 1920 ∧ Q (.str (toString i)) H) fStrOf := Call1S.flat fun H x d z hx hz => by
  cases d with
  | int i =>
    have hz : (if i.natAbs < 1000000000000000000000000000000000000000 then some (PyData.str (toString i)) else none) = some z := hz
    split at hz
    · rename_i c
      cases hz; cases hx
      refine ⟨_, fun _ => .str _, fun Q q => ⟨i, rfl, ?_, q⟩⟩
      by_cases h0 : i.natAbs = 0
      · rw [h0]; decide
      · exact Nat.lt_trans ((Nat.log2_lt h0).mpr (show i.natAbs < 2 ^ 200 from Nat.lt_trans c (by decide))) (by decide)
    · cases hz
  | none => cases hz
  | bool _ => cases hz
  | str _ => cases hz
  | list _ => cases hz
  | tuple _ => cases hz
  | dict _ => cases hz
def fTupleOf : D → Option D
  | .list ds => some (.tuple ds)
  | .tuple ds => some (.tuple ds)
  | _ => none
theorem cs_tuple : Call1S K (fun xs H Q => ∃ p ys, xs = [.ref p] ∧ ((SqL K H p ys ∧ ∀ l, H l = none → Q (.ref l) (upd H l (.tup ys))) ∨ (SqT K H p ys ∧ Q (.ref p) H))) fTupleOf := by
  rintro g F H σ ρ x a d z rfl ok ha h1 h3 Q q
  cases d with
  | list ds =>
    cases h3
    obtain ⟨p, us, rfl, s1, d1⟩ := rdD_list ok ha h1
    refine ⟨p, us, rfl, .inl ⟨s1, fun P hP => ?_⟩⟩
    obtain ⟨ex, ok2⟩ := ok.newD (o := .tup us) hP
    exact q _ _ _ ex ok2 (.tup (.inl (.inl upd_same)) (dpsE ex _ _ d1))
  | tuple ds =>
    cases h3
    obtain ⟨p, us, rfl, s1, d1⟩ := rdD_tuple ok ha h1
    exact ⟨p, us, rfl, .inr ⟨sqtE ok.ff s1, q _ F H (Ex.refl F) ok (.tup s1 d1)⟩⟩
  | none => cases h3
  | bool _ => cases h3
  | int _ => cases h3
  | str _ => cases h3
  | dict _ => cases h3
def fListOf : D → Option D
  | .list ds => some (.list ds)
  | .tuple ds => some (.list ds)
  | _ => none
theorem cs_list : Call1S K (fun xs H Q => ∃ p ys, xs = [.ref p] ∧ (SqL K H p ys ∨ SqT K H p ys) ∧ ∀ l, H l = none → Q (.ref l) (upd H l (.lst ys))) fListOf := by
  rintro g F H σ ρ x a d z rfl ok ha h1 h3 Q q
  cases d with
  | list ds =>
    cases h3
    obtain ⟨p, us, rfl, s1, d1⟩ := rdD_list ok ha h1
    refine ⟨p, us, rfl, .inl s1, fun P hP => ?_⟩
    obtain ⟨ex, ok2⟩ := ok.newD (o := .lst us) hP
    exact q _ _ _ ex ok2 (.lst (.inl (.inl upd_same)) (dpsE ex _ _ d1))
  | tuple ds =>
    cases h3
    obtain ⟨p, us, rfl, s1, d1⟩ := rdD_tuple ok ha h1
    refine ⟨p, us, rfl, .inr (sqtE ok.ff s1), fun P hP => ?_⟩
    obtain ⟨ex, ok2⟩ := ok.newD (o := .lst us) hP
    exact q _ _ _ ex ok2 (.lst (.inl (.inl upd_same)) (dpsE ex _ _ d1))
  | none => cases h3
  | bool _ => cases h3
  | int _ => cases h3
  | str _ => cases h3
  | dict _ => cases h3
/-- a list of whole numbers -/
def intsD : List D → Option (List Int)
  | [] => some []
  | .int i :: r => (intsD r).map (i :: ·)
  | _ :: _ => none
theorem intsD_some : ∀ {ds : List D} {ns : List Int}, intsD ds = some ns → ds = ns.map PyData.int
  | [], ns, h => by cases h; rfl
  | .int i :: r, ns, h => by
    have h : (intsD r).map (i :: ·) = some ns := h
    cases q : intsD r with
    | none => rw [q] at h; cases h
    | some ms =>
      rw [q] at h
      cases h
      rw [intsD_some q]; rfl
  | .none :: _, _, h => by cases h
  | .bool _ :: _, _, h => by cases h
  | .str _ :: _, _, h => by cases h
  | .list _ :: _, _, h => by cases h
  | .tuple _ :: _, _, h => by cases h
  | .dict _ :: _, _, h => by cases h
theorem intsD_map : ∀ ns : List Int, intsD (ns.map PyData.int) = some ns
  | [] => rfl
  | n :: ns => by
    show (intsD (ns.map PyData.int)).map (n :: ·) = some (n :: ns)
    rw [intsD_map ns]; rfl
theorem vals_ints_of {F : Hp} : ∀ {ns : List Int} {vs : List V}, DpAll K F vs (ns.map PyData.int) → vs = ns.map V.int
  | [], _, h => by cases h; rfl
  | n :: ns, _, h => by
    cases h with
    | cons h1 h2 => cases h1; rw [vals_ints_of h2]; rfl
def maxI : List Int → Option Int
  | [] => none
  | n :: ns => some (ns.foldl (fun a b => if b > a then b else a) n)
theorem foldmax_spec : ∀ (ns : List Int) (n : Int), (ns.foldl (fun a b => if b > a then b else a) n = n ∨ ns.foldl (fun a b => if b > a then b else a) n ∈ ns) ∧ n ≤ ns.foldl (fun a b => if b > a then b else a) n ∧ ∀ y ∈ ns, y ≤ ns.foldl (fun a b => if b > a then b else a) n
  | [], n => ⟨.inl rfl, Int.le_refl _, fun y h => by cases h⟩
  | m :: ns, n => by
    obtain ⟨h1, h2, h3⟩ := foldmax_spec ns (if m > n then m else n)
    rw [List.foldl_cons]
    refine ⟨?_, ?_, fun y hy => ?_⟩
    · rcases h1 with h1 | h1
      · rw [h1]
        split
        · exact .inr List.mem_cons_self
        · exact .inl rfl
      · exact .inr (List.mem_cons_of_mem _ h1)
    · refine Int.le_trans ?_ h2
      split <;> omega
    · rcases List.mem_cons.mp hy with rfl | hy
      · refine Int.le_trans ?_ h2
        split <;> omega
      · exact h3 y hy
def fMax : D → Option D
  | .list ds => (intsD ds).bind fun ns => (maxI ns).map PyData.int
  | _ => none
theorem cs_max : Call1S K (rMax K) fMax := Call1S.flat fun H x d z hx hz => by
  cases d with
  | list ds =>
    have hz : ((intsD ds).bind fun ns => (maxI ns).map PyData.int) = some z := hz
    cases q : intsD ds with
    | none => rw [q] at hz; cases hz
    | some ns =>
      rw [q] at hz
      cases ns with
      | nil => cases hz
      | cons n ns =>
        cases hz
        cases intsD_some q
        cases hx with
        | lst hs ha =>
          rw [vals_ints_of ha] at hs
          refine ⟨_, fun _ => .int _, fun Q q => ⟨_, n :: ns, rfl, hs, Nat.succ_pos _, fun m hm hle => ?_⟩⟩
          obtain ⟨h1, h2, h3⟩ := foldmax_spec ns n
          have e : m = ns.foldl (fun a b => if b > a then b else a) n := by
            refine Int.le_antisymm ?_ ?_
            · rcases List.mem_cons.mp hm with rfl | hm
              · exact h2
              · exact h3 m hm
            · rcases h1 with h1 | h1
              · exact hle _ (by rw [h1]; exact List.mem_cons_self)
              · exact hle _ (List.mem_cons_of_mem _ h1)
          rw [e]
          exact q
  | none => cases hz
  | bool _ => cases hz
  | int _ => cases hz
  | str _ => cases hz
  | tuple _ => cases hz
  | dict _ => cases hz
/-- rising, by insertion -/
def insI (n : Int) : List Int → List Int
  | [] => [n]
  | m :: r => if n ≤ m then n :: m :: r else m :: insI n r
def sortI : List Int → List Int
  | [] => []
  | n :: r => insI n (sortI r)
theorem insI_perm (n : Int) : ∀ r, (insI n r).Perm (n :: r)
  | [] => .refl _
  | m :: r => by
    unfold insI
    split
    · exact .refl _
    · exact ((insI_perm n r).cons m).trans (.swap n m r)
theorem sortI_perm : ∀ r, (sortI r).Perm r
  | [] => .refl _
  | n :: r => (insI_perm n _).trans ((sortI_perm r).cons n)
theorem insI_le (n : Int) : ∀ r : List Int, r.Pairwise (· ≤ ·) → (insI n r).Pairwise (· ≤ ·)
  | [], _ => by unfold insI; exact List.pairwise_singleton _ _
  | m :: r, h => by
    have h' := List.pairwise_cons.mp h
    unfold insI
    split
    · rename_i hn
      refine List.pairwise_cons.mpr ⟨fun y hy => ?_, h⟩
      rcases List.mem_cons.mp hy with rfl | hy
      · exact hn
      · exact Int.le_trans hn (h'.1 y hy)
    · rename_i hn
      refine List.pairwise_cons.mpr ⟨fun y hy => ?_, insI_le n r h'.2⟩
      rcases List.mem_cons.mp ((insI_perm n r).mem_iff.mp hy) with rfl | hy
      · omega
      · exact h'.1 y hy
theorem sortI_le : ∀ r, (sortI r).Pairwise (· ≤ ·)
  | [] => List.Pairwise.nil
  | n :: r => insI_le n _ (sortI_le r)
theorem perm_le_eq {α : Type} {le : α → α → Prop} (anti : ∀ a b, le a b → le b a → a = b) : ∀ {xs ys : List α}, xs.Perm ys → xs.Pairwise le → ys.Pairwise le → xs = ys
  | [], ys, p, _, _ => by rw [List.nil_perm.mp p]
  | x :: xs, [], p, _, _ => by have := p.length_eq; simp at this
  | x :: xs, y :: ys, p, hx, hy => by
    have hx' := List.pairwise_cons.mp hx
    have hy' := List.pairwise_cons.mp hy
    have e : x = y := by
      rcases List.mem_cons.mp (p.mem_iff.mp List.mem_cons_self) with e | h1
      · exact e
      · rcases List.mem_cons.mp (p.symm.mem_iff.mp List.mem_cons_self) with e | h2
        · exact e.symm
        · exact anti x y (hx'.1 y h2) (hy'.1 x h1)
    subst e
    rw [perm_le_eq anti p.cons_inv hx'.2 hy'.2]
theorem sortI_eq {ns ms : List Int} (p : ns.Perm ms) (h : ns.Pairwise (· ≤ ·)) : ns = sortI ms :=
  perm_le_eq (le := (· ≤ ·)) (fun _ _ h1 h2 => Int.le_antisymm h1 h2) (p.trans (sortI_perm ms).symm) h (sortI_le ms)
def fSortI : D → Option D
  | .list ds => (intsD ds).map fun ns => .list ((sortI ns).map PyData.int)
  | _ => none
theorem cs_sortI : Call1S K (rSortedI K) fSortI := by
  rintro g F H σ ρ x a d z rfl ok ha h1 h3 Q q
  cases d with
  | list ds =>
    have h3 : ((intsD ds).map fun ns => PyData.list ((sortI ns).map PyData.int)) = some z := h3
    cases q2 : intsD ds with
    | none => rw [q2] at h3; cases h3
    | some ns =>
      rw [q2] at h3
      cases h3
      cases intsD_some q2
      obtain ⟨p, us, rfl, s1, d1⟩ := rdD_list ok ha h1
      rw [vals_ints_of d1] at s1
      refine ⟨p, ns, rfl, s1, fun ns' P hp hs hP => ?_⟩
      obtain ⟨ex, ok2⟩ := ok.newD (o := .lst (ns'.map V.int)) hP
      rw [sortI_eq hp hs] at ex ok2 ⊢
      exact q _ _ _ ex ok2 (.lst (.inl (.inl upd_same)) (dps_ints _))
  | none => cases h3
  | bool _ => cases h3
  | int _ => cases h3
  | str _ => cases h3
  | tuple _ => cases h3
  | dict _ => cases h3
end
end Dat
namespace Dat
open PySem L2
section
variable {X : Cx} {EW : EWT} {K : PySem.W.Frag} {pos : Pos}
/-! ### isinstance -/
def tyD : D → Option String
  | .none => some "NoneType"
  | .bool _ => some "bool"
  | .int _ => some "int"
  | .str _ => some "str"
  | .list _ => some "list"
  | .tuple _ => some "tuple"
  | .dict _ => none
theorem tyX_of {H : Hp} {v : V} {d : D} {n : String} (h : Dp K H v d) (e : tyD d = some n) : TyX K H v (.type n) := by
  cases d with
  | none => cases h; cases e; exact .base .non
  | bool b => cases h; cases e; exact .base (.bl b)
  | int i => cases h; cases e; exact .base (.int i)
  | str x => cases h; cases e; exact .base (.str x)
  | list ds =>
    cases h with
    | lst hs ha =>
      cases e
      rcases hs with (hs | ⟨o, hs⟩) | ⟨o, its, n, hk, hc, _⟩
      · exact .base (.lst hs)
      · exact .base (.frz hs)
      · exact .kList hk hc
  | tuple ds =>
    cases h with
    | tup hs ha =>
      cases e
      rcases hs with (hs | ⟨o, hs⟩) | ⟨o, its, n, hk, hc, _⟩
      · exact .base (.tup hs)
      · exact .fTuple hs
      · exact .kTuple hk hc
  | dict _ => cases e
def IsiOk (T : String) (f : D → Bool) : Prop := ∀ d n, tyD d = some n → kitB n T = some (f d)
def isStr : D → Bool
  | .str _ => true
  | _ => false
def isTup : D → Bool
  | .tuple _ => true
  | _ => false
def isLst : D → Bool
  | .list _ => true
  | _ => false
def isBool : D → Bool
  | .bool _ => true
  | _ => false
def isInt : D → Bool
  | .bool _ => true
  | .int _ => true
  | _ => false
theorem isi_str : IsiOk "str" isStr := fun d n h => by
  cases d <;> cases h <;> first | (show _ = some true; decide +kernel) | (show _ = some false; decide +kernel)
theorem isi_tup : IsiOk "tuple" isTup := fun d n h => by
  cases d <;> cases h <;> first | (show _ = some true; decide +kernel) | (show _ = some false; decide +kernel)
theorem isi_lst : IsiOk "list" isLst := fun d n h => by
  cases d <;> cases h <;> first | (show _ = some true; decide +kernel) | (show _ = some false; decide +kernel)
theorem isi_bool : IsiOk "bool" isBool := fun d n h => by
  cases d <;> cases h <;> first | (show _ = some true; decide +kernel) | (show _ = some false; decide +kernel)
theorem isi_int : IsiOk "int" isInt := fun d n h => by
  cases d <;> cases h <;> first | (show _ = some true; decide +kernel) | (show _ = some false; decide +kernel)
def fIsi (f : D → Bool) : D → Option D := fun d => match tyD d with
  | none => none
  | some _ => some (.bool (f d))
theorem qe_isi {T : String} {x : Str} {f : D → Bool} (hi : IsiOk T f) {e : Expr} {te : TE} {ma : M Vw} {p p2 : Pos} (hg : Gl X "isinstance") (hm : X.mg "isinstance" = none) (hg2 : Gl X x) (hm2 : X.mg x = none) (hv2 : bootBuiltins x = some (.type T)) (h : QE X EW e te ma)
    (hn : x ≠ "__name__" := by decide) (hd : (x == ("__debug__" : Str)) = false := by decide)
    (he : starEach [e, .Name x p2] X.env = (false, eval e X.env) :: starEach [.Name x p2] X.env := by rfl) (he2 : starEach [.Name x p2] X.env = (false, eval (.Name x p2) X.env) :: starEach [] X.env := by rfl) (hpl : (backTo pos (starEach [.Name x p2] X.env)).any (·.1) = false := by rfl) :
    QE X EW (.Call (.Name "isinstance" p) [e, .Name x p2] [] pos) (tCB (rIsi X.K) (tCons te (tCons (tC (.ty T)) tNil))) (mOp1 (fIsi f) ma) := by
  refine ⟨pe_callB call_isi hg hm (by decide +kernel) (pa_cons h.pe (pa_cons (pe_bltn hg2 hm2 hv2 rfl hn hd) pa_nil he2) he) (by decide) (by decide) he hpl, fun g F H σ ρ hK ok => ?_⟩
  refine At.bind (k := fun y H1 Q => rIsi X.K [y, .ty T] H1 Q) (h.sm g F H σ ρ hK ok) fun F1 H1 ρ1 y a e1 ok1 hx => app1_at ok1 hx fun d z h1 h2 Q q => ?_
  unfold fIsi at h2
  cases ht : tyD d with
  | none => rw [ht] at h2; cases h2
  | some n =>
    rw [ht] at h2
    cases h2
    rw [← hK]
    exact ⟨y, .ty T, .type n, .type T, f d, rfl, .ty T, tyX_of (rdD_ok ok1 hx h1) ht, kit_ty (hi d n ht), q _ F1 H1 (Ex.refl F1) ok1 (.bl _)⟩
/-! ### is None -/
def isNonD (w : Vw) : M Bool := fun ρ => match rdD w ρ with
  | some .none => some (.ok true, ρ)
  | some _ => some (.ok false, ρ)
  | none => none
theorem isNon_of {H : Hp} {v : V} {d : D} (h : Dp K H v d) : decide (v = .non) = (match d with | .none => true | _ => false) := by
  cases h <;> rfl
def mIsN (ma : M Vw) : M Bool := mBind ma isNonD
theorem isN_at {g : Gh} {F H : Hp} {σ : St} {ρ : List Sl} {x : V} {w : Vw} (ok : Ok g F H σ ρ) (hx : VwOk g σ F x w) : At EW g F H σ (fun _ (a b : Bool) => a = b) (fun H (Q : Bool → Hp → Prop) => Q (decide (x = .non)) H) (isNonD w ρ) := by
  intro r ρ' e Q q
  unfold isNonD at e
  cases h1 : rdD w ρ with
  | none => simp only [h1] at e; cases e
  | some d =>
    simp only [h1] at e
    have e2 := isNon_of (rdD_ok ok hx h1)
    rw [e2]
    cases d <;> (cases e; exact q F H (Ex.refl F) ok _ rfl)
theorem qt_isN {a : Expr} {ta : TE} {ma : M Vw} {j p2} (h : QE X EW a ta ma) : QT X EW (.Compare a [.Is] [.Constant .none j p2] pos) (tB (tIsN ta)) (mIsN ma) := by
  refine ⟨pt_cmp (pc_isN h.pe), fun g F H σ ρ hK ok => ?_⟩
  refine At.bind (k := fun x H1 (Q : Bool → Hp → Prop) => ∃ c, V.bl (decide (x = .non)) = .bl c ∧ Q c H1) (h.sm g F H σ ρ hK ok) fun F1 H1 ρ1 x a e1 ok1 hx => ?_
  intro r ρ' e Q q
  exact ⟨_, rfl, isN_at ok1 hx r ρ' e Q q⟩
theorem qt_notN {a : Expr} {ta : TE} {ma : M Vw} {j p2} (h : QE X EW a ta ma) : QT X EW (.Compare a [.IsNot] [.Constant .none j p2] pos) (tB (tNotN ta)) (mNot (mIsN ma)) := by
  refine ⟨pt_cmp (pc_notN h.pe), fun g F H σ ρ hK ok => ?_⟩
  unfold mNot mIsN
  rw [bind_assoc]
  refine At.bind (k := fun x H1 (Q : Bool → Hp → Prop) => ∃ c, V.bl (!decide (x = .non)) = .bl c ∧ Q c H1) (h.sm g F H σ ρ hK ok) fun F1 H1 ρ1 x a e1 ok1 hx => ?_
  have := At.bind (R2 := fun _ (a b : Bool) => a = b) (k := fun b H1 (Q : Bool → Hp → Prop) => Q (!b) H1) (mk := fun b => mRet (!b)) (isN_at (EW := EW) ok1 hx) fun F2 H2 ρ2 b c e2 ok2 hb => by
    subst hb
    exact At.ret (a := !b) ok2 rfl fun _ q => q
  intro r ρ' e Q q
  exact ⟨_, rfl, this r ρ' e Q q⟩
/-! ### a slot's own list changes -/
def ownL (i : Nat) (f : List D → Option (List D)) : MS := fun ρ => match ρ[i]? with
  | some (.own (.lst ds)) => (match f ds with
    | some es => some (.nx, ρ.set i (.own (.lst es)))
    | none => none)
  | some (.par (.lst ds)) => (match f ds with
    | some es => some (.nx, ρ.set i (.par (.lst es)))
    | none => none)
  | _ => none
def isOL (i : Nat) (m : MS) : MS := fun ρ => match ρ[i]? with
  | some (.own (.lst _)) => m ρ
  | some (.par (.lst _)) => m ρ
  | _ => none
theorem isOL_at {g : Gh} {F H : Hp} {σ : St} {ρ : List Sl} {i : Nat} {m : MS} {p : Fl × List Sl} (ok : Ok g F H σ ρ) (h : isOL i m ρ = some p) : m ρ = some p ∧ ∃ l vs, σ[i]? = some (some (.ref l)) ∧ H l = some (.lst vs) := by
  unfold isOL at h
  cases hs : ρ[i]? with
  | none => rw [hs] at h; cases h
  | some s =>
    rw [hs] at h
    obtain ⟨ov, hv, hsl⟩ := ok.at hs
    cases s with
    | un => cases h
    | dat d => cases h
    | own o =>
      cases o with
      | lst ds => obtain ⟨l, rfl, _, ⟨vs, h1, _⟩, _⟩ := hsl; exact ⟨h, l, vs, hv, h1⟩
      | dk kvs => cases h
    | par o =>
      cases o with
      | lst ds => obtain ⟨l, rfl, _, ⟨vs, h1, _⟩, _⟩ := hsl; exact ⟨h, l, vs, hv, h1⟩
      | dk kvs => cases h
theorem ownL_at {g : Gh} {F H : Hp} {σ : St} {ρ ρ' : List Sl} {i : Nat} {f : List D → Option (List D)} {r : Fl} {l : Addr} (ok : Ok g F H σ ρ) (hv : σ[i]? = some (some (.ref l))) (h : ownL i f ρ = some (r, ρ')) :
    ∃ ds es vs, f ds = some es ∧ H l = some (.lst vs) ∧ DpAll g.K F vs ds ∧ r = .nx ∧ ∀ ws, DpAll g.K F ws es → Ok g F (upd H l (.lst ws)) σ ρ' := by
  unfold ownL at h
  cases hs : ρ[i]? with
  | none => rw [hs] at h; cases h
  | some s =>
    rw [hs] at h
    have hsl := ok.sl i s _ hs hv
    cases s with
    | un => cases h
    | dat d => cases h
    | own o =>
      cases o with
      | lst ds =>
        obtain ⟨l', e1, _, ⟨vs, h1, h2⟩, _⟩ := hsl
        cases e1
        simp only at h
        cases hf : f ds with
        | none => rw [hf] at h; cases h
        | some es =>
          rw [hf] at h
          cases h
          exact ⟨ds, es, vs, hf, h1, h2, rfl, fun ws hw => ok.mutO hs hv (.inl ⟨_, rfl, rfl⟩) ⟨ws, upd_same, hw⟩⟩
      | dk kvs => cases h
    | par o =>
      cases o with
      | lst ds =>
        obtain ⟨l', e1, _, ⟨vs, h1, h2⟩, _⟩ := hsl
        cases e1
        simp only at h
        cases hf : f ds with
        | none => rw [hf] at h; cases h
        | some es =>
          rw [hf] at h
          cases h
          exact ⟨ds, es, vs, hf, h1, h2, rfl, fun ws hw => ok.mutO hs hv (.inr ⟨_, rfl, rfl⟩) ⟨ws, upd_same, hw⟩⟩
      | dk kvs => cases h
def pushL (d : D) (ds : List D) : Option (List D) := if ds.length < BIG then some (ds ++ [d]) else none
def mAppend (i : Nat) (ma : M Vw) : MS := isOL i (mThen ma fun w => mThen (frc w) fun d => ownL i (pushL d))
theorem qs_append (i : Nat) {x : Str} {e : Expr} {te : TE} {ma : M Vw} {p apos cpos : Pos} (h : QE X EW e te ma) (hN : X.N[i]? = some x := by rfl) (hv : Vis X.env.scope x := by first | exact Or.inl rfl | exact Or.inr (Or.inl rfl) | exact Or.inr (Or.inr rfl)) (hd : (x == ("__debug__" : Str)) = false := by decide)
    (hcd : (x == ("__classdict__" : Str)) = false := by decide) (hbase : attributeBase (.Name x p) "append" X.env (eval (.Name x p) X.env) = eval (.Name x p) X.env := by rfl)
    (hfew : ((backTo cpos (starEach [e] X.env)).all (fun x => !x.1) && (backToKw cpos (keywordEach [] X.env)).all (fun x => x.1.isSome) && decide ([e].length + ([] : List Keyword).length + (if ([] : List Keyword).isEmpty then 0 else 1) < 30)) = true := by rfl)
    (hline : (apos.endLine == cpos.line) = true := by rfl) (hs : starEach [e] X.env = (false, eval e X.env) :: starEach [] X.env := by rfl) (hsw : swapsWith (.Call (.Attribute (.Name x p) "append" apos) [e] [] cpos) none pos.line X.env = pure false := by rfl) :
    QS X EW (.Expr (.Call (.Attribute (.Name x p) "append" apos) [e] [] cpos) pos) (tDrop (tBM X.K "list" rAppend (tVar i) (tCons te tNil))) (mAppend i ma) := by
  refine ⟨ps_expr (pe_bm PySem.F.plainAttrs_list PySem.F.slot_list_append PySem.F.type_list_append mt_append (pe_var hN hv hd hcd) (pa_cons h.pe pa_nil hs) hbase hfew hline hs rfl) hsw, fun g F H σ ρ hK ok r ρ' e D q => ?_⟩
  obtain ⟨e1, l, vs0, hv, hl⟩ := isOL_at ok e
  refine ⟨.ref l, hv, .inl ⟨rfl, vs0, .inl (.inl hl)⟩, ?_⟩
  unfold mThen at e1
  cases hm : ma ρ with
  | none => rw [hm] at e1; cases e1
  | some p =>
    obtain ⟨r1, ρ1⟩ := p
    rw [hm] at e1
    cases r1 with
    | er c =>
      cases e1
      exact h.sm g F H σ ρ hK ok _ _ hm _ fun F' H' ex ok' => q F' H' σ ex ok'
    | ok w =>
      refine h.sm g F H σ ρ hK ok _ _ hm _ fun F1 H1 ex1 ok1 y hy => ?_
      obtain ⟨d, F2, ρ2, ex2, ok2, hd2, e2⟩ := frcS ok1 hy e1
      obtain ⟨ds, es, vs, hf, hH, hds, rfl, k⟩ := ownL_at ok2 hv e2
      unfold pushL at hf
      split at hf
      · rename_i hz
        cases hf
        have hl2 := dps_len hds
        exact ⟨l, vs, y, rfl, rfl, hH, by rw [hl2]; exact big_lt (Nat.le_of_lt hz), q F2 _ σ (ex1.trans ex2) (k _ (dps_app hds (.cons hd2 .nil)))⟩
      · cases hf
/-- x[i] = e, x a list of one's own -/
def setL (k : Int) (d : D) (ds : List D) : Option (List D) := (ixN ds.length k).map fun j => ds.set j d
def mSetItem (i : Nat) (mk ma : M Vw) : MS := mThen ma fun w => mThen (frc w) fun d => isOL i (mThen mk fun u => mThen (asI u) fun k => ownL i (setL k d))
theorem asI_S {g : Gh} {F H : Hp} {σ : St} {ρ ρ' : List Sl} {x : V} {w : Vw} {f : Int → MS} {r : Fl} (ok : Ok g F H σ ρ) (hx : VwOk g σ F x w) (h : mThen (asI w) f ρ = some (r, ρ')) : ∃ i, x = .int i ∧ f i ρ = some (r, ρ') := by
  unfold mThen asI at h
  cases h1 : rdD w ρ with
  | none => simp only [h1] at h; cases h
  | some d =>
    simp only [h1] at h
    have hd := rdD_ok ok hx h1
    cases d with
    | int i => cases hd; exact ⟨i, rfl, h⟩
    | none => cases h
    | bool _ => cases h
    | str _ => cases h
    | list _ => cases h
    | tuple _ => cases h
    | dict _ => cases h
theorem qs_setItem (i : Nat) {x : Str} {e k : Expr} {te tk : TE} {ma mk : M Vw} {p p2 : Pos} (hN : X.N[i]? = some x) (hv : Vis X.env.scope x) (h : QE X EW e te ma) (hk : QE X EW k tk mk) (hd : (x == ("__debug__" : Str)) = false := by decide)
    (hcd : (x == ("__classdict__" : Str)) = false := by decide)
    (ha : ∀ v, assign (.Subscript (.Name x p) k p2) X.env v = (do
      let ov ← holding [v] (eval (.Name x p) X.env)
      let iv ← holding [v, ov] (eval k X.env)
      standAt p2
      holding [v, ov, iv] (setItem ov iv v)
      release [v, ov, iv] []) := by intro _; rfl)
    (hs : swapsWithSole [.Subscript (.Name x p) k p2] e pos.line X.env = pure false := by rfl) (hw : swappedStores [.Subscript (.Name x p) k p2] e X.env = pure none := by rfl)
    (h1 : (assignEach [.Subscript (.Name x p) k p2] X.env).map (·.2) = [assign (.Subscript (.Name x p) k p2) X.env] := by rfl) :
    QS X EW (.Assign [.Subscript (.Name x p) k p2] e pos) (tAsg te (gSub (tVar i) tk rSetL)) (mSetItem i mk ma) := by
  refine ⟨ps_asg h.pe (pg_sub (pe_var hN hv hd hcd) hk.pe set_list ha) hs hw h1, ?_⟩
  refine then_sm (R := VwOk) (k := fun D σ y H1 => gSub (tVar i) tk rSetL y σ H1 D.nx) h.sm fun g F H σ ρ y w hK ok hy r ρ' e D q => ?_
  obtain ⟨d, F1, ρ1, ex1, ok1, hd1, e1⟩ := frcS ok hy e
  obtain ⟨e2, l, vs0, hv, hl⟩ := isOL_at ok1 e1
  refine ⟨.ref l, hv, ?_⟩
  unfold mThen at e2
  cases hm : mk ρ1 with
  | none => rw [hm] at e2; cases e2
  | some p =>
    obtain ⟨r1, ρ2⟩ := p
    rw [hm] at e2
    cases r1 with
    | er c =>
      cases e2
      exact hk.sm g F1 H σ ρ1 hK ok1 _ _ hm _ fun F' H' ex ok' => q F' H' σ (ex1.trans ex) ok'
    | ok u =>
      refine hk.sm g F1 H σ ρ1 hK ok1 _ _ hm _ fun F2 H2 ex2 ok2 z hz => ?_
      obtain ⟨n, rfl, e3⟩ := asI_S ok2 hz e2
      obtain ⟨ds, es, vs, hf, hH, hds, rfl, kk⟩ := ownL_at ok2 hv e3
      unfold setL at hf
      cases hj : ixN ds.length n with
      | none => rw [hj] at hf; cases hf
      | some j =>
        rw [hj] at hf
        cases hf
        exact ⟨l, vs, n, j, rfl, rfl, hH, by rw [dps_len hds]; exact hj, q F2 _ σ (ex1.trans ex2) (kk _ (dps_set (dpE ex2 _ _ hd1) j hds))⟩
/-! ### dicts of one's own, keys whole numbers and texts -/
def toKey : D → Option Key
  | .int i => some (.inl i)
  | .str x => some (.inr x)
  | _ => none
def valD (kvs : List (Key × D)) (k : Key) : Option D := (kvs.find? fun kv => decide (kv.1 = k)).map (·.2)
def putD (kvs : List (Key × D)) (k : Key) (d : D) : List (Key × D) :=
  if (kvs.any fun kv => decide (kv.1 = k)) = true then kvs.map (fun kv => if kv.1 = k then (kv.1, d) else kv) else kvs ++ [(k, d)]
theorem kv_val {F : Hp} {k : Key} : ∀ {kvs : List (Key × D)} {ws : List (Key × V)}, KvAll K F ws kvs → (∀ d, valD kvs k = some d → ∃ v, valV ws k = some v ∧ Dp K F v d) ∧ (valD kvs k = none → valV ws k = none)
  | _, _, .nil => ⟨(fun d h => nomatch h), fun _ => rfl⟩
  | (k0, d0) :: kvs, (_, v0) :: ws, .cons h t => by
    obtain ⟨i1, i2⟩ := kv_val (k := k) t
    by_cases e : k0 = k
    · have e1 : valD ((k0, d0) :: kvs) k = some d0 := by simp [valD, List.find?_cons, e]
      have e2 : valV ((k0, v0) :: ws) k = some v0 := valV_pos (p := (k0, v0)) e
      rw [e1, e2]
      exact ⟨fun d q => by cases q; exact ⟨v0, rfl, h⟩, fun q => by cases q⟩
    · have e1 : valD ((k0, d0) :: kvs) k = valD kvs k := by simp [valD, List.find?_cons, e]
      have e2 : valV ((k0, v0) :: ws) k = valV ws k := valV_neg (p := (k0, v0)) e
      rw [e1, e2]
      exact ⟨i1, i2⟩
theorem kv_len {F : Hp} : ∀ {kvs : List (Key × D)} {ws : List (Key × V)}, KvAll K F ws kvs → ws.length = kvs.length
  | _, _, .nil => rfl
  | _, _, .cons _ t => by rw [List.length_cons, List.length_cons, kv_len t]
theorem kv_any {F : Hp} {k : Key} : ∀ {kvs : List (Key × D)} {ws : List (Key × V)}, KvAll K F ws kvs → (ws.any fun kv => decide (kv.1 = k)) = (kvs.any fun kv => decide (kv.1 = k))
  | _, _, .nil => rfl
  | _, _, .cons _ t => by rw [List.any_cons, List.any_cons, kv_any t]
theorem kv_map {F : Hp} {k : Key} {v : V} {d : D} (h : Dp K F v d) : ∀ {kvs : List (Key × D)} {ws : List (Key × V)}, KvAll K F ws kvs → KvAll K F (ws.map fun kv => if kv.1 = k then (kv.1, v) else kv) (kvs.map fun kv => if kv.1 = k then (kv.1, d) else kv)
  | _, _, .nil => .nil
  | (k0, d0) :: kvs, (_, v0) :: ws, .cons q t => by
    rw [List.map_cons, List.map_cons]
    by_cases e : k0 = k
    · rw [if_pos e, if_pos e]; exact .cons h (kv_map h t)
    · rw [if_neg e, if_neg e]; exact .cons q (kv_map h t)
theorem kv_snoc {F : Hp} {k : Key} {v : V} {d : D} (h : Dp K F v d) : ∀ {kvs : List (Key × D)} {ws : List (Key × V)}, KvAll K F ws kvs → KvAll K F (ws ++ [(k, v)]) (kvs ++ [(k, d)])
  | _, _, .nil => .cons h .nil
  | _, _, .cons q t => .cons q (kv_snoc h t)
theorem kv_put {F : Hp} {k : Key} {v : V} {d : D} (h : Dp K F v d) {kvs : List (Key × D)} {ws : List (Key × V)} (q : KvAll K F ws kvs) : KvAll K F (putK ws k v) (putD kvs k d) := by
  unfold putK putD
  rw [kv_any q]
  split
  · exact kv_map h q
  · exact kv_snoc h q
/-- a slot's own object -/
def isOwnS (i : Nat) {α : Type} (m : List Sl → Option α) : List Sl → Option α := fun ρ => match ρ[i]? with
  | some (.own _) => m ρ
  | some (.par _) => m ρ
  | _ => none
theorem isOwnS_at {α : Type} {g : Gh} {F H : Hp} {σ : St} {ρ : List Sl} {i : Nat} {m : List Sl → Option α} {p : α} (ok : Ok g F H σ ρ) (h : isOwnS i m ρ = some p) : m ρ = some p ∧ ∃ l, σ[i]? = some (some (.ref l)) := by
  unfold isOwnS at h
  cases hs : ρ[i]? with
  | none => rw [hs] at h; cases h
  | some s =>
    rw [hs] at h
    obtain ⟨ov, hv, hsl⟩ := ok.at hs
    cases s with
    | un => cases h
    | dat d => cases h
    | own o => obtain ⟨l, rfl, _⟩ := hsl; exact ⟨h, l, hv⟩
    | par o => obtain ⟨l, rfl, _⟩ := hsl; exact ⟨h, l, hv⟩
/-- the pairs of a slot's own dict -/
def dkAt (i : Nat) (ρ : List Sl) : Option (List (Key × D)) := match ρ[i]? with
  | some (.own (.dk kvs)) => some kvs
  | some (.par (.dk kvs)) => some kvs
  | _ => none
theorem dkAt_ok {g : Gh} {F H : Hp} {σ : St} {ρ : List Sl} {i : Nat} {kvs : List (Key × D)} {l : Addr} (ok : Ok g F H σ ρ) (hv : σ[i]? = some (some (.ref l))) (h : dkAt i ρ = some kvs) : ∃ ws, H l = some (.dK ws) ∧ KvAll g.K F ws kvs := by
  unfold dkAt at h
  cases hs : ρ[i]? with
  | none => rw [hs] at h; cases h
  | some s =>
    rw [hs] at h
    have hsl := ok.sl i s _ hs hv
    cases s with
    | un => cases h
    | dat d => cases h
    | own o =>
      cases o with
      | lst ds => cases h
      | dk kvs => obtain ⟨l', e, _, ⟨ws, h1, h2⟩, _⟩ := hsl; cases e; cases h; exact ⟨ws, h1, h2⟩
    | par o =>
      cases o with
      | lst ds => cases h
      | dk kvs => obtain ⟨l', e, _, ⟨ws, h1, h2⟩, _⟩ := hsl; cases e; cases h; exact ⟨ws, h1, h2⟩
/-- a key that is read -/
def keyAt (u : Vw) (ρ : List Sl) : Option Key := (rdD u ρ).bind toKey
/-- d[k] of a slot's own dict -/
def dgetA (i : Nat) (u : Vw) : M Vw := fun ρ => match keyAt u ρ with
  | none => none
  | some k => match dkAt i ρ with
    | none => none
    | some kvs => match valD kvs k with
      | none => none
      | some d => some (.ok (.dat d), ρ)
def mDGet (i : Nat) (mk : M Vw) : M Vw := isOwnS i (mBind mk (dgetA i))
theorem key_ok {H : Hp} {v : V} {d : D} {k : Key} (h : Dp K H v d) (e : toKey d = some k) : v = kV k := by
  cases d with
  | int i => cases h; cases e; rfl
  | str x => cases h; cases e; rfl
  | none => cases e
  | bool _ => cases e
  | list _ => cases e
  | tuple _ => cases e
  | dict _ => cases e
theorem qe_dget (i : Nat) {x : Str} {k : Expr} {tk : TE} {mk : M Vw} {p : Pos} (hu : X.A.units + 1 < cLine) (hk : QE X EW k tk mk) (hN : X.N[i]? = some x := by rfl) (hv : Vis X.env.scope x := by first | exact Or.inl rfl | exact Or.inr (Or.inl rfl) | exact Or.inr (Or.inr rfl)) (hd : (x == ("__debug__" : Str)) = false := by decide)
    (hcd : (x == ("__classdict__" : Str)) = false := by decide) (hs : NoSl k := by exact fun _ _ => rfl) : QE X EW (.Subscript (.Name x p) k pos) (tDGet (tVar i) tk) (mDGet i mk) := by
  refine ⟨pe_dget hu (pe_var hN hv hd hcd) hk.pe hs, fun g F H σ ρ hK ok r ρ' e Q q => ?_⟩
  obtain ⟨e1, l, hl⟩ := isOwnS_at ok e
  refine ⟨.ref l, hl, ?_⟩
  refine At.bind (EW := EW) (R2 := VwOk g σ) (k := fun y H2 Q => ∃ a v, V.ref l = .ref a ∧ DGet H2 a y (some v) ∧ Q v H2) (hk.sm g F H σ ρ hK ok) (fun F1 H1 ρ1 y u ex1 ok1 hy => ?_) r ρ' e1 Q q
  intro r ρ' e Q q
  unfold dgetA at e
  cases h1 : keyAt u ρ1 with
  | none => rw [h1] at e; cases e
  | some k =>
    rw [h1] at e
    simp only at e
    cases h2 : dkAt i ρ1 with
    | none => rw [h2] at e; cases e
    | some kvs =>
      rw [h2] at e
      simp only at e
      cases h3 : valD kvs k with
      | none => rw [h3] at e; cases e
      | some d =>
        rw [h3] at e
        cases e
        obtain ⟨ws, h4, h5⟩ := dkAt_ok ok1 hl h2
        obtain ⟨v, h6, h7⟩ := (kv_val h5).1 d h3
        unfold keyAt at h1
        cases hr : rdD u ρ1 with
        | none => rw [hr] at h1; cases h1
        | some kd =>
          rw [hr] at h1
          cases key_ok (rdD_ok ok1 hy hr) h1
          refine ⟨l, v, rfl, ?_, q F1 H1 (Ex.refl F1) ok1 v h7⟩
          have g0 := DGet.k (k := k) h4
          rw [h6] at g0
          exact g0
/-- x = {k: v, ..} with written keys and values -/
def litKV : List (D × D) → Option (List (Key × D))
  | [] => some []
  | (k, d) :: r => (toKey k).bind fun k => (litKV r).map ((k, d) :: ·)
def mergeD (kvs more : List (Key × D)) : List (Key × D) := more.foldl (fun acc kv => putD acc kv.1 kv.2) kvs
structure QC (X : Cx) (e : Expr) (v : V) (d : D) : Prop where
  pe : PE X e (tC v)
  dp : ∀ K F, Dp K F v d
theorem qc_int {i j} : QC X (.Constant (.int i) j pos) (.int i) (.int i) := ⟨pe_int, fun _ _ => .int i⟩
theorem qc_str {x j} : QC X (.Constant (.str x) j pos) (.str x) (.str x) := ⟨pe_str, fun _ _ => .str x⟩
theorem qc_bl {x j} : QC X (.Constant (.bool x) j pos) (.bl x) (.bool x) := ⟨pe_bl, fun _ _ => .bl x⟩
theorem qc_non {j} : QC X (.Constant .none j pos) .non .none := ⟨pe_non, fun _ _ => .non⟩
structure QPs (X : Cx) (pos : Pos) (ks : List (Option Expr)) (vs : List Expr) (trs : List (TE × TE)) (ps : List (Key × V)) (ds : List (Key × D)) : Prop where
  pp : PPs X pos ks vs trs
  rd : ∀ σ H (Q : List (V × V) → Hp → Prop), Q (ps.map fun kv => (kV kv.1, kv.2)) H → tPairs trs σ H Q
  kv : ∀ K F, KvAll K F ps ds
theorem qps_nil : QPs X pos [] [] [] [] [] := ⟨pps_nil, fun σ H Q q => q, fun _ _ => .nil⟩
theorem qps_cons {k v : Expr} {ks : List (Option Expr)} {vs : List Expr} {trs : List (TE × TE)} {ps : List (Key × V)} {ds : List (Key × D)} {ky : Key} {vv : V} {dk dv : D} (hk : QC X k (kV ky) dk) (hv : QC X v vv dv) (hr : QPs X pos ks vs trs ps ds) :
    QPs X pos (some k :: ks) (v :: vs) ((tC (kV ky), tC vv) :: trs) ((ky, vv) :: ps) ((ky, dv) :: ds) :=
  ⟨pps_cons hk.pe hv.pe hr.pp, fun σ H Q q => hr.rd σ H _ q, fun K F => .cons (hv.dp K F) (hr.kv K F)⟩
theorem kv_merge {F : Hp} : ∀ {more : List (Key × D)} {ms : List (Key × V)} {kvs : List (Key × D)} {ws : List (Key × V)}, KvAll K F ms more → KvAll K F ws kvs → KvAll K F (mergeK ws ms) (mergeD kvs more)
  | _, _, _, _, .nil, h => h
  | _, _, _, _, .cons q t, h => by
    unfold mergeK mergeD
    rw [List.foldl_cons, List.foldl_cons]
    exact kv_merge t (kv_put q h)
def mNewDk (i : Nat) (ds : List (Key × D)) : MS := asgO i (.dk (mergeD [] ds))
theorem qs_newDk (i : Nat) {x : Str} {ks : List (Option Expr)} {vs : List Expr} {trs : List (TE × TE)} {ps : List (Key × V)} {ds : List (Key × D)} {p p2 : Pos} (hN : X.N.Nodup) (h : QPs X p2 ks vs trs ps ds) (hi : X.N[i]? = some x := by rfl)
    (hx : Loc X.env.scope x := by first | exact Or.inl rfl | exact Or.inr rfl) (hall : ks.all (·.isSome) = true := by rfl) (hl : ks.length = vs.length := by rfl) (h0 : ks ≠ [] := by exact fun z => nomatch z) (h15 : ks.length ≤ 15 := by decide) (hp15 : ps.length ≤ 15 := by decide)
    (hs : swapsWith (.Dict ks vs p2) (some (.Name x p)) pos.line X.env = pure false := by rfl) (hf : X.fn x = true ∨ X.env.scope.names.lookup x = some .local := by first | exact .inl rfl | exact .inr rfl) :
    QS X EW (.Assign [.Name x p] (.Dict ks vs p2) pos) (tAsg (tDisp trs) (gName i)) (mNewDk i ds) := by
  refine ⟨ps_set hN hi hx (pe_disp h.pp hall hl h0 h15) hs hf, fun g F H σ ρ hK ok r ρ' e D q => ?_⟩
  intro P hP
  refine h.rd σ _ _ ?_
  obtain ⟨rfl, rfl⟩ := asgO_some e
  refine ⟨upd_same, ps, rfl, hp15, ?_⟩
  rw [upd_upd]
  exact q F _ _ (Ex.refl F) (ok.setO (o := .dk (mergeD [] ds)) hP ⟨mergeK [] ps, upd_same, kv_merge (h.kv g.K F) .nil⟩)
/-- x = {}, keys whole numbers or texts -/
theorem qs_newDk0 (i : Nat) {x : Str} {p p2 : Pos} (hN : X.N.Nodup) (hi : X.N[i]? = some x := by rfl) (hx : Loc X.env.scope x := by first | exact Or.inl rfl | exact Or.inr rfl)
    (hs : swapsWith (.Dict [] [] p2) (some (.Name x p)) pos.line X.env = pure false := by rfl) (hf : X.fn x = true ∨ X.env.scope.names.lookup x = some .local := by first | exact .inl rfl | exact .inr rfl) :
    QS X EW (.Assign [.Name x p] (.Dict [] [] p2) pos) (tAsg tDNewK (gName i)) (asgO i (.dk [])) := by
  refine ⟨ps_set hN hi hx pe_dnewK hs hf, fun g F H σ ρ hK ok r ρ' e D q => ?_⟩
  intro P hP
  obtain ⟨rfl, rfl⟩ := asgO_some e
  exact q F _ _ (Ex.refl F) (ok.setO (o := .dk []) hP ⟨[], upd_same, .nil⟩)
/-- d[k] = e -/
def dputA (i : Nat) (d : D) (u : Vw) : MS := fun ρ => match keyAt u ρ with
  | none => none
  | some k => match ρ[i]? with
    | some (.own (.dk kvs)) => if kvs.length < BIG then some (.nx, ρ.set i (.own (.dk (putD kvs k d)))) else none
    | some (.par (.dk kvs)) => if kvs.length < BIG then some (.nx, ρ.set i (.par (.dk (putD kvs k d)))) else none
    | _ => none
def mDPut (i : Nat) (mk ma : M Vw) : MS := mThen ma fun w => mThen (frc w) fun d => isOwnS i (mThen mk fun u => dputA i d u)
theorem qs_dput (i : Nat) {x : Str} {k e : Expr} {tk te : TE} {mk ma : M Vw} {p p2 : Pos} (hu : X.A.units + 1 < cLine) (h : QE X EW e te ma) (hk : QE X EW k tk mk) (hN : X.N[i]? = some x := by rfl) (hv : Vis X.env.scope x := by first | exact Or.inl rfl | exact Or.inr (Or.inl rfl) | exact Or.inr (Or.inr rfl)) (hd : (x == ("__debug__" : Str)) = false := by decide)
    (hcd : (x == ("__classdict__" : Str)) = false := by decide) (hs : swapsWith e (some (.Subscript (.Name x p) k p2)) pos.line X.env = pure false := by rfl) :
    QS X EW (.Assign [.Subscript (.Name x p) k p2] e pos) (sDPut (tVar i) tk te) (mDPut i mk ma) := by
  refine ⟨ps_dput hu (pe_var hN hv hd hcd) hk.pe h.pe hs, ?_⟩
  refine then_sm (R := VwOk) (k := fun D σ v H1 => tVar i σ H1 fun x H2 => tk σ H2 fun y H3 => ∃ a H4, x = .ref a ∧ DPut H3 a y v H4 ∧ D.nx σ H4) h.sm fun g F H σ ρ v w hK ok hy r ρ' e D q => ?_
  obtain ⟨d, F1, ρ1, ex1, ok1, hd1, e1⟩ := frcS ok hy e
  obtain ⟨e2, l, hv⟩ := isOwnS_at ok1 e1
  refine ⟨.ref l, hv, ?_⟩
  unfold mThen at e2
  cases hm : mk ρ1 with
  | none => rw [hm] at e2; cases e2
  | some p =>
    obtain ⟨r1, ρ2⟩ := p
    rw [hm] at e2
    cases r1 with
    | er c =>
      cases e2
      exact hk.sm g F1 H σ ρ1 hK ok1 _ _ hm _ fun F' H' ex ok' => q F' H' σ (ex1.trans ex) ok'
    | ok u =>
      refine hk.sm g F1 H σ ρ1 hK ok1 _ _ hm _ fun F2 H2 ex2 ok2 y hy => ?_
      have e2 : dputA i d u ρ2 = some (r, ρ') := e2
      unfold dputA at e2
      cases h1 : keyAt u ρ2 with
      | none => rw [h1] at e2; cases e2
      | some k =>
        rw [h1] at e2
        simp only at e2
        have hkey : y = kV k := by
          unfold keyAt at h1
          cases hr : rdD u ρ2 with
          | none => rw [hr] at h1; cases h1
          | some kd =>
            rw [hr] at h1
            exact key_ok (rdD_ok ok2 hy hr) h1
        subst hkey
        cases hsl : ρ2[i]? with
        | none => rw [hsl] at e2; cases e2
        | some s =>
          rw [hsl] at e2
          have so := ok2.sl i s _ hsl hv
          cases s with
          | un => cases e2
          | dat d => cases e2
          | own o =>
            cases o with
            | lst ds => cases e2
            | dk kvs =>
              simp only at e2
              split at e2
              · rename_i hz
                cases e2
                obtain ⟨l', z1, _, ⟨ws, h3, h4⟩, _⟩ := so
                cases z1
                exact ⟨l, _, rfl, DPut.k h3 (by rw [kv_len h4]; exact big_lt (Nat.le_of_lt hz)), q F2 _ σ (ex1.trans ex2) (ok2.mutO hsl hv (.inl ⟨_, rfl, rfl⟩) ⟨_, upd_same, kv_put (dpE ex2 _ _ hd1) h4⟩)⟩
              · cases e2
          | par o =>
            cases o with
            | lst ds => cases e2
            | dk kvs =>
              simp only at e2
              split at e2
              · rename_i hz
                cases e2
                obtain ⟨l', z1, _, ⟨ws, h3, h4⟩, _⟩ := so
                cases z1
                exact ⟨l, _, rfl, DPut.k h3 (by rw [kv_len h4]; exact big_lt (Nat.le_of_lt hz)), q F2 _ σ (ex1.trans ex2) (ok2.mutO hsl hv (.inr ⟨_, rfl, rfl⟩) ⟨_, upd_same, kv_put (dpE ex2 _ _ hd1) h4⟩)⟩
              · cases e2
end
end Dat
namespace Dat
open PySem L2 PyProof.Rows PySem.Spec
/-! ### sets of whole numbers or texts (after the kit's sets of ints) -/
def KeyE (w : World) (k : Key) (e : Int × Value) : Prop := keyIs k e.2 = true ∧ e.1 = keyH w k
theorem keyE_one {w : World} {k j : Key} {e : Int × Value} (h : KeyE w k e) (q : keyIs j e.2 = true) : j = k := (mixKind default w).inj e.2 j k q h.1
theorem key_scans {k : Key} {v : Value} (h : keyIs k v = true) : v.scannable = true := by
  rcases keyIs_shape h with ⟨i, t, rfl, rfl⟩ | ⟨x, t, rfl, rfl⟩ <;> rfl
/-- the set at a holds just these keys, each once -/
def SetX (w : World) (h : Heap) (a : Addr) (ks : List Key) : Prop :=
  ∃ o es ep t, h.get? a = some o ∧ o.ExactSet ∧ o.data = .set es ep t ∧ (∃ js : List Key, Paired (KeyE w) js es.toList ∧ js.Perm ks) ∧ ks.Nodup ∧
    es.size < scanBound ∧ t.fits es.size = true ∧ Ris t.place.toList ∧ (w.params.followText "set-order" = true ∨ t.led = true)
theorem paired_mem {α β : Type} {F : α → β → Prop} : ∀ {xs : List α} {ys : List β}, Paired F xs ys → ∀ y ∈ ys, ∃ x ∈ xs, F x y
  | _, _, .nil, y, h => by cases h
  | _, _, .cons r t, y, h => by
    rcases List.mem_cons.mp h with rfl | h
    · exact ⟨_, List.mem_cons_self, r⟩
    · obtain ⟨x, h1, h2⟩ := paired_mem t y h
      exact ⟨x, List.mem_cons_of_mem _ h1, h2⟩
theorem paired_mem' {α β : Type} {F : α → β → Prop} : ∀ {xs : List α} {ys : List β}, Paired F xs ys → ∀ x ∈ xs, ∃ y ∈ ys, F x y
  | _, _, .nil, y, h => by cases h
  | _, _, .cons r t, y, h => by
    rcases List.mem_cons.mp h with rfl | h
    · exact ⟨_, List.mem_cons_self, r⟩
    · obtain ⟨x, h1, h2⟩ := paired_mem' t y h
      exact ⟨x, List.mem_cons_of_mem _ h1, h2⟩
/-- the other list in another order -/
theorem paired_perm {α β : Type} {F : α → β → Prop} {ys zs : List β} (p : ys.Perm zs) : ∀ {xs : List α}, Paired F xs ys → ∃ ws, ws.Perm xs ∧ Paired F ws zs := by
  induction p with
  | nil => exact fun h => ⟨_, .refl _, h⟩
  | cons x _ ih =>
    intro xs h
    cases h with
    | cons r t =>
      obtain ⟨ws, h1, h2⟩ := ih t
      exact ⟨_ :: ws, h1.cons _, .cons r h2⟩
  | swap x y l =>
    intro xs h
    cases h with
    | cons r t =>
      cases t with
      | cons r2 t2 => exact ⟨_ :: _ :: _, .swap _ _ _, .cons r2 (.cons r t2)⟩
  | trans _ _ ih1 ih2 =>
    intro xs h
    obtain ⟨ws, h1, h2⟩ := ih1 h
    obtain ⟨us, h3, h4⟩ := ih2 h2
    exact ⟨us, h3.trans h1, h4⟩
theorem paired_len {α β : Type} {F : α → β → Prop} : ∀ {xs : List α} {ys : List β}, Paired F xs ys → xs.length = ys.length
  | _, _, .nil => rfl
  | _, _, .cons _ t => by rw [List.length_cons, List.length_cons, paired_len t]
section
variable {P : Program} {w : World} {A : Around} {E : Value → Shared → Prop} {s : Shared} {a : Addr} {ks : List Key}
theorem elemsX {js : List Key} {es : List (Int × Value)} (h : Paired (KeyE w) js es) : ElemsOf (mixKind P w) es := fun e he => by
  obtain ⟨k, _, h1, h2⟩ := paired_mem h e he
  exact ⟨⟨k, h1, h2⟩, key_scans h1⟩
theorem setX_size {h : Heap} (R : SetX w h a ks) : ∀ o es ep t, h.get? a = some o → o.data = .set es ep t → es.size = ks.length := fun o es ep t ho hd => by
  obtain ⟨o', es', ep', t', ho', _, hd', ⟨js, h1, h2⟩, _⟩ := R
  rw [ho] at ho'; cases ho'
  rw [hd] at hd'; cases hd'
  rw [← h2.length_eq, paired_len h1, Array.length_toList]
theorem SetX.keep {h h' : Heap} (R : SetX w h a ks) (k : ∀ o, h.get? a = some o → h'.get? a = some o) : SetX w h' a ks := by
  obtain ⟨o, es, ep, t, ho, r⟩ := R
  exact ⟨o, es, ep, t, k o ho, r⟩
theorem tailX {g : Bool → Sem Unit} (hg : ∀ (b : Bool) (s₁ : Shared) (Q' : Unit → Shared → Prop), Q' () s₁ → wpAny (model P w) A (g b) Q' E s₁)
    {o : Obj} {es : Array (Int × Value)} {ep : Nat} {t : SetTable} (ho : s.heap.get? a = some o) (hex : o.ExactSet) (hd : o.data = .set es ep t)
    {es1 : Array (Int × Value)} {t2 : SetTable} {js : List Key} (g1 : Paired (KeyE w) js es1.toList) (p1 : js.Perm ks) (nd : ks.Nodup) (hb1 : es1.size < scanBound) (hf2 : t2.fits es1.size = true) (hr : Ris t2.place.toList)
    (hl : w.params.followText "set-order" = true ∨ t2.led = true) {wasDummy : Bool} {R : Option Bool → Shared → Prop} (hR : ∀ h', Heap.SameBut a s.heap h' → SetX w h' a ks → R (some true) { s with heap := h' }) :
    wpAny (model P w) A (do
        storeSet a es1 t2
        if (!wasDummy && t2.tooFull) = true then do
            g (relayAll t2 es1 (SetTable.grown es1.size)).2.2
            storeSet a (relayAll t2 es1 (SetTable.grown es1.size)).1 (relayAll t2 es1 (SetTable.grown es1.size)).2.1
            pure (some true)
          else pure (some true)) R E s := by
  refine wpAny_bind (wpAny_storeSet_of ho hd ?_ (fits_of_scanBound hb1))
  have o1 := store_at (es' := es1) (t' := t2) ho hd
  have b1 := Heap.SameBut.update s.heap a (Obj.putSet es1 t2)
  split
  · have q1 := relayAll_perm t2 es1 (SetTable.grown es1.size)
    have q2 := relayAll_fits t2 es1 (SetTable.grown es1.size)
    have q3 := relayAll_ris t2 es1 (SetTable.grown es1.size)
    have q4 := relayAll_led t2 es1 (SetTable.grown es1.size)
    generalize relayAll t2 es1 (SetTable.grown es1.size) = Z at q1 q2 q3 q4 ⊢
    obtain ⟨es2, t3, gave⟩ := Z
    dsimp only at q1 q2 q3 q4 ⊢
    have z1 : es2.size = es1.size := by rw [← Array.length_toList, q1.length_eq, Array.length_toList]
    have z2 : es2.size < scanBound := by rw [z1]; exact hb1
    refine wpAny_bind (hg _ _ _ ?_)
    refine wpAny_bind (wpAny_storeSet_of o1 rfl ?_ (fits_of_scanBound z2))
    have o2 := store_at (es' := es2) (t' := t3) o1 rfl
    obtain ⟨ls, l1, l2⟩ := paired_perm q1.symm g1
    exact wpAny_pure (hR _ (b1.trans (Heap.SameBut.update _ a _)) ⟨_, es2, _, t3, o2, hex, rfl, ⟨ls, l2, l1.trans p1⟩, nd, z2, q2, q3, hl.imp id fun z => by rw [q4]; exact z⟩)
  · exact wpAny_pure (hR _ b1 ⟨_, es1, _, t2, o1, hex, rfl, ⟨js, g1, p1⟩, nd, hb1, hf2, hr, hl⟩)
/-- the key k into the keys so far -/
def addK (ks : List Key) (k : Key) : List Key := if (ks.any fun j => decide (j = k)) = true then ks else ks ++ [k]
theorem any_key (ks : List Key) (k : Key) : (ks.any fun j => decide (j = k)) = true ↔ k ∈ ks := by
  rw [List.any_eq_true]
  constructor
  · rintro ⟨j, h1, h2⟩
    have := of_decide_eq_true h2
    subst this; exact h1
  · intro h; exact ⟨k, h, decide_eq_true rfl⟩
theorem addHX {k : Key} {v : Value} (hk : keyIs k v = true) {Q : Bool → Shared → Prop} (R : SetX w s.heap a ks) (room : ks.length + 1 < scanBound)
    (hQ : ∀ b h', Heap.SameBut a s.heap h' → SetX w h' a (addK ks k) → Q b { s with heap := h' }) : wpAny (model P w) A (setAddHashed a v (keyH w k)) Q E s := by
  have hz := fun o es ep t h1 h2 => setX_size R o es ep t h1 h2
  have R0 := R
  obtain ⟨o, es, ep, t, ho, hex, hd, ⟨js, g, pj⟩, nd, hb, hf, hr, hl⟩ := R
  have hn := hz o es ep t ho hd
  have hkey : (mixKind P w).is k v = true := hk
  have hsc : v.scannable = true := key_scans hk
  have hel : ElemsOf (mixKind P w) es.toList := elemsX g
  show wpAny (model P w) A (setAddHashed a v ((mixKind P w).hash k)) Q E s
  unfold setAddHashed setAddHashedIn
  refine wpAny_holding (wpAny_bind (wpAny_setState_of ho hd hf ?_))
  dsimp only
  rw [byScan_of hsc hb hel]
  simp only [↓reduceIte]
  unfold setAddByScan
  refine wpAny_bind ?_
  refine wpAny_bind (wpAny_rule ?_)
  refine wpAny_bind (wpAny_setScan_of hkey ho hd hf hel ?_)
  cases hfi : List.findIdx? (fun e => (mixKind P w).is k e.2) es.toList with
  | some j =>
    dsimp only
    obtain ⟨hj, pj', _⟩ := List.findIdx?_eq_some_iff_getElem.mp hfi
    have hin : k ∈ ks := by
      obtain ⟨k', h1, h2⟩ := paired_mem g es.toList[j] (List.getElem_mem hj)
      have e : k = k' := keyE_one h2 pj'
      rw [e]; exact pj.mem_iff.mp h1
    refine wpAny_pure (wpAny_pure (hQ _ s.heap (Heap.SameBut.refl a s.heap) ?_))
    unfold addK
    rw [if_pos ((any_key ks k).mpr hin)]
    exact R0
  | none =>
    dsimp only
    have hnk : k ∉ ks := fun z => by
      obtain ⟨e, he, q⟩ := paired_mem' g k (pj.mem_iff.mpr z)
      have c := List.findIdx?_eq_none_iff.mp hfi e he
      have q1 : (mixKind P w).is k e.2 = true := q.1
      rw [q1] at c; cases c
    have ea : addK ks k = ks ++ [k] := by unfold addK; rw [if_neg fun c => hnk ((any_key ks k).mp c)]
    have hgw : ∀ (b : Bool) {s₁ : Shared} {Q' : Unit → Shared → Prop}, Q' () s₁ → wpAny (model P w) A (match b with | true => rule "set.scan.the-table-gave-way" | false => pure ()) Q' E s₁ :=
      fun b s₁ Q' q => by cases b <;> first | exact wpAny_pure q | exact wpAny_rule q
    have q1 := layNew_perm t es ((mixKind P w).hash k) v
    have q2 := layNew_fits t es ((mixKind P w).hash k) v
    have q3 := layNew_ris t es ((mixKind P w).hash k) v hr
    have q4 := layNew_led t es ((mixKind P w).hash k) v
    generalize layNew t es ((mixKind P w).hash k) v = Z at q1 q2 q3 q4 ⊢
    obtain ⟨es1, t1, wasDummy, gave⟩ := Z
    dsimp only at q1 q2 q3 q4 ⊢
    rw [Array.toList_push] at q1
    have q5 : es1.toList.Perm (((mixKind P w).hash k, v) :: es.toList) := q1.trans (List.perm_append_singleton _ _)
    obtain ⟨ls, l1, l2⟩ := paired_perm q5.symm (.cons ⟨hk, rfl⟩ g : Paired (KeyE w) (k :: js) (((mixKind P w).hash k, v) :: es.toList))
    have pk : ls.Perm (ks ++ [k]) := l1.trans ((pj.cons k).trans (List.perm_append_singleton k ks).symm)
    have nd1 : (ks ++ [k]).Nodup := (List.perm_append_singleton k ks).nodup_iff.mpr (List.nodup_cons.mpr ⟨hnk, nd⟩)
    have hsz : es1.size = ks.length + 1 := by rw [← Array.length_toList, q5.length_eq, List.length_cons, Array.length_toList, hn]
    have hb1 : es1.size < scanBound := by rw [hsz]; exact room
    have hled : w.params.followText "set-order" = true ∨ t1.led = true := hl.imp id fun z => by rw [q4]; exact z
    rw [ea] at hQ
    refine wpAny_bind (hgw _ ?_)
    split
    · refine wpAny_bind ?_
      rw [hashByValue_scannable 8 hsc]
      refine wpAny_pure ?_
      refine tailX ?_ ho hex hd l2 pk nd1 hb1 ?_ ?_ ?_ ?_
      · intro b s₁ Q' q; cases b <;> first | exact wpAny_pure q | exact wpAny_rule q
      · first | (split <;> first | exact q2 | exact SetTable.fits_plain_off q2) | exact q2
      · first | (split <;> exact q3) | exact q3
      · first | (split <;> exact hled) | exact hled
      · intro h' sb r; dsimp only; exact wpAny_pure (hQ _ h' sb r)
    · refine wpAny_bind (wpAny_pure ?_)
      simp only [↓reduceIte]
      refine tailX ?_ ho hex hd l2 pk nd1 hb1 q2 q3 hled ?_
      · intro b s₁ Q' q; cases b <;> first | exact wpAny_pure q | exact wpAny_rule q
      · intro h' sb r; dsimp only; exact wpAny_pure (hQ _ h' sb r)
theorem addK_len (ks : List Key) (k : Key) : (addK ks k).length ≤ ks.length + 1 := by
  unfold addK
  split
  · omega
  · simp
theorem fold_len : ∀ (ks ls : List Key), (ls.foldl addK ks).length ≤ ks.length + ls.length
  | ks, [] => by simp
  | ks, l :: ls => by
    have h1 := fold_len (addK ks l) ls
    have h2 := addK_len ks l
    rw [List.foldl_cons, List.length_cons]
    omega
theorem loopX {I : Addr} {fp wr : List Addr} {G : Array GenState → Array GenState → Prop} {n : Nat} {Pv : Nat → Value → Prop} {St : Nat → Shared → Prop} {R : Result → Shared → Prop}
    (W : WalksS P w A.in1 I fp wr G n Pv St) (S : Addr) (hSf : S ∉ fp) (ns : List Key) (hn : n = ns.length) (hb : ns.length + 1 < scanBound) (hval : ∀ i v, Pv i v → ∃ k, ns[i]? = some k ∧ keyIs k v = true) :
    ∀ (k i : Nat) (s : Shared), n - i = k → i ≤ n → St i s → SetX w s.heap S ((ns.take i).foldl addK []) →
      (∀ s', Moved (S :: wr) G s s' → SetX w s'.heap S (ns.foldl addK []) → R (.ok (.ret .none)) s') →
      codeAny (model P w) A (.builtin "set.update.loop" ⟨[.ref S, .ref I], []⟩) R s := by
  have hSw : S ∉ wr := fun h => hSf (W.sub _ h)
  have hsub : ∀ b ∈ wr, b ∈ S :: wr := fun b hb => List.mem_cons_of_mem _ hb
  intro k
  induction k with
  | zero =>
    intro i s hk' hi hst hS hR
    have hin : i = n := by omega
    subst hin
    refine codeAny_builtin PyProof.Rows.F.entry_set_update_loop ?_
    rw [Around.under_plainId PyProof.Rows.F.plain_set_update_loop _]
    show wpAny _ A.in1 (pyNext (.ref I) >>= _) _ _ s
    refine wpAny_bind (W.done s _ _ hst fun s' hm => ?_)
    show wpAny _ A.in1 (ret Value.none) _ _ s'
    have e : ns.take i = ns := List.take_of_length_le (by omega)
    rw [e] at hS
    exact wpAny_pure (hR s' (hm.mono hsub) (hS.keep fun o e => hm.heap S o hSw e))
  | succ k ih =>
    intro i s hk' hi hst hS hR
    have hlt : i < n := by omega
    refine codeAny_builtin PyProof.Rows.F.entry_set_update_loop ?_
    rw [Around.under_plainId PyProof.Rows.F.plain_set_update_loop _]
    show wpAny _ A.in1 (pyNext (.ref I) >>= _) _ _ s
    refine wpAny_bind (W.item i s _ _ hlt hst fun v s' hP hst' hm => ?_)
    obtain ⟨z, hz, hkz⟩ := hval i v hP
    have hS' : SetX w s'.heap S ((ns.take i).foldl addK []) := hS.keep fun o e => hm.heap S o hSw e
    show wpAny _ A.in1 (holding [v] (setAdd S v) >>= _) _ _ s'
    refine wpAny_bind (wpAny_holding ?_)
    unfold setAdd
    refine wpAny_holding ?_
    refine wpAny_bind ((mixKind P w).pyHash (k := z) hkz ?_)
    have hlen : ((ns.take i).foldl addK []).length + 1 < scanBound := by
      have h1 := fold_len [] (ns.take i)
      rw [List.length_take] at h1
      simp only [List.length_nil] at h1
      omega
    refine addHX (s := { s' with toks := s'.toks + 1 }) hkz hS' hlen fun b h' hsb hS2 => ?_
    have hS3 : SetX w h' S ((ns.take (i + 1)).foldl addK []) := by
      rw [List.take_add_one, hz, List.foldl_append]
      exact hS2
    refine wpAny_pure ⟨plainId_quiet PyProof.Rows.F.plain_set_update_loop _, ih (i + 1) _ (by omega) hlt (W.frame _ s' _ _ hst' (Nat.le_succ _) fun b hb o e => ?_) hS3 fun s'' hm'' hS'' => ?_⟩
    · rw [hsb.2 b (fun h : b = S => hSf (by rw [← h]; exact hb))]; exact e
    · refine hR s'' (Moved.trans W.gtrans ((hm.mono hsub).then_heap (Nat.le_succ _) fun b o hb e => ?_) hm'') hS''
      rw [hsb.2 b (fun h : b = S => hb (by rw [h]; exact List.mem_cons_self))]; exact e
abbrev freshSet (w : World) : Obj := { cls := .type "set", dict := none, data := .set #[] 0 (.fresh 0 0 (!w.params.followText "set-order")) }
theorem newX {h : Heap} (ho : h.get? a = some (freshSet w)) : SetX w h a [] :=
  ⟨_, #[], 0, _, ho, ⟨rfl, rfl, rfl⟩, rfl, ⟨[], .nil, .refl _⟩, .nil, (by decide), (by rfl), List.Pairwise.nil, by
    show _ ∨ (!w.params.followText "set-order") = true
    cases w.params.followText "set-order"
    · exact .inr rfl
    · exact .inl rfl⟩
set_option maxHeartbeats 8000000 in
/-- set(l) of a list -/
theorem setOfListX {l : Addr} {items : Array Value} (ns : List Key) {Q : Value → Shared → Prop} (hh : A.handled = none) (hl : s.heap.IsList l items) (hit : Paired (fun k v => keyIs k v = true) ns items.toList) (hb : ns.length + 1 < scanBound)
    (h : ∀ (h' : Heap) (tk : Nat), SetX w h' s.heap.objs.size (ns.foldl addK []) → (∀ b o, s.heap.get? b = some o → h'.get? b = some o) → Q (.ref s.heap.objs.size) { s with heap := h', toks := tk }) :
    wpAny (model P w) A (call (.type "set") [.ref l]) Q E s := by
  have hisz : items.size = ns.length := by
    have q := paired_len hit
    rw [Array.length_toList] at q
    exact q.symm
  obtain ⟨c, tl, hmro⟩ := PySem.F.called_set.mro
  have hmade := PySem.F.called_set.made
  have hsub := PySem.F.called_set.sub
  refine wpAny_call (codeAny_of_tree ?_)
  show wpAny _ _ (callAny (.type "set") _) _ _ _
  refine wpAny_pure ⟨Code.quiet_builtin _ (by decide +kernel), codeAny_builtin PySem.F.entry_type_call ?_⟩
  rw [Around.under_plain (weight_type_call_type "set" [.ref l] []) rfl]
  have h1 := PySem.F.called_set.notType
  have h2 := PySem.F.called_set.canCreate
  have hct := PySem.F.typeCall_set_1 (.ref l)
  repeat (any_goals (first | assumption | wp_step))
  refine codeAny_mono (code_set_led1 (.ref l) (E := E) (Q₁ := fun obj s₁ => obj = .ref s.heap.objs.size ∧ s₁ = { s with heap := s.heap.push (freshSet w) }) ⟨rfl, rfl⟩) fun r s₁ hr => ?_
  cases r with
  | error e => exact hr
  | ok fl =>
    cases fl with
    | ret obj =>
      obtain ⟨rfl, rfl⟩ := hr
      have hS : (s.heap.push (freshSet w)).get? s.heap.objs.size = some (freshSet w) := Heap.get?_push_size _ rfl
      have hT : Shared.TypeIs { s with heap := s.heap.push (freshSet w) } (.ref s.heap.objs.size) "set" := ⟨_, hS, rfl⟩
      have hli := PySem.F.called_set.init.lookup
      have hbi := PySem.F.called_set.init.bind (.ref s.heap.objs.size)
      repeat (any_goals (first | assumption | wp_step))
      refine codeAny_mono (codeAny_call_builtin (R := wants (fun r s₂ => r = .none ∧ ∃ h' tk, s₂ = { s with heap := h', toks := tk } ∧ SetX w h' s.heap.objs.size (ns.foldl addK []) ∧
          (∀ b o, s.heap.get? b = some o → h'.get? b = some o)) E) PySem.F.called_set.init.plain PySem.F.entry_set_init (check_set_init_1 hT ?_)) fun r₂ s₂ hr₂ => ?_
      · obtain ⟨ol, hol, hcl, nl, hdl⟩ := hl
        obtain ⟨ocls, odict, odata, oslots⟩ := ol
        simp only at hcl hdl
        subst hcl; subst hdl
        have hol' : (s.heap.push (freshSet w)).get? l = some { cls := .type "list", dict := odict, data := .seq items nl, slots := oslots } := Heap.get?_push_of_some _ hol
        have hsls := PySem.F.sub_list_set
        have hslf := PySem.F.sub_list_frozenset
        have hne : (Value.type "list" == Value.type "dict") = false := by decide
        have hl1 : (s.heap.push (freshSet w)).IsList l items := ⟨_, hol', rfl, nl, rfl⟩
        unfold Builtin.«set.__init__» noKeywords Builtin.Frozenset.updateFrom
        generalize hPI : pyIter = PI
        wp_walk
        subst hPI
        refine wpAny_pyIter_list hl1 ?_
        refine wpAny_bind (wpAny_runValue ?_)
        have hlS : l < s.heap.objs.size := Heap.lt_size hol
        have hh3 : A.in1.in1.in1.handled = none := by simp [hh]
        have hneI : l ≠ (s.heap.push (freshSet w)).objs.size := by
          rw [Heap.size_push]; exact Nat.ne_of_lt (Nat.lt_succ_of_lt hlS)
        have hSf : s.heap.objs.size ∉ [(s.heap.push (freshSet w)).objs.size, l] := by
          rw [Heap.size_push]; simp only [List.mem_cons, List.mem_singleton, List.not_mem_nil, or_false, not_or]
          exact ⟨Nat.ne_of_lt (Nat.lt_succ_self _), Nat.ne_of_gt hlS⟩
        have hval : ∀ (i : Nat) (v : Value), items[i]? = some v → ∃ k, ns[i]? = some k ∧ keyIs k v = true := fun i v hv => by
          have hi : i < ns.length := by rw [← hisz]; exact (Array.getElem?_eq_some_iff.mp hv).1
          obtain ⟨b, e1, e2⟩ := paired_get hit (List.getElem?_eq_getElem hi)
          rw [Array.getElem?_toList, hv] at e1
          cases e1
          exact ⟨_, List.getElem?_eq_getElem hi, e2⟩
        refine loopX ((Walks.list hh3 _ l hneI items).toS) s.heap.objs.size hSf ns hisz hb hval (items.size - 0) 0 _ (by omega) (Nat.zero_le _) ⟨⟨_, Heap.get?_push_size _ rfl, rfl, rfl⟩, (hl1.push _)⟩ ?hS0 ?hR
        case hS0 => exact newX (Heap.get?_push_of_some _ hS)
        case hR =>
          intro s' hm hS'
          obtain ⟨h', g2, d', tk', os'⟩ := s'
          have eg : g2 = s.gens := hm.gens
          have ed : d' = s.drawn := hm.drawn
          have eo : os' = s.os := hm.os
          subst eg; subst ed; subst eo
          show wpAny _ _ _ _ _ _
          refine wpAny_pure ?_
          show wpAny _ _ (ret Value.none) _ _ _
          refine wpAny_pure ⟨rfl, h', tk', rfl, hS', fun b o e => ?_⟩
          have hb0 : b < s.heap.objs.size := Heap.lt_size e
          have hb1 : b ≠ s.heap.objs.size := Nat.ne_of_lt hb0
          have hb2 : b ≠ (s.heap.push (freshSet w)).objs.size := by
            rw [Heap.size_push]; exact Nat.ne_of_lt (Nat.lt_succ_of_lt hb0)
          exact hm.heap b o (by simp only [List.mem_cons, List.mem_singleton, List.not_mem_nil, or_false, not_or]; exact ⟨hb1, hb2⟩) (Heap.get?_push_of_some _ (Heap.get?_push_of_some _ e))
      · cases r₂ with
        | error e => exact hr₂
        | ok fl₂ =>
          cases fl₂ with
          | ret r =>
            obtain ⟨rfl, h', tk, rfl, hS', hk'⟩ := hr₂
            repeat (any_goals (first | assumption | wp_step))
            exact h _ _ hS' hk'
          | _ => exact hr₂.elim
    | _ => exact hr.elim
end
end Dat
namespace Dat
open PySem L2 PyProof.Rows PySem.Spec
/-! ### texts in order -/
def leS (a b : Str) : Bool := !ltCps b.cps.toList a.cps.toList
theorem leS_le {a b : Str} : leS a b = true ↔ a.cps.toList ≤ b.cps.toList := by
  unfold leS
  rw [ltCps_eq]
  simp [List.not_lt]
theorem leS_total (a b : Str) : leS a b = true ∨ leS b a = true := by
  rw [leS_le, leS_le]; exact List.le_total _ _
theorem leS_trans {a b c : Str} (h : leS a b = true) (k : leS b c = true) : leS a c = true := by
  rw [leS_le] at *; exact List.le_trans h k
theorem leS_anti (a b : Str) (h : leS a b = true) (k : leS b a = true) : a = b := by
  rw [leS_le] at *
  exact Str.ext' (Array.toList_inj.mp (List.le_antisymm h k))
def insS (n : Str) : List Str → List Str
  | [] => [n]
  | m :: r => if leS n m = true then n :: m :: r else m :: insS n r
def sortS : List Str → List Str
  | [] => []
  | n :: r => insS n (sortS r)
theorem insS_perm (n : Str) : ∀ r, (insS n r).Perm (n :: r)
  | [] => .refl _
  | m :: r => by
    unfold insS
    split
    · exact .refl _
    · exact ((insS_perm n r).cons m).trans (.swap n m r)
theorem sortS_perm : ∀ r, (sortS r).Perm r
  | [] => .refl _
  | n :: r => (insS_perm n _).trans ((sortS_perm r).cons n)
theorem insS_le (n : Str) : ∀ r : List Str, r.Pairwise (fun a b => leS a b = true) → (insS n r).Pairwise (fun a b => leS a b = true)
  | [], _ => by unfold insS; exact List.pairwise_singleton _ _
  | m :: r, h => by
    have h' := List.pairwise_cons.mp h
    unfold insS
    split
    · rename_i hn
      refine List.pairwise_cons.mpr ⟨fun y hy => ?_, h⟩
      rcases List.mem_cons.mp hy with rfl | hy
      · exact hn
      · exact leS_trans hn (h'.1 y hy)
    · rename_i hn
      refine List.pairwise_cons.mpr ⟨fun y hy => ?_, insS_le n r h'.2⟩
      rcases List.mem_cons.mp ((insS_perm n r).mem_iff.mp hy) with rfl | hy
      · rcases leS_total y m with h1 | h1
        · exact absurd h1 hn
        · exact h1
      · exact h'.1 y hy
theorem sortS_le : ∀ r, (sortS r).Pairwise (fun a b => leS a b = true)
  | [] => List.Pairwise.nil
  | n :: r => insS_le n _ (sortS_le r)
theorem sortS_eq {ns ms : List Str} (p : ns.Perm ms) (h : ns.Pairwise (fun a b => leS a b = true)) : ns = sortS ms :=
  perm_le_eq (le := fun a b => leS a b = true) leS_anti (p.trans (sortS_perm ms).symm) h (sortS_le ms)
theorem risingS_pair : ∀ (l : List Str) (x : Str), risingS x l = true → (x :: l).Pairwise (fun a b => leS a b = true)
  | [], x, _ => List.pairwise_singleton _ _
  | y :: r, x, h => by
    have h : (!ltCps y.cps.toList x.cps.toList && risingS y r) = true := h
    rw [Bool.and_eq_true] at h
    have h1 : leS x y = true := h.1
    have h2 := risingS_pair r y h.2
    refine List.pairwise_cons.mpr ⟨fun z hz => ?_, h2⟩
    rcases List.mem_cons.mp hz with rfl | hz
    · exact h1
    · exact leS_trans h1 ((List.pairwise_cons.mp h2).1 z hz)
theorem sortedS_pair : ∀ (l : List Str), sortedS l = true → l.Pairwise (fun a b => leS a b = true)
  | [], _ => List.Pairwise.nil
  | x :: r, h => risingS_pair r x h
/-- a list of texts -/
def strsD : List D → Option (List Str)
  | [] => some []
  | .str i :: r => (strsD r).map (i :: ·)
  | _ :: _ => none
theorem strsD_some : ∀ {ds : List D} {ns : List Str}, strsD ds = some ns → ds = ns.map PyData.str
  | [], ns, h => by cases h; rfl
  | .str i :: r, ns, h => by
    have h : (strsD r).map (i :: ·) = some ns := h
    cases q : strsD r with
    | none => rw [q] at h; cases h
    | some ms =>
      rw [q] at h
      cases h
      rw [strsD_some q]; rfl
  | .none :: _, _, h => by cases h
  | .bool _ :: _, _, h => by cases h
  | .int _ :: _, _, h => by cases h
  | .list _ :: _, _, h => by cases h
  | .tuple _ :: _, _, h => by cases h
  | .dict _ :: _, _, h => by cases h
theorem strsD_map : ∀ ns : List Str, strsD (ns.map PyData.str) = some ns
  | [] => rfl
  | n :: ns => by
    show (strsD (ns.map PyData.str)).map (n :: ·) = some (n :: ns)
    rw [strsD_map ns]; rfl
section
variable {K : PySem.W.Frag}
theorem vals_strs_of {F : Hp} : ∀ {ns : List Str} {vs : List V}, DpAll K F vs (ns.map PyData.str) → vs = ns.map V.str
  | [], _, h => by cases h; rfl
  | n :: ns, _, h => by
    cases h with
    | cons h1 h2 => cases h1; rw [vals_strs_of h2]; rfl
theorem dps_strs {F : Hp} : ∀ (ns : List Str), DpAll K F (ns.map V.str) (ns.map PyData.str)
  | [] => .nil
  | n :: ns => .cons (.str n) (dps_strs ns)
/-- sorted(xs): whole numbers, or fewer than 64 texts -/
def fSort : D → Option D
  | .list ds => match intsD ds with
    | some ns => some (.list ((sortI ns).map PyData.int))
    | none => match strsD ds with
      | some ss => if ss.length < 64 then some (.list ((sortS ss).map PyData.str)) else none
      | none => none
  | _ => none
theorem cs_sort : Call1S K (fun xs H Q => rSortedI K xs H Q ∨ rSortedS K xs H Q) fSort := by
  rintro g F H σ ρ x a d z rfl ok ha h1 h3 Q q
  cases d with
  | list ds =>
    unfold fSort at h3
    simp only at h3
    cases q2 : intsD ds with
    | some ns =>
      refine .inl (cs_sortI (K := g.K) g F H σ ρ x a (.list ds) z rfl ok ha h1 ?_ Q q)
      rw [q2] at h3
      show ((intsD ds).map fun ns => PyData.list ((sortI ns).map PyData.int)) = some z
      rw [q2]; exact h3
    | none =>
      rw [q2] at h3
      simp only at h3
      cases q3 : strsD ds with
      | none => rw [q3] at h3; cases h3
      | some ss =>
        rw [q3] at h3
        simp only at h3
        split at h3
        · rename_i h64
          cases h3
          cases strsD_some q3
          obtain ⟨p, us, rfl, s1, d1⟩ := rdD_list ok ha h1
          rw [vals_strs_of d1] at s1
          refine .inr ⟨p, ss, rfl, s1, h64, fun ns' P hp hs hP => ?_⟩
          obtain ⟨ex, ok2⟩ := ok.newD (o := .lst (ns'.map V.str)) hP
          rw [sortS_eq hp (sortedS_pair _ hs)] at ex ok2 ⊢
          exact q _ _ _ ex ok2 (.lst (.inl (.inl upd_same)) (dps_strs _))
        · cases h3
  | none => cases h3
  | bool _ => cases h3
  | int _ => cases h3
  | str _ => cases h3
  | tuple _ => cases h3
  | dict _ => cases h3
end
/-! ### sorted(set(xs)) -/
section
variable {X : Cx} {EW : EWT} {pos : Pos}
/-- two calls of built-ins, one in the other -/
theorem qe_callBT {a : Expr} {ta : TE} {ma : M Vw} {id T : String} {x y : Str} {p p2 q : Pos} {r r2 : List V → Hp → VK → Prop} {f : D → Option D} (hc : CallR X (.builtin id) r) (hc2 : CallR X (.type T) r2)
    (hr : Call1S X.K (fun xs H Q => r2 xs H fun v H1 => r [v] H1 Q) f) (hg : Gl X x) (hm : X.mg x = none) (hv : bootBuiltins x = some (.builtin id)) (hg2 : Gl X y) (hm2 : X.mg y = none) (hv2 : bootBuiltins y = some (.type T)) (ha : QE X EW a ta ma)
    (hn : x ≠ "__name__" := by decide) (hdb : (x == ("__debug__" : Str)) = false := by decide) (hn2 : y ≠ "__name__" := by decide) (hdb2 : (y == ("__debug__" : Str)) = false := by decide) (he : starEach [a] X.env = (false, eval a X.env) :: starEach [] X.env := by rfl)
    (he2 : starEach [.Call (.Name y p2) [a] [] q] X.env = (false, eval (.Call (.Name y p2) [a] [] q) X.env) :: starEach [] X.env := by rfl) : QE X EW (.Call (.Name x p) [.Call (.Name y p2) [a] [] q] [] pos) (tCB r (tCons (tCB r2 (tCons ta tNil)) tNil)) (mOp1 f ma) := by
  refine ⟨pe_callB hc hg hm hv (pa_cons (pe_callTy hc2 hg2 hm2 hv2 (pa_cons ha.pe pa_nil he) hn2 hdb2 he rfl) pa_nil he2) hn hdb he2 rfl, fun g F H σ ρ hK ok => ?_⟩
  refine At.bind (k := fun x H1 Q => r2 [x] H1 fun v H1 => r [v] H1 Q) (ha.sm g F H σ ρ hK ok) fun F1 H1 ρ1 x a e1 ok1 hx => app1_at ok1 hx fun d z h1 h2 Q q => hr g F1 H1 σ ρ1 x a d z hK ok1 hx h1 h2 Q q
end
def SetXO (w : World) (a : Addr) (ks : List Key) : HO := .ext fun h => SetX w h a ks
section
variable {X : Cx}
theorem setXO_new {w : World} {P : Program} {H : Hp} {h : Heap} {a : Addr} {ks : List Key} (R : SetX w h a ks) : ObjOk P w H h a (SetXO w a ks) := by
  have ⟨o, _, _, _, ho, _⟩ := R
  exact ⟨R, ⟨o, ho⟩, fun h1 h2 p k => SetX.keep p k⟩
theorem keys_of_vals (P : Program) (w : World) : ∀ {ks : List Key} {us : List Value}, Vals (ks.map kV) us → Paired (fun k v => keyIs k v = true) ks us
  | [], _, .nil => .nil
  | k :: ks, _, .cons r t => .cons (kV_is (P := P) (w := w) r) (keys_of_vals P w t)
/-- set(xs), a list of fewer than 64 whole numbers and texts -/
def rSetX (K : PySem.W.Frag) (w : World) : List V → Hp → VK → Prop := fun xs H Q => ∃ (l : Addr) (ks : List Key), xs = [V.ref l] ∧ SqL K H l (ks.map kV) ∧ ks.length < 64 ∧
  ∀ a, H a = none → Q (.ref a) (upd H a (SetXO w a (ks.foldl addK [])))
theorem cr_setX (hc : X.calm = true) : CallR X (.type "set") (rSetX X.K X.w) := by
  intro pins s σ H xs us Q I r h
  obtain ⟨l, ks, rfl, hl, hf, q⟩ := h
  rw [Vals.ref1 r]
  obtain ⟨its, rv, pl, hz⟩ := I.list hl
  have hn : H s.heap.objs.size = none := I.hok.fresh (Nat.le_refl _)
  have sb : ks.length + 1 < scanBound := Nat.lt_trans (Nat.succ_lt_succ hf) (by decide)
  refine setOfListX ks (I.ok.hd hc) pl.isList (by simpa using keys_of_vals X.prog X.w rv) sb fun h' tk R k => ?_
  exact ⟨.ref s.heap.objs.size, upd H s.heap.objs.size (SetXO X.w s.heap.objs.size (ks.foldl addK [])), I.laid (t' := tk) k (Nat.le_refl _) (setXO_new R), rfl, q _ hn⟩
theorem map_perm {α β : Type} {f : α → β} {ns : List α} {ls : List β} (p : ls.Perm (ns.map f)) : ∃ ms : List α, ms.Perm ns ∧ ls = ms.map f := by
  have h0 : ∀ ns : List α, Paired (fun n k => k = f n) ns (ns.map f) := fun ns => by
    induction ns with
    | nil => exact .nil
    | cons n ns ih => exact .cons rfl ih
  obtain ⟨ms, h1, h2⟩ := paired_perm p.symm (h0 ns)
  refine ⟨ms, h1, ?_⟩
  clear h1 p
  induction h2 with
  | nil => rfl
  | cons r _ ih => rw [List.map_cons, ← r, ← ih]
theorem ints_keys : ∀ {ns : List Int} {vs : List Value}, Paired (fun k v => keyIs k v = true) (ns.map Sum.inl) vs → IntsAre vs ns
  | [], _, .nil => .nil
  | n :: ns, _, .cons r t => by
    rcases keyIs_shape r with ⟨i, t', e, rfl⟩ | ⟨x, t', e, rfl⟩
    · cases e
      exact .cons _ _ (ints_keys t)
    · cases e
theorem strs_keys : ∀ {ns : List Str} {vs : List Value}, Paired (fun k v => keyIs k v = true) (ns.map Sum.inr) vs → StrsAre vs ns
  | [], _, .nil => .nil
  | n :: ns, _, .cons r t => by
    rcases keyIs_shape r with ⟨i, t', e, rfl⟩ | ⟨x, t', e, rfl⟩
    · cases e
    · cases e
      exact .cons _ _ (strs_keys t)
theorem paired_snd {w : World} : ∀ {js : List Key} {es : List (Int × Value)}, Paired (KeyE w) js es → Paired (fun k v => keyIs k v = true) js (es.map (·.2))
  | _, _, .nil => .nil
  | _, _, .cons r t => .cons r.1 (paired_snd t)
section
variable {P : Program} {w : World} {A : Around} {E : Value → Shared → Prop} {s : Shared} {a : Addr}
theorem sortedXI {ns : List Int} {Q : Value → Shared → Prop} (R : SetX w s.heap a (ns.map Sum.inl)) (hh : A.handled = none) (h64 : ns.length < 64)
    (hQ : ∀ s' p (out : Array Value) (c : Nat) (ns' : List Int), (∀ b o, s.heap.get? b = some o → s'.heap.get? b = some o) → s'.gens = s.gens → s'.os = s.os → s.heap.objs.size ≤ p →
      s'.heap.get? p = some (seqObj "list" out c) → IntsAre out.toList ns' → ns'.Perm ns → ns'.Pairwise (· ≤ ·) → Q (.ref p) s') :
    wpAny (model P w) A (call (.builtin "sorted") [.ref a]) Q E s := by
  obtain ⟨o, es, ep, t, ho, hex, hd, ⟨js, pj, pm0⟩, nd, hb, hf, hr, hl⟩ := R
  refine Calls.call_function_entry kind_sorted plain_sorted entry_sorted (args_sorted1 _) ?_
  unfold Builtin.«sorted»
  refine wpAny_bind (m := checkCount "sorted" 1 1 _) (wpAny_pure ?_)
  refine wpAny_bind (collect_set (A := A.in1) hh ⟨o, ho, hex.1, hd⟩ hf hb hr hl fun s1 vs k1 hz g1 o1 pm => ?_)
  obtain ⟨ls, pl, pv⟩ := paired_perm pm.symm (paired_snd pj)
  obtain ⟨ms, pms, rfl⟩ := map_perm (pl.trans pm0)
  have hI : IntsAre vs ms := ints_keys pv
  have hvl : vs.length = ns.length := by
    have e := paired_len pv
    rw [List.length_map, pms.length_eq] at e
    exact e.symm
  refine wpAny_bind (wpAny_newList ?_ (by rw [hvl, sizeLine_eq]; omega))
  have hoL : (s1.heap.push (seqObj "list" vs.toArray 0)).get? s1.heap.objs.size = some (seqObj "list" vs.toArray 0) := Heap.get?_push_size _ rfl
  refine wpAny_bind (wpAny_holding (wpAny_call_entry slot_list_sort ⟨_, hoL, rfl⟩ entry_list_sort (list_sort_tree hoL hI (by rw [hvl]; exact h64) fun out ns' a1 a2 a3 => ⟨_, rfl, ?_⟩) (args_list_sort _)))
  obtain ⟨c, hc⟩ := sortedHeap_at (vs := vs) (out := out) hoL
  refine wpAny_pure ⟨_, rfl, hQ _ s1.heap.objs.size out c ns' (fun b u e => ?_) g1 o1 hz hc a1 (a2.trans pms) a3⟩
  have q := k1 b u e
  have hlt := Heap.lt_size q
  show (sortedHeap (s1.heap.push (seqObj "list" vs.toArray 0)) s1.heap.objs.size vs out).get? b = some u
  rw [sortedHeap_old (Nat.ne_of_lt hlt) (by rw [size_push']; exact Nat.lt_succ_of_lt hlt)]
  exact Heap.get?_push_of_some _ q
theorem sortedXS {ns : List Str} {Q : Value → Shared → Prop} (R : SetX w s.heap a (ns.map Sum.inr)) (hh : A.handled = none) (h64 : ns.length < 64)
    (hQ : ∀ s' p (out : Array Value) (c : Nat) (ns' : List Str), (∀ b o, s.heap.get? b = some o → s'.heap.get? b = some o) → s'.gens = s.gens → s'.os = s.os → s.heap.objs.size ≤ p →
      s'.heap.get? p = some (seqObj "list" out c) → StrsAre out.toList ns' → ns'.Perm ns → sortedS ns' = true → Q (.ref p) s') :
    wpAny (model P w) A (call (.builtin "sorted") [.ref a]) Q E s := by
  obtain ⟨o, es, ep, t, ho, hex, hd, ⟨js, pj, pm0⟩, nd, hb, hf, hr, hl⟩ := R
  refine Calls.call_function_entry kind_sorted plain_sorted entry_sorted (args_sorted1 _) ?_
  unfold Builtin.«sorted»
  refine wpAny_bind (m := checkCount "sorted" 1 1 _) (wpAny_pure ?_)
  refine wpAny_bind (collect_set (A := A.in1) hh ⟨o, ho, hex.1, hd⟩ hf hb hr hl fun s1 vs k1 hz g1 o1 pm => ?_)
  obtain ⟨ls, pl, pv⟩ := paired_perm pm.symm (paired_snd pj)
  obtain ⟨ms, pms, rfl⟩ := map_perm (pl.trans pm0)
  have hS : StrsAre vs ms := strs_keys pv
  have hvl : vs.length = ns.length := by
    have e := paired_len pv
    rw [List.length_map, pms.length_eq] at e
    exact e.symm
  refine wpAny_bind (wpAny_newList ?_ (by rw [hvl, sizeLine_eq]; omega))
  have hoL : (s1.heap.push (seqObj "list" vs.toArray 0)).get? s1.heap.objs.size = some (seqObj "list" vs.toArray 0) := Heap.get?_push_size _ rfl
  refine wpAny_bind (wpAny_holding (wpAny_call_entry slot_list_sort ⟨_, hoL, rfl⟩ entry_list_sort
    (list_sort_treeK strKind_oneLt hoL hS.keysOf (fun v₁ v₂ rest e => keyKind_strs (by rw [← e]; exact hS)) (by rw [hvl]; exact h64) fun st' hp hs => ⟨_, rfl, ?_⟩) (args_list_sort _)))
  obtain ⟨ys, g1', g2, g3⟩ := sorted_out_str hS hp hs
  obtain ⟨c, hc⟩ := sortedHeap_at (vs := vs) (out := (arrOf st').map (·.2)) hoL
  refine wpAny_pure ⟨_, rfl, hQ _ s1.heap.objs.size _ c ys (fun b u e => ?_) g1 o1 hz hc g1' (g2.trans pms) g3⟩
  have q := k1 b u e
  have hlt := Heap.lt_size q
  show (sortedHeap (s1.heap.push (seqObj "list" vs.toArray 0)) s1.heap.objs.size vs _).get? b = some u
  rw [sortedHeap_old (Nat.ne_of_lt hlt) (by rw [size_push']; exact Nat.lt_succ_of_lt hlt)]
  exact Heap.get?_push_of_some _ q
end
def rSortXI (w : World) : List V → Hp → VK → Prop := fun vs H Q => ∃ (a : Addr) (ns : List Int), vs = [V.ref a] ∧ H a = some (SetXO w a (ns.map Sum.inl)) ∧ ns.length < 64 ∧
  ∀ (ns' : List Int) (p : Addr), ns'.Perm ns → ns'.Pairwise (· ≤ ·) → H p = none → Q (.ref p) (upd H p (.lst (ns'.map V.int)))
def rSortXS (w : World) : List V → Hp → VK → Prop := fun vs H Q => ∃ (a : Addr) (ns : List Str), vs = [V.ref a] ∧ H a = some (SetXO w a (ns.map Sum.inr)) ∧ ns.length < 64 ∧
  ∀ (ns' : List Str) (p : Addr), ns'.Perm ns → sortedS ns' = true → H p = none → Q (.ref p) (upd H p (.lst (ns'.map V.str)))
theorem cr_sortXI (hc : X.calm = true) : CallR X (.builtin "sorted") (rSortXI X.w) := by
  intro pins s σ H vs us Q I r h
  obtain ⟨a, ns, rfl, ha, h64, q⟩ := h
  have R : SetX X.w s.heap a (ns.map Sum.inl) := (I.hok a _ ha).1
  rw [Vals.ref1 r]
  refine sortedXI R (I.ok.hd hc) h64 fun s' p out c ns' k g o hp hg hi pm hs => ?_
  have hlen : (ns'.map V.int).length ≤ sizeLine := by rw [List.length_map, pm.length_eq, sizeLine_eq]; omega
  have hn : H p = none := I.hok.fresh hp
  have J : Inv X pins σ (upd H p (.lst (ns'.map V.int))) { s with heap := s'.heap, gens := s'.gens, drawn := s'.drawn, toks := s'.toks } :=
    I.call (ch := []) (Un.laid k hp hn) (I.hok.laid k hp ⟨hlen, out.toList, c, vals_of_ints hi, hg⟩) (by rw [g]; exact I.bare) (fun _ z => nomatch z)
  have e : s' = { s with heap := s'.heap, gens := s'.gens, drawn := s'.drawn, toks := s'.toks } := by
    cases s'
    cases s
    cases o
    rfl
  rw [e]
  exact ⟨.ref p, _, J, rfl, q ns' p pm hs hn⟩
theorem cr_sortXS (hc : X.calm = true) : CallR X (.builtin "sorted") (rSortXS X.w) := by
  intro pins s σ H vs us Q I r h
  obtain ⟨a, ns, rfl, ha, h64, q⟩ := h
  have R : SetX X.w s.heap a (ns.map Sum.inr) := (I.hok a _ ha).1
  rw [Vals.ref1 r]
  refine sortedXS R (I.ok.hd hc) h64 fun s' p out c ns' k g o hp hg hi pm hs => ?_
  have hlen : (ns'.map V.str).length ≤ sizeLine := by rw [List.length_map, pm.length_eq, sizeLine_eq]; omega
  have hn : H p = none := I.hok.fresh hp
  have J : Inv X pins σ (upd H p (.lst (ns'.map V.str))) { s with heap := s'.heap, gens := s'.gens, drawn := s'.drawn, toks := s'.toks } :=
    I.call (ch := []) (Un.laid k hp hn) (I.hok.laid k hp ⟨hlen, out.toList, c, vals_of_strs hi, hg⟩) (by rw [g]; exact I.bare) (fun _ z => nomatch z)
  have e : s' = { s with heap := s'.heap, gens := s'.gens, drawn := s'.drawn, toks := s'.toks } := by
    cases s'
    cases s
    cases o
    rfl
  rw [e]
  exact ⟨.ref p, _, J, rfl, q ns' p pm hs hn⟩
end
/-- each once, in the first place's order -/
def addG {α : Type} [DecidableEq α] (ks : List α) (k : α) : List α := if (ks.any fun j => decide (j = k)) = true then ks else ks ++ [k]
def dedup {α : Type} [DecidableEq α] (ks : List α) : List α := ks.foldl addG []
theorem addG_mem {α : Type} [DecidableEq α] (ks : List α) (k x : α) : x ∈ addG ks k ↔ x ∈ ks ∨ x = k := by
  unfold addG
  split
  · rename_i h
    obtain ⟨j, h1, h2⟩ := List.any_eq_true.mp h
    have h2 := of_decide_eq_true h2
    subst h2
    exact ⟨.inl, fun h => h.elim id fun e => e ▸ h1⟩
  · rw [List.mem_append, List.mem_singleton]
theorem addG_nodup {α : Type} [DecidableEq α] {ks : List α} (k : α) (h : ks.Nodup) : (addG ks k).Nodup := by
  unfold addG
  split
  · exact h
  · rename_i hn
    refine (List.perm_append_singleton k ks).nodup_iff.mpr (List.nodup_cons.mpr ⟨fun z => hn ?_, h⟩)
    exact List.any_eq_true.mpr ⟨k, z, decide_eq_true rfl⟩
theorem foldG_mem {α : Type} [DecidableEq α] : ∀ (ls ks : List α) (x : α), x ∈ ls.foldl addG ks ↔ x ∈ ks ∨ x ∈ ls
  | [], ks, x => by simp
  | l :: ls, ks, x => by
    rw [List.foldl_cons, foldG_mem ls, addG_mem, List.mem_cons]
    exact or_assoc
theorem foldG_nodup {α : Type} [DecidableEq α] : ∀ (ls ks : List α), ks.Nodup → (ls.foldl addG ks).Nodup
  | [], _, h => h
  | l :: ls, ks, h => foldG_nodup ls _ (addG_nodup l h)
theorem foldG_len {α : Type} [DecidableEq α] : ∀ (ls ks : List α), (ls.foldl addG ks).length ≤ ks.length + ls.length
  | [], ks => by simp
  | l :: ls, ks => by
    have h1 := foldG_len ls (addG ks l)
    have h2 : (addG ks l).length ≤ ks.length + 1 := by
      unfold addG
      split
      · omega
      · simp
    rw [List.foldl_cons, List.length_cons]
    omega
theorem dedup_mem {α : Type} [DecidableEq α] (ls : List α) (x : α) : x ∈ dedup ls ↔ x ∈ ls := by
  unfold dedup
  rw [foldG_mem]
  simp
theorem dedup_nodup {α : Type} [DecidableEq α] (ls : List α) : (dedup ls).Nodup := foldG_nodup ls [] .nil
theorem dedup_len {α : Type} [DecidableEq α] (ls : List α) : (dedup ls).length ≤ ls.length := by
  have := foldG_len ls ([] : List α)
  unfold dedup
  simpa using this
theorem addK_map {α : Type} [DecidableEq α] {f : α → Key} (inj : ∀ a b, f a = f b → a = b) (ks : List α) (k : α) : addK (ks.map f) (f k) = (addG ks k).map f := by
  unfold addK addG
  have e : ((ks.map f).any fun j => decide (j = f k)) = (ks.any fun j => decide (j = k)) := by
    rw [List.any_map]
    congr 1
    funext j
    show decide (f j = f k) = decide (j = k)
    rw [decide_eq_decide]
    exact ⟨inj j k, fun h => by rw [h]⟩
  rw [e]
  split
  · rfl
  · rw [List.map_append]; rfl
theorem foldK_map {α : Type} [DecidableEq α] {f : α → Key} (inj : ∀ a b, f a = f b → a = b) : ∀ (ls ks : List α), (ls.map f).foldl addK (ks.map f) = (ls.foldl addG ks).map f
  | [], ks => rfl
  | l :: ls, ks => by rw [List.map_cons, List.foldl_cons, List.foldl_cons, addK_map inj, foldK_map inj ls]
/-- sorted(set(xs)) of fewer than 64 whole numbers, or as few texts -/
def fSortSet : D → Option D
  | .list ds => match intsD ds with
    | some ns => if ns.length < 64 then some (.list ((sortI (dedup ns)).map PyData.int)) else none
    | none => match strsD ds with
      | some ss => if ss.length < 64 then some (.list ((sortS (dedup ss)).map PyData.str)) else none
      | none => none
  | _ => none
theorem cs_sortSet {K : PySem.W.Frag} {w : World} : Call1S K (fun xs H Q => rSetX K w xs H fun v H1 => rSortXI w [v] H1 Q ∨ rSortXS w [v] H1 Q) fSortSet := by
  rintro g F H σ ρ x a d z rfl ok ha h1 h3 Q q
  cases d with
  | list ds =>
    unfold fSortSet at h3
    simp only at h3
    obtain ⟨p, us, rfl, s1, d1⟩ := rdD_list ok ha h1
    cases q2 : intsD ds with
    | some ns =>
      rw [q2] at h3
      simp only at h3
      split at h3
      · rename_i h64
        cases h3
        cases intsD_some q2
        rw [vals_ints_of d1] at s1
        refine ⟨p, ns.map Sum.inl, rfl, by rw [List.map_map]; exact s1, by rw [List.length_map]; exact h64, fun b hb => ?_⟩
        have e := foldK_map (f := (Sum.inl : Int → Key)) (fun a b h => Sum.inl.inj h) ns []
        rw [List.map_nil] at e
        rw [e]
        refine .inl ⟨b, ns.foldl addG [], rfl, upd_same, Nat.lt_of_le_of_lt (dedup_len ns) h64, fun ns' P hp hs hP => ?_⟩
        have ok1 := ok.newH (o := SetXO w b ((ns.foldl addG []).map Sum.inl)) hb
        obtain ⟨ex, ok2⟩ := ok1.newD (o := .lst (ns'.map V.int)) hP
        rw [sortI_eq hp hs] at ex ok2 ⊢
        exact q _ _ _ ex ok2 (.lst (.inl (.inl upd_same)) (dps_ints _))
      · cases h3
    | none =>
      rw [q2] at h3
      simp only at h3
      cases q3 : strsD ds with
      | none => rw [q3] at h3; cases h3
      | some ss =>
        rw [q3] at h3
        simp only at h3
        split at h3
        · rename_i h64
          cases h3
          cases strsD_some q3
          rw [vals_strs_of d1] at s1
          refine ⟨p, ss.map Sum.inr, rfl, by rw [List.map_map]; exact s1, by rw [List.length_map]; exact h64, fun b hb => ?_⟩
          have e := foldK_map (f := (Sum.inr : Str → Key)) (fun a b h => Sum.inr.inj h) ss []
          rw [List.map_nil] at e
          rw [e]
          refine .inr ⟨b, ss.foldl addG [], rfl, upd_same, Nat.lt_of_le_of_lt (dedup_len ss) h64, fun ns' P hp hs hP => ?_⟩
          have ok1 := ok.newH (o := SetXO w b ((ss.foldl addG []).map Sum.inr)) hb
          obtain ⟨ex, ok2⟩ := ok1.newD (o := .lst (ns'.map V.str)) hP
          rw [sortS_eq hp (sortedS_pair _ hs)] at ex ok2 ⊢
          exact q _ _ _ ex ok2 (.lst (.inl (.inl upd_same)) (dps_strs _))
        · cases h3
  | none => cases h3
  | bool _ => cases h3
  | int _ => cases h3
  | str _ => cases h3
  | tuple _ => cases h3
  | dict _ => cases h3
/-! ### sorted(set(xs)) of pairs of small whole numbers -/
def lexP (p q : Int × Int) : Bool := decide (p.1 < q.1) || (decide (p.1 = q.1) && decide (p.2 ≤ q.2))
theorem lexP_iff {p q : Int × Int} : lexP p q = true ↔ p.1 < q.1 ∨ (p.1 = q.1 ∧ p.2 ≤ q.2) := by simp [lexP]
theorem lexP_anti (a b : Int × Int) (h : lexP a b = true) (k : lexP b a = true) : a = b := by
  rw [lexP_iff] at h k
  obtain ⟨a1, a2⟩ := a
  obtain ⟨b1, b2⟩ := b
  simp only at h k
  have e1 : a1 = b1 := by omega
  have e2 : a2 = b2 := by omega
  rw [e1, e2]
def insP (n : Int × Int) : List (Int × Int) → List (Int × Int)
  | [] => [n]
  | m :: r => if lexP n m = true then n :: m :: r else m :: insP n r
def sortP : List (Int × Int) → List (Int × Int)
  | [] => []
  | n :: r => insP n (sortP r)
theorem insP_perm (n : Int × Int) : ∀ r, (insP n r).Perm (n :: r)
  | [] => .refl _
  | m :: r => by
    unfold insP
    split
    · exact .refl _
    · exact ((insP_perm n r).cons m).trans (.swap n m r)
theorem sortP_perm : ∀ r, (sortP r).Perm r
  | [] => .refl _
  | n :: r => (insP_perm n _).trans ((sortP_perm r).cons n)
theorem insP_le (n : Int × Int) : ∀ r : List (Int × Int), r.Pairwise (fun a b => lexP a b = true) → (insP n r).Pairwise (fun a b => lexP a b = true)
  | [], _ => by unfold insP; exact List.pairwise_singleton _ _
  | m :: r, h => by
    have h' := List.pairwise_cons.mp h
    unfold insP
    split
    · rename_i hn
      refine List.pairwise_cons.mpr ⟨fun y hy => ?_, h⟩
      rcases List.mem_cons.mp hy with rfl | hy
      · exact hn
      · have h2 := h'.1 y hy
        rw [lexP_iff] at *
        omega
    · rename_i hn
      refine List.pairwise_cons.mpr ⟨fun y hy => ?_, insP_le n r h'.2⟩
      rcases List.mem_cons.mp ((insP_perm n r).mem_iff.mp hy) with rfl | hy
      · rw [lexP_iff] at *
        omega
      · exact h'.1 y hy
theorem sortP_le : ∀ r, (sortP r).Pairwise (fun a b => lexP a b = true)
  | [] => List.Pairwise.nil
  | n :: r => insP_le n _ (sortP_le r)
theorem sortP_eq {ns ms : List (Int × Int)} (p : ns.Perm ms) (h : ns.Pairwise (fun a b => lexP a b = true)) : ns = sortP ms :=
  perm_le_eq (le := fun a b => lexP a b = true) lexP_anti (p.trans (sortP_perm ms).symm) h (sortP_le ms)
def pairD (p : Int × Int) : D := .tuple [.int p.1, .int p.2]
def pairsD : List D → Option (List (Int × Int))
  | [] => some []
  | .tuple [.int i, .int j] :: r => (pairsD r).map ((i, j) :: ·)
  | _ :: _ => none
theorem pairsD_some {ds : List D} : ∀ {ns : List (Int × Int)}, pairsD ds = some ns → ds = ns.map pairD := by
  induction ds with
  | nil => intro ns h; cases h; rfl
  | cons d r ih =>
    intro ns h
    unfold pairsD at h
    split at h
    · rename_i e; cases e
    · rename_i i j r' e
      cases e
      cases q : pairsD r with
      | none => rw [q] at h; cases h
      | some ms =>
        rw [q] at h
        cases h
        rw [ih q]; rfl
    · cases h
theorem pairsD_map : ∀ ns : List (Int × Int), pairsD (ns.map pairD) = some ns
  | [] => rfl
  | n :: ns => by
    show (pairsD (ns.map pairD)).map ((n.1, n.2) :: ·) = some (n :: ns)
    rw [pairsD_map ns]; rfl
def okP (p : Int × Int) : Bool := decide (0 ≤ p.1) && decide (p.1 < 64) && decide (0 ≤ p.2) && decide (p.2 < 64)
def fSortSetP : D → Option D
  | .list ds => match pairsD ds with
    | some ns => if (decide (ns.length < 64) && ns.all okP) = true then some (.list ((sortP (dedup ns)).map pairD)) else none
    | none => none
  | _ => none
theorem pairs_of {K : PySem.W.Frag} {F : Hp} : ∀ {ns : List (Int × Int)} {vs : List V}, DpAll K F vs (ns.map pairD) → ∃ ks : List (Addr × List Int), vs = ks.map (fun p => V.ref p.1) ∧ ks.map (·.2) = ns.map (fun p => [p.1, p.2]) ∧ ∀ p ∈ ks, SqT K F p.1 (p.2.map V.int)
  | [], _, h => by cases h; exact ⟨[], rfl, rfl, fun p h => nomatch h⟩
  | n :: ns, _, h => by
    cases h with
    | cons h1 h2 =>
      obtain ⟨ks, e1, e2, e3⟩ := pairs_of h2
      cases h1 with
      | tup hs hd =>
        rename_i b vs
        have e0 : vs = [V.int n.1, V.int n.2] := vals_ints_of (ns := [n.1, n.2]) hd
        subst e0
        refine ⟨(b, [n.1, n.2]) :: ks, by rw [e1]; rfl, by rw [List.map_cons, e2]; rfl, fun p hp => ?_⟩
        rcases List.mem_cons.mp hp with rfl | hp
        · exact hs
        · exact e3 p hp
theorem pairs_to {K : PySem.W.Frag} {F : Hp} : ∀ {ks : List (Addr × List Int)} {ns : List (Int × Int)}, ks.map (·.2) = ns.map (fun p => [p.1, p.2]) → (∀ p ∈ ks, SqT K F p.1 (p.2.map V.int)) → DpAll K F (ks.map fun p => V.ref p.1) (ns.map pairD)
  | [], [], _, _ => .nil
  | [], _ :: _, h, _ => by cases h
  | _ :: _, [], h, _ => by cases h
  | k :: ks, n :: ns, h, f => by
    rw [List.map_cons, List.map_cons] at h
    injection h with h1 h2
    refine .cons (.tup ?_ (dps_ints [n.1, n.2])) (pairs_to h2 fun p hp => f p (List.mem_cons_of_mem _ hp))
    have := f k List.mem_cons_self
    rw [h1] at this
    exact this
theorem two_inj {p q : Int × Int} (h : [p.1, p.2] = [q.1, q.2]) : p = q := by
  injection h with h1 h2
  injection h2 with h3 _
  exact Prod.ext h1 h3
theorem nodup_map_inj {α β : Type} {f : α → β} : ∀ {l : List α}, (l.map f).Nodup → l.Nodup
  | [], _ => .nil
  | x :: l, h => by
    rw [List.map_cons, List.nodup_cons] at h
    exact List.nodup_cons.mpr ⟨fun z => h.1 (List.mem_map_of_mem z), nodup_map_inj h.2⟩
theorem map_of_mem {α β : Type} {f : α → β} : ∀ {l : List β}, (∀ y ∈ l, ∃ x, y = f x) → ∃ xs : List α, l = xs.map f
  | [], _ => ⟨[], rfl⟩
  | y :: l, h => by
    obtain ⟨x, rfl⟩ := h y List.mem_cons_self
    obtain ⟨xs, e⟩ := map_of_mem fun z hz => h z (List.mem_cons_of_mem _ hz)
    exact ⟨x :: xs, by rw [e]; rfl⟩
theorem cs_sortSetP {K : PySem.W.Frag} {P : Program} {w : World} : Call1S K (fun xs H Q => rSetOfT K P w xs H fun v H1 => rSortedT K P w [v] H1 Q) fSortSetP := by
  rintro g F H σ ρ x a d z rfl ok ha h1 h3 Q q
  cases d with
  | list ds =>
    unfold fSortSetP at h3
    simp only at h3
    obtain ⟨l, us, rfl, s1, d1⟩ := rdD_list ok ha h1
    cases q2 : pairsD ds with
    | some ns =>
      rw [q2] at h3
      simp only at h3
      split at h3
      · rename_i hc
        rw [Bool.and_eq_true] at hc
        have h64 := of_decide_eq_true hc.1
        have hok := List.all_eq_true.mp hc.2
        cases h3
        cases pairsD_some q2
        obtain ⟨ks, e1, e2, e3⟩ := pairs_of d1
        subst e1
        have hkl : ks.length = ns.length := by
          have e := congrArg List.length e2
          rwa [List.length_map, List.length_map] at e
        have hsh : ∀ p ∈ ks, ∃ n ∈ ns, p.2 = [n.1, n.2] := fun p hp => by
          have m : p.2 ∈ ns.map (fun p => [p.1, p.2]) := by rw [← e2]; exact List.mem_map_of_mem hp
          obtain ⟨n, hn, e⟩ := List.mem_map.mp m
          exact ⟨n, hn, e.symm⟩
        have hH : ∀ p ∈ ks, SqT g.K H p.1 (p.2.map V.int) := fun p hp => sqtE ok.ff (e3 p hp)
        refine ⟨l, ks, rfl, s1, hH, by omega, fun b L hb hL1 hL2 => ?_⟩
        have ok1 := ok.newH (o := SetTO P w b L) hb
        refine ⟨b, L, 2, 64, rfl, upd_same, fun p hp => sqtE (Ex.new hb) (hH p (hL1 p hp)), by omega, fun p hp => ?_, fun L' p pm nd lt pw hP => ?_⟩
        · obtain ⟨n, hn, e⟩ := hsh p (hL1 p hp)
          have o := hok n hn
          unfold okP at o
          simp only [Bool.and_eq_true, decide_eq_true_eq] at o
          rw [e]
          refine ⟨rfl, fun m hm => ?_⟩
          rcases List.mem_cons.mp hm with rfl | hm
          · omega
          · rw [List.mem_singleton] at hm
            subst hm
            omega
        · have hL' : ∀ p ∈ L', p ∈ ks := fun p hp => hL1 p (pm.mem_iff.mp hp)
          obtain ⟨xs, ex⟩ := map_of_mem (f := fun p : Int × Int => [p.1, p.2]) (l := L'.map (·.2)) fun y hy => by
            obtain ⟨p, hp, rfl⟩ := List.mem_map.mp hy
            obtain ⟨n, _, e⟩ := hsh p (hL' p hp)
            exact ⟨n, e⟩
          have hmem : ∀ n, n ∈ xs ↔ n ∈ dedup ns := fun n => by
            rw [dedup_mem]
            constructor
            · intro hn
              have m : [n.1, n.2] ∈ L'.map (·.2) := by rw [ex]; exact List.mem_map_of_mem (f := fun p : Int × Int => [p.1, p.2]) hn
              obtain ⟨p, hp, e⟩ := List.mem_map.mp m
              obtain ⟨n', hn', e'⟩ := hsh p (hL' p hp)
              have := two_inj (e.symm.trans e')
              rw [this]; exact hn'
            · intro hn
              have m : [n.1, n.2] ∈ ks.map (·.2) := by rw [e2]; exact List.mem_map_of_mem (f := fun p : Int × Int => [p.1, p.2]) hn
              obtain ⟨p, hp, e⟩ := List.mem_map.mp m
              have m2 : p.2 ∈ L'.map (·.2) := ((pm.map (·.2)).mem_iff).mpr (hL2 p hp)
              rw [ex] at m2
              obtain ⟨n', hn', e'⟩ := List.mem_map.mp m2
              have : n' = n := two_inj (e'.trans e)
              rw [← this]; exact hn'
          have ndx : xs.Nodup := nodup_map_inj (f := fun p : Int × Int => [p.1, p.2]) (by rw [← ex]; exact nd)
          have pmx : xs.Perm (dedup ns) := (List.perm_ext_iff_of_nodup ndx (dedup_nodup ns)).mpr hmem
          have pwx : xs.Pairwise (fun a b => lexP a b = true) := by
            have h0 : (L'.map (·.2)).Pairwise fun q r => TS.code 64 q ≤ TS.code 64 r := List.pairwise_map.mpr pw
            rw [ex] at h0
            have h0 := List.pairwise_map.mp h0
            have bd : ∀ n ∈ xs, TS.Bd 64 [n.1, n.2] := fun n hn => by
              have o := hok n ((dedup_mem ns n).mp ((hmem n).mp hn))
              unfold okP at o
              simp only [Bool.and_eq_true, decide_eq_true_eq] at o
              intro m hm
              rcases List.mem_cons.mp hm with rfl | hm
              · omega
              · rw [List.mem_singleton] at hm
                subst hm
                omega
            exact h0.imp_of_mem fun {a b} ha hb h => lexP_iff.mpr (code_lex (bd a ha) (bd b hb) h)
          have exs := sortP_eq pmx pwx
          obtain ⟨ex1, ok2⟩ := ok1.newD (o := .lst (L'.map fun q => V.ref q.1)) hP
          refine q _ _ _ ex1 ok2 (.lst (.inl (.inl upd_same)) ?_)
          rw [← exs]
          exact pairs_to ex fun p hp => sqtE ex1 (e3 p (hL' p hp))
      · cases h3
    | none => rw [q2] at h3; cases h3
  | none => cases h3
  | bool _ => cases h3
  | int _ => cases h3
  | str _ => cases h3
  | tuple _ => cases h3
  | dict _ => cases h3
end Dat
namespace Dat
open PySem L2 PyProof.Rows PySem.Spec
section
variable {X : Cx} {EW : EWT} {K : PySem.W.Frag} {pos : Pos}
/-! ### + of whole numbers, texts, tuples, lists -/
theorem Op2S.or {r r' : R2} {f f' g : D → D → Option D} (h : Op2S K r f) (h' : Op2S K r' f') (hg : ∀ d e z, g d e = some z → f d e = some z ∨ f' d e = some z) : Op2S K (fun x y H Q => r x y H Q ∨ r' x y H Q) g := by
  intro G F H σ ρ x y a b d e z hK ok ha hb h1 h2 h3 Q q
  rcases hg d e z h3 with h4 | h4
  · exact .inl (h G F H σ ρ x y a b d e z hK ok ha hb h1 h2 h4 Q q)
  · exact .inr (h' G F H σ ρ x y a b d e z hK ok ha hb h1 h2 h4 Q q)
def fP1 : D → D → Option D := fun d e => match fAdd d e with
  | some z => some z
  | none => fAddS d e
def fP2 : D → D → Option D := fun d e => match fP1 d e with
  | some z => some z
  | none => fAddT d e
def fPlus : D → D → Option D := fun d e => match fP2 d e with
  | some z => some z
  | none => fAddL d e
theorem two_or {f f' : D → D → Option D} {d e z : D} (h : (match f d e with | some z => some z | none => f' d e) = some z) : f d e = some z ∨ f' d e = some z := by
  cases q : f d e with
  | none => rw [q] at h; exact .inr h
  | some u => rw [q] at h; exact .inl h
abbrev rPlus (K : PySem.W.Frag) : R2 := fun x y H Q => ((rI0 (fun i j => .int (i + j)) x y H Q ∨ (∃ i j, x = .str i ∧ y = .str j ∧ i.length + j.length ≤ sizeLine ∧ Q (.str (i ++ j)) H)) ∨ rCatA K x y H Q) ∨ rCatL K x y H Q
theorem op_plus : OpR X (binaryOp .Add) (rPlus X.K) := ((op_add.or op_add_str).or op_catA).or op_catL
theorem os_plus : Op2S K (rPlus K) fPlus :=
  Op2S.or (Op2S.or (Op2S.or os_add os_addS (g := fP1) fun d e z h => two_or h) os_addT (g := fP2) fun d e z h => two_or h) os_addL fun d e z h => two_or h
/-! ### in: a list of data, a tuple of flat data -/
def flatD : D → Bool
  | .none => true
  | .bool _ => true
  | .int _ => true
  | .str _ => true
  | _ => false
theorem flat_ok {F : Hp} {x : V} {d : D} (h : Dp K F x d) (f : flatD d = true) : flatV x = true ∧ ∀ y e, Dp K F y e → flatD e = true → eqV y x = PyData.eqv e d := by
  cases d with
  | none =>
    cases h
    refine ⟨rfl, fun y e hy fe => ?_⟩
    cases e <;> first | (cases hy; rfl) | cases fe
  | bool b =>
    cases h
    refine ⟨rfl, fun y e hy fe => ?_⟩
    cases e <;> first | (cases hy; rfl) | cases fe
  | int b =>
    cases h
    refine ⟨rfl, fun y e hy fe => ?_⟩
    cases e <;> first | (cases hy; rfl) | cases fe
  | str b =>
    cases h
    refine ⟨rfl, fun y e hy fe => ?_⟩
    cases e <;> first | (cases hy; rfl) | cases fe
  | list _ => cases f
  | tuple _ => cases f
  | dict _ => cases f
theorem flats_ok {F : Hp} {x : V} {d : D} (h : Dp K F x d) (f : flatD d = true) : ∀ {vs : List V} {ds : List D}, DpAll K F vs ds → ds.all flatD = true → vs.all flatV = true ∧ inV x vs = ds.any fun z => PyData.eqv z d
  | _, _, .nil, _ => ⟨rfl, rfl⟩
  | v :: vs, e :: ds, .cons hv ht, fa => by
    rw [List.all_cons, Bool.and_eq_true] at fa
    obtain ⟨i1, i2⟩ := flats_ok h f ht fa.2
    refine ⟨by rw [List.all_cons, (flat_ok hv fa.1).1, i1]; rfl, ?_⟩
    unfold inV at i2 ⊢
    rw [List.any_cons, List.any_cons, i2, (flat_ok h f).2 v e hv fa.1]
def fInT : D → D → Option D := fun d e => match e with
  | .tuple ds => if flatD d = true ∧ ds.all flatD = true then some (.bool (ds.any fun z => PyData.eqv z d)) else none
  | _ => none
def fNotInT : D → D → Option D := fun d e => match e with
  | .tuple ds => if flatD d = true ∧ ds.all flatD = true then some (.bool (!ds.any fun z => PyData.eqv z d)) else none
  | _ => none
theorem os_inT : Op2S K (rIn K false) fInT := Op2S.flat fun H x y d e z hx hy hz => by
  cases e with
  | tuple ds =>
    have hz : (if flatD d = true ∧ ds.all flatD = true then some (PyData.bool (ds.any fun z => PyData.eqv z d)) else none) = some z := hz
    split at hz
    · rename_i c
      cases hz
      cases hy with
      | tup hs hd =>
        obtain ⟨i1, i2⟩ := flats_ok hx c.1 hd c.2
        exact ⟨_, fun _ => .bl _, fun Q q => ⟨_, _, rfl, .inr hs, (flat_ok hx c.1).1, i1, by rw [if_neg (by decide), i2]; exact q⟩⟩
    · cases hz
  | none => cases hz
  | bool _ => cases hz
  | int _ => cases hz
  | str _ => cases hz
  | list _ => cases hz
  | dict _ => cases hz
theorem os_notInT : Op2S K (rIn K true) fNotInT := Op2S.flat fun H x y d e z hx hy hz => by
  cases e with
  | tuple ds =>
    have hz : (if flatD d = true ∧ ds.all flatD = true then some (PyData.bool (!ds.any fun z => PyData.eqv z d)) else none) = some z := hz
    split at hz
    · rename_i c
      cases hz
      cases hy with
      | tup hs hd =>
        obtain ⟨i1, i2⟩ := flats_ok hx c.1 hd c.2
        exact ⟨_, fun _ => .bl _, fun Q q => ⟨_, _, rfl, .inr hs, (flat_ok hx c.1).1, i1, by rw [if_pos rfl, i2]; exact q⟩⟩
    · cases hz
  | none => cases hz
  | bool _ => cases hz
  | int _ => cases hz
  | str _ => cases hz
  | list _ => cases hz
  | dict _ => cases hz
def fInS : D → D → Option D := fun d e => match fIn d e with
  | some z => some z
  | none => fInT d e
def fNotInS : D → D → Option D := fun d e => match fNotIn d e with
  | some z => some z
  | none => fNotInT d e
abbrev rInS (K : PySem.W.Frag) : R2 := fun x y H Q => rInD K x y H Q ∨ rIn K false x y H Q
abbrev rNotInS (K : PySem.W.Frag) : R2 := fun x y H Q => rNotInD K x y H Q ∨ rIn K true x y H Q
theorem op_inS' (hu : X.A.units + 65 < cLine) : OpR X (compareOp .In) (rInS X.K) := (op_inD hu).or op_in_seq
theorem op_notInS' (hu : X.A.units + 65 < cLine) : OpR X (compareOp .NotIn) (rNotInS X.K) := (op_notInD hu).or op_notIn_seq
theorem os_inS : Op2S K (rInS K) fInS := Op2S.or os_in os_inT fun d e z h => two_or h
theorem os_notInS : Op2S K (rNotInS K) fNotInS := Op2S.or os_notIn os_notInT fun d e z h => two_or h
/-! ### one value -/
def fNeg : D → Option D
  | .int i => some (.int (-i))
  | _ => none
theorem us_neg : Op1S K (rU fun i => .int (-i)) fNeg := by
  rintro g F H σ ρ x a d z rfl ok ha h1 h3 Q q
  cases d with
  | int i =>
    cases h3
    cases rdD_ok ok ha h1
    exact ⟨i, rfl, q _ F H (Ex.refl F) ok (.int _)⟩
  | none => cases h3
  | bool _ => cases h3
  | str _ => cases h3
  | list _ => cases h3
  | tuple _ => cases h3
  | dict _ => cases h3
end
/-! ### what a caller needs of a def -/
def CalD (P : Program) (w : World) (K : PySem.W.Frag) (mg : Str → Option Value) (base : Heap) (k : Nat) (x : Str) (ps : List Str) (sp : Sp) : Prop :=
  ∃ f fd, FnOk P w K mg base CX0 k f fd ps sp ∧ mg x = some (.ref f) ∧ PySem.W.keepIn K (.ref f) = true ∧ Binds K fd ps []
/-- the def stands in the frame -/
structure Def1 (K : PySem.W.Frag) (mg : Str → Option Value) (x : Str) (st : Stmt) (ps : List Str) (f : Addr) (fd : FuncData) : Prop where
  fn : Fun K x x st f fd
  mgf : mg x = some (.ref f)
  kp : PySem.W.keepIn K (.ref f) = true
  bd : Binds K fd ps []
section
variable {X : Cx} {EW : EWT} {pos : Pos}
theorem qe_callD {k : Nat} {ps : List Str} {fm : List D → Option D} {x : Str} {p : Pos} {e : Expr} {es : List Expr} {ta : TA} {ma : M (List Vw)} (C : CalD X.prog X.w X.K X.mg X.base k x ps (spP X.K fm)) (hr : Room k X.A)
    (ha : QA X EW (e :: es) ta ma) (hg : Gl X x := by rfl) (hdb : (x == ("__debug__" : Str)) = false := by decide) (he : starEach (e :: es) X.env = (false, eval e X.env) :: starEach es X.env := by rfl) (hpl : (backTo pos (starEach es X.env)).any (·.1) = false := by rfl) :
    QE X EW (.Call (.Name x p) (e :: es) [] pos) (tCall (spP X.K fm) [] E0 ta) (mCall fm ma) := by
  obtain ⟨f, fd, h1, h2, h3, h4⟩ := C
  exact qe_call h1 hr h2 h3 h4 ha hg hdb he hpl
theorem qe_callBD {k : Nat} {ps : List Str} {fm : O → List D → Option (D × O)} {x : Str} {p : Pos} {e : Expr} {es : List Expr} {ta : TA} {ma : M (List Vw)} (C : CalD X.prog X.w X.K X.mg X.base k x ps (spB X.K fm)) (hr : Room k X.A)
    (ha : QA X EW (e :: es) ta ma) (hg : Gl X x := by rfl) (hdb : (x == ("__debug__" : Str)) = false := by decide) (he : starEach (e :: es) X.env = (false, eval e X.env) :: starEach es X.env := by rfl) (hpl : (backTo pos (starEach es X.env)).any (·.1) = false := by rfl) :
    QE X EW (.Call (.Name x p) (e :: es) [] pos) (tCall (spB X.K fm) [] E0 ta) (mCallB fm ma) := by
  obtain ⟨f, fd, h1, h2, h3, h4⟩ := C
  exact qe_callB h1 hr h2 h3 h4 ha hg hdb he hpl
end
section
variable {P : Program} {w : World} {K : PySem.W.Frag} {mg : Str → Option Value} {base : Heap}
theorem calP {x : Str} {st : Stmt} {f : Addr} {fd : FuncData} {N ps : List Str} {k : Nat} {ms : MS} (F : Def1 K mg x st ps f fd) (S : FnScope N ps (defScope st)) (hN : ps.length ≤ N.length)
    (hbody : ∀ (cdv : Value) (A : Around) (outer : List Env) (s : Shared) (H : Hp) (E : XK), Room k (A.deeper (envOfC x (defScope st) s.heap.objs.size f cdv)) →
      ∃ t, QSs (cxOf CX0 P w K mg base N x (defScope st) f cdv A outer s H E).nox EW0 (defBody st) t ms) : CalD P w K mg base (k + 1) x ps (spP K (runP ps.length N.length ms)) :=
  ⟨f, fd, fnP F.fn S hN hbody, F.mgf, F.kp, F.bd⟩
theorem calB {x : Str} {st : Stmt} {f : Addr} {fd : FuncData} {N ps : List Str} {k : Nat} {ms : MS} (F : Def1 K mg x st ps f fd) (S : FnScope N ps (defScope st)) (hN : ps.length ≤ N.length)
    (hbody : ∀ (cdv : Value) (A : Around) (outer : List Env) (s : Shared) (H : Hp) (E : XK), Room k (A.deeper (envOfC x (defScope st) s.heap.objs.size f cdv)) →
      ∃ t, QSs (cxOf CX0 P w K mg base N x (defScope st) f cdv A outer s H E).nox EW0 (defBody st) t ms) : CalD P w K mg base (k + 1) x ps (spB K (runB ps.length N.length ms)) :=
  ⟨f, fd, fnB F.fn S hN hbody, F.mgf, F.kp, F.bd⟩
theorem CalD.room {A : Around} {k k' : Nat} (h : k ≤ k') (r : Room k' A) : Room k A := r.mono h
end
end Dat
namespace Dat
open PySem L2 PyProof.Rows PySem.Spec
/-! ### a def that gives back a new list, the caller's own -/
def spO (K : PySem.W.Frag) (f : List D → Option (List D)) : Sp := fun vs H Q _ => ∃ F ds ys, Ex F H ∧ DpAll K F vs ds ∧ f ds = some ys ∧
  ∀ l us F' H', Grow F H F' H' → F' l = none → H l = none → H' l = some (.lst us) → DpAll K F' us ys → Q (.ref l) H'
def runO (n N : Nat) (ma : M (List Vw)) (ds : List D) : Option (List D) := if ds.length = n then (match mBind ma frcs (ds.map Sl.dat ++ List.replicate (N - n) .un) with
  | some (.ok ys, _) => if ys.length ≤ BIG then some ys else none
  | _ => none) else none
theorem Ok.setO2 {g : Gh} {F H : Hp} {σ : L2.St} {ρ : List Sl} (k1 : Ok g F H σ ρ) {i : Nat} {p : Addr} {o : O} (hF : F p = none) (h0 : g.H0 p = none) (ho : OOk g.K F H p o)
    (ne : ∀ (j : Nat) (s : Sl) (l : Addr), ρ[j]? = some s → isOwn s = true → σ[j]? = some (some (.ref l)) → l ≠ p) : Ok g F H (σ.set i (some (.ref p))) (ρ.set i (.own o)) := by
  refine ⟨k1.ff, k1.gf, k1.gh, k1.nw, k1.th, by simp [k1.len], fun j s ov q r => ?_, fun a b s t l q r hs ht w z => ?_⟩
  · rcases get_set q with ⟨rfl, rfl, _⟩ | ⟨h1, h2⟩
    · rcases get_set r with ⟨_, rfl, _⟩ | ⟨h3, _⟩
      · exact ⟨p, rfl, hF, ho, h0⟩
      · exact absurd rfl h3
    · rcases get_set r with ⟨h3, _⟩ | ⟨_, h4⟩
      · exact absurd h3 h1
      · exact k1.sl j s ov h2 h4
  · rcases get_set q with ⟨rfl, rfl, _⟩ | ⟨h1, h2⟩
    · rcases get_set w with ⟨_, e, _⟩ | ⟨h3, _⟩
      · cases e
        rcases get_set r with ⟨rfl, _⟩ | ⟨h3, h4⟩
        · rfl
        · rcases get_set z with ⟨h5, _⟩ | ⟨_, h5⟩
          · exact absurd h5 h3
          · exact absurd rfl (ne b t p h4 ht h5)
      · exact absurd rfl h3
    · rcases get_set w with ⟨h5, _⟩ | ⟨_, h5⟩
      · exact absurd h5 h1
      · rcases get_set r with ⟨rfl, _⟩ | ⟨h3, h4⟩
        · rcases get_set z with ⟨_, e, _⟩ | ⟨h6, _⟩
          · cases e
            exact absurd rfl (ne a s p h2 hs h5)
          · exact absurd rfl h6
        · rcases get_set z with ⟨h6, _⟩ | ⟨_, h6⟩
          · exact absurd h6 h3
          · exact k1.dis a b s t l h2 h4 hs ht h5 h6
section
variable {P : Program} {w : World} {K : PySem.W.Frag} {mg : Str → Option Value} {base : Heap}
theorem calO {x : Str} {st : Stmt} {f : Addr} {fd : FuncData} {N ps : List Str} {k : Nat} {es : List Expr} {p1 p2 : Pos} {ma : M (List Vw)} (F : Def1 K mg x st ps f fd) (S : FnScope N ps (defScope st)) (hN : ps.length ≤ N.length)
    (hst : defBody st = [.Return (some (.List es p1)) p2])
    (hbody : ∀ (cdv : Value) (A : Around) (outer : List Env) (s : Shared) (H : Hp) (E : XK), Room k (A.deeper (envOfC x (defScope st) s.heap.objs.size f cdv)) →
      ∃ ta, QA (cxOf CX0 P w K mg base N x (defScope st) f cdv A outer s H E).nox EW0 es ta ma) : CalD P w K mg base (k + 1) x ps (spO K (runO ps.length N.length ma)) := by
  refine ⟨f, fd, ?_, F.mgf, F.kp, F.bd⟩
  refine F.fn.ok S (fun vs H Q E h => ?_) (fun cdv A outer s H vs Q E hr h => ?_)
  · obtain ⟨F0, ds, d, _, h2, h3, _⟩ := h
    unfold runO at h3
    split at h3
    · rename_i hl
      rw [dps_len h2, hl]
    · cases h3
  · obtain ⟨F0, ds, d, e0, h2, h3, q⟩ := h
    unfold runO at h3
    split at h3
    · rename_i hl
      obtain ⟨ta, hq⟩ := hbody cdv A outer s H E hr
      refine ⟨tRet (tLst ta), by rw [hst]; exact pss_one (ps_ret (pe_lst hq.pa)), ?_⟩
      have ok := start_ok (N := N) e0 h2 hl hN
      cases hm : mBind ma frcs (ds.map Sl.dat ++ List.replicate (N.length - ps.length) .un) with
      | none => rw [hm] at h3; cases h3
      | some p =>
        obtain ⟨r, ρ'⟩ := p
        rw [hm] at h3
        cases r with
        | er c => cases h3
        | ok ys =>
          simp only at h3
          split at h3
          · rename_i hz
            cases h3
            refine (At.bind (EW := EW0) (R2 := fun (F : Hp) (a : List V) (b : List D) => DpAll K F a b) (k := fun xs H1 (Q : List V → Hp → Prop) => Q xs H1) (hq.sm _ F0 H _ _ rfl ok) fun F1 H1 ρ1 vs1 ws e1 ok1 hx => ?_) (.ok d) ρ' hm (fun xs H1 => xs.length ≤ sizeLine ∧ ∀ p, H1 p = none → Q (.ref p) (upd H1 p (.lst xs))) fun F2 H2 ex ok2 a ha => ?_
            · intro r ρ' e Q q
              obtain ⟨ds, F2, rfl, e2, ok2, q1⟩ := frcs_ok ok1 hx e
              exact q F2 H1 e2 ok2 _ q1
            · refine ⟨big_le (by rw [dps_len ha]; exact hz), fun p hp => ?_⟩
              have ok3 := ok2.newH (o := .lst a) hp
              exact q p a F2 _ ⟨ex, ok3.ff, fun a o z => ok3.gh a o (fun _ z => nomatch z) z, ok3.nw⟩ (ok2.ff.free hp) (ok2.fresh hp) upd_same ha
          · cases h3
    · cases h3
end
section
variable {X : Cx} {EW : EWT} {pos : Pos}
def mSetOc (i : Nat) (f : List D → Option (List D)) (ma : M (List Vw)) : MS := mThen ma fun ws => mThen (frcs ws) fun ds => match f ds with
  | some ys => asgO i (.lst ys)
  | none => fun _ => none
theorem qs_setOc {k : Nat} {ps : List Str} {fm : List D → Option (List D)} (i : Nat) {x y : Str} {p pos' : Pos} {e : Expr} {es : List Expr} {ta : TA} {ma : M (List Vw)} (C : CalD X.prog X.w X.K X.mg X.base k x ps (spO X.K fm)) (hr : Room k X.A) (hN : X.N.Nodup)
    (ha : QA X EW (e :: es) ta ma) (hg : Gl X x := by rfl) (hdb : (x == ("__debug__" : Str)) = false := by decide) (he : starEach (e :: es) X.env = (false, eval e X.env) :: starEach es X.env := by rfl) (hpl : ∀ cpos, (backTo cpos (starEach es X.env)).any (·.1) = false := by intro _; rfl)
    (hi : X.N[i]? = some y := by rfl) (hx : Loc X.env.scope y := by first | exact Or.inl rfl | exact Or.inr rfl) {cpos : Pos} (hs : swapsWith (.Call (.Name x p) (e :: es) [] cpos) (some (.Name y pos')) pos.line X.env = pure false := by rfl)
    (hf : X.fn y = true ∨ X.env.scope.names.lookup y = some .local := by first | exact .inl rfl | exact .inr rfl) : QS X EW (.Assign [.Name y pos'] (.Call (.Name x p) (e :: es) [] cpos) pos) (tAsg (tCall (spO X.K fm) [] E0 ta) (gName i)) (mSetOc i fm ma) := by
  obtain ⟨f, fd, hF, hm, hk, hb⟩ := C
  refine ⟨ps_set hN hi hx (pe_call hF hr hg hm hk hb .nil pass0 ha.pa hdb he (hpl cpos)) hs hf, ?_⟩
  refine then_sm (R := VwsOk) (k := fun D σ vs H1 => spO X.K fm (vs ++ []) H1 (fun v H2 => D.nx (σ.set i (some v)) H2) E0) ha.sm fun g F H σ ρ xs ws hK ok hab r ρ' e D q => ?_
  unfold mThen at e
  cases h1 : frcs ws ρ with
  | none => rw [h1] at e; cases e
  | some p =>
    obtain ⟨r1, ρ1⟩ := p
    obtain ⟨ds, F1, rfl, e1, ok1, q1⟩ := frcs_ok ok hab h1
    rw [h1] at e
    simp only at e
    cases h2 : fm ds with
    | none => rw [h2] at e; cases e
    | some ys =>
      rw [h2] at e
      obtain ⟨rfl, rfl⟩ := asgO_some e
      rw [List.append_nil, ← hK]
      refine ⟨F1, ds, ys, ok1.ff, q1, h2, fun l us F' H' gr fl hl hl' hus => ?_⟩
      have ok2 := ok1.call gr
      refine q F' H' _ (e1.trans gr.ff) (ok2.setO2 fl (ok1.fresh hl) ⟨us, hl', hus⟩ fun j s l' a b c z => ?_)
      subst z
      have hsl := ok1.sl j s _ a c
      cases s with
      | un => cases b
      | dat d => cases b
      | own o =>
        obtain ⟨l2, z1, z2, z3, z4⟩ := hsl
        cases z1
        obtain ⟨u, hu⟩ := oo_some z3
        rw [hl] at hu; cases hu
      | par o =>
        obtain ⟨l2, z1, z2, z3, z4⟩ := hsl
        cases z1
        obtain ⟨u, hu⟩ := oo_some z3
        rw [hl] at hu; cases hu
end
end Dat
namespace Dat
open PySem L2
theorem bb_len : bootBuiltins "len" = some (.builtin "len") := by decide +kernel
theorem bb_abs : bootBuiltins "abs" = some (.builtin "abs") := by decide +kernel
theorem bb_max : bootBuiltins "max" = some (.builtin "max") := by decide +kernel
theorem bb_sorted : bootBuiltins "sorted" = some (.builtin "sorted") := by decide +kernel
theorem bb_int : bootBuiltins "int" = some (.type "int") := by decide +kernel
theorem bb_str : bootBuiltins "str" = some (.type "str") := by decide +kernel
theorem bb_tuple : bootBuiltins "tuple" = some (.type "tuple") := by decide +kernel
theorem bb_list : bootBuiltins "list" = some (.type "list") := by decide +kernel
theorem bb_set : bootBuiltins "set" = some (.type "set") := by decide +kernel
theorem bb_bool : bootBuiltins "bool" = some (.type "bool") := by decide +kernel
theorem u1 {k : Nat} {A : Around} (hr : Room k A) : A.units + 1 < cLine := by have := hr.un; omega
theorem u65 {k : Nat} {A : Around} (hr : Room k A) : A.units + 65 < cLine := by have := hr.un; omega
theorem u64 {k : Nat} {A : Around} (hr : Room k A) : A.units + 64 < cLine := by have := hr.un; omega
/-! ### the rules with the frame named: for the inside of a comprehension -/
section
variable {X : Cx} {EW : EWT} {pos : Pos} {K : PySem.W.Frag}
theorem k_plus (hK : X.K = K) : OpR X (binaryOp .Add) (rPlus K) := hK ▸ op_plus
theorem k_eq (hK : X.K = K) (hu : X.A.units + 64 < cLine) : OpR X (compareOp .Eq) (rEqD K) := hK ▸ op_eqD hu
theorem k_ne (hK : X.K = K) (hu : X.A.units + 64 < cLine) : OpR X (compareOp .NotEq) (rNeD K) := hK ▸ op_neD hu
theorem k_in (hK : X.K = K) (hu : X.A.units + 65 < cLine) : OpR X (compareOp .In) (rInS K) := hK ▸ op_inS' hu
theorem k_notIn (hK : X.K = K) (hu : X.A.units + 65 < cLine) : OpR X (compareOp .NotIn) (rNotInS K) := hK ▸ op_notInS' hu
theorem k_ix (hK : X.K = K) : IxR X (rIx K) := hK ▸ ix_seq
theorem k_len (hK : X.K = K) : CallR X (.builtin "len") (fun xs H Q => ∃ x n, xs = [x] ∧ LenV K x H n ∧ Q (.int n) H) := hK ▸ call_len
theorem k_tuple (hK : X.K = K) : CallR X (.type "tuple") (fun xs H Q => ∃ p ys, xs = [.ref p] ∧ ((SqL K H p ys ∧ ∀ l, H l = none → Q (.ref l) (upd H l (.tup ys))) ∨ (SqT K H p ys ∧ Q (.ref p) H))) := hK ▸ call_tuple_of
theorem k_list (hK : X.K = K) : CallR X (.type "list") (fun xs H Q => ∃ p ys, xs = [.ref p] ∧ (SqL K H p ys ∨ SqT K H p ys) ∧ ∀ l, H l = none → Q (.ref l) (upd H l (.lst ys))) := hK ▸ call_list_of
theorem k_max (hK : X.K = K) (hc : X.calm = true) : CallR X (.builtin "max") (rMax K) := hK ▸ cr_max hc
theorem k_sort (hK : X.K = K) : CallR X (.builtin "sorted") (fun xs H Q => rSortedI K xs H Q ∨ rSortedS K xs H Q) := hK ▸ cr_sortedI.or cr_sortedS
theorem qe_callDk (hK : X.K = K) {k : Nat} {ps : List Str} {fm : List D → Option D} {x : Str} {p : Pos} {e : Expr} {es : List Expr} {ta : TA} {ma : M (List Vw)} (C : CalD X.prog X.w X.K X.mg X.base k x ps (spP K fm)) (hr : Room k X.A)
    (ha : QA X EW (e :: es) ta ma) (hg : Gl X x := by rfl) (hdb : (x == ("__debug__" : Str)) = false := by decide) (he : starEach (e :: es) X.env = (false, eval e X.env) :: starEach es X.env := by rfl) (hpl : (backTo pos (starEach es X.env)).any (·.1) = false := by rfl) :
    QE X EW (.Call (.Name x p) (e :: es) [] pos) (tCall (spP K fm) [] E0 ta) (mCall fm ma) := by
  subst hK
  exact qe_callD C hr ha hg hdb he hpl
theorem qe_callBDk (hK : X.K = K) {k : Nat} {ps : List Str} {fm : O → List D → Option (D × O)} {x : Str} {p : Pos} {e : Expr} {es : List Expr} {ta : TA} {ma : M (List Vw)} (C : CalD X.prog X.w X.K X.mg X.base k x ps (spB K fm)) (hr : Room k X.A)
    (ha : QA X EW (e :: es) ta ma) (hg : Gl X x := by rfl) (hdb : (x == ("__debug__" : Str)) = false := by decide) (he : starEach (e :: es) X.env = (false, eval e X.env) :: starEach es X.env := by rfl) (hpl : (backTo pos (starEach es X.env)).any (·.1) = false := by rfl) :
    QE X EW (.Call (.Name x p) (e :: es) [] pos) (tCall (spB K fm) [] E0 ta) (mCallB fm ma) := by
  subst hK
  exact qe_callBD C hr ha hg hdb he hpl
theorem qg_tupk (hK : X.K = K) {es : List Expr} {k : Nat} {t : TGs} {n : Nat} {vars : List Nat} {m : GMs} (hc : X.calm = true) (h : QGs X es t vars m)
    (hn : (assignEach es X.env).length = n := by rfl) (hst : (assignEach es X.env).findIdx? (·.1) = none := by rfl) : QG X (.Tuple es k pos) (gTup K n t) vars (gmTup n m) := by
  subst hK
  exact qg_tup hc h hn hst
theorem qi_listk (hK : X.K = K) {tg l : Expr} {tl : TE} {ma : M Vw} (h : QE X EW l tl ma) : QI X EW tg l (iList K tl) (mSeqL ma) := by
  subst hK
  exact qi_list h
theorem qi_tupk (hK : X.K = K) {tg l : Expr} {tl : TE} {ma : M Vw} (h : QE X EW l tl ma) : QI X EW tg l (iTup K tl) (mSeqT ma) := by
  subst hK
  exact qi_tup h
theorem qe_isik (hK : X.K = K) {T : String} {x : Str} {f : D → Bool} (hi : IsiOk T f) {e : Expr} {te : TE} {ma : M Vw} {p p2 : Pos} (hg : Gl X "isinstance") (hm : X.mg "isinstance" = none) (hg2 : Gl X x) (hm2 : X.mg x = none) (hv2 : bootBuiltins x = some (.type T)) (h : QE X EW e te ma)
    (hn : x ≠ "__name__" := by decide) (hd : (x == ("__debug__" : Str)) = false := by decide)
    (he : starEach [e, .Name x p2] X.env = (false, eval e X.env) :: starEach [.Name x p2] X.env := by rfl) (he2 : starEach [.Name x p2] X.env = (false, eval (.Name x p2) X.env) :: starEach [] X.env := by rfl) (hpl : (backTo pos (starEach [.Name x p2] X.env)).any (·.1) = false := by rfl) :
    QE X EW (.Call (.Name "isinstance" p) [e, .Name x p2] [] pos) (tCB (rIsi K) (tCons te (tCons (tC (.ty T)) tNil))) (mOp1 (fIsi f) ma) := by
  subst hK
  exact qe_isi hi hg hm hg2 hm2 hv2 h hn hd he he2 hpl
end
end Dat
namespace Dat
open PySem L2
/-! ### one turn of a loop, of a comprehension -/
def stepS (gm : GM) (body : MS) (d : D) : MS := fun ρ => match gm d ρ with
  | none => none
  | some ρ1 => body ρ1
theorem loopS_fold {α β : Type} {gm : GM} {body : MS} {enc : α → D} (I : Nat → β → List Sl → Prop) (f : β → α → β) (xs : List α) :
    ∀ (k : Nat) (b : β) (ρ : List Sl), (∀ n x, xs[n]? = some x → ∀ b ρ, I (k + n) b ρ → ∃ r ρ2, stepS gm body (enc x) ρ = some (r, ρ2) ∧ (r = .nx ∨ r = .ct) ∧ I (k + n + 1) (f b x) ρ2) → I k b ρ →
      ∃ ρ', loopS gm body (xs.map enc) ρ = some (.nx, ρ') ∧ I (k + xs.length) (xs.foldl f b) ρ' := by
  induction xs with
  | nil => exact fun k b ρ _ h => ⟨ρ, rfl, h⟩
  | cons x xs ih =>
    intro k b ρ h hI
    obtain ⟨r, ρ2, e, hr, h2⟩ := h 0 x rfl b ρ hI
    obtain ⟨ρ', e', h'⟩ := ih (k + 1) (f b x) ρ2 (fun n y hy b ρ hI => by
      have := h (n + 1) y (by simpa using hy) b ρ (by rw [show k + (n + 1) = k + 1 + n by omega]; exact hI)
      rw [show k + (n + 1) + 1 = k + 1 + n + 1 by omega] at this
      exact this) h2
    refine ⟨ρ', ?_, ?_⟩
    · rw [List.map_cons]
      unfold loopS
      unfold stepS at e
      cases q : gm (enc x) ρ with
      | none => rw [q] at e; cases e
      | some ρ1 =>
        rw [q] at e
        simp only at e ⊢
        rw [e]
        rcases hr with rfl | rfl <;> exact e'
    · rw [List.length_cons, List.foldl_cons, show k + (xs.length + 1) = k + 1 + xs.length by omega]; exact h'
theorem mFor_fold {α β : Type} {mi : M (List D)} {gm : GM} {body : MS} {enc : α → D} (I : Nat → β → List Sl → Prop) (f : β → α → β) (xs : List α) {b : β} {ρ ρ0 : List Sl} (hi : mi ρ = some (.ok (xs.map enc), ρ0))
    (h : ∀ n x, xs[n]? = some x → ∀ b ρ, I n b ρ → ∃ r ρ2, stepS gm body (enc x) ρ = some (r, ρ2) ∧ (r = .nx ∨ r = .ct) ∧ I (n + 1) (f b x) ρ2) (h0 : I 0 b ρ0) :
      ∃ ρ', mFor mi gm body ρ = some (.nx, ρ') ∧ I xs.length (xs.foldl f b) ρ' := by
  obtain ⟨ρ', e, h'⟩ := loopS_fold (gm := gm) (body := body) (enc := enc) I f xs 0 b ρ0 (fun n x hx b ρ hI => by rw [Nat.zero_add] at *; exact h n x hx b ρ hI) h0
  refine ⟨ρ', ?_, by rw [Nat.zero_add] at h'; exact h'⟩
  unfold mFor mThen
  rw [hi]
  exact e
def stepC (gm : GM) (mt : M Bool) (me : M Vw) (vs : List Nat) (d : D) (ρ : List Sl) : Option (Option D × List Sl) := match gm d ρ with
  | none => none
  | some ρ1 => match mt ρ1 with
    | some (.ok true, ρ2) => (match mBind me frc ρ2 with
      | some (.ok y, ρ3) => some (some y, wipeS ρ3 vs)
      | _ => none)
    | some (.ok false, ρ2) => some (none, wipeS ρ2 vs)
    | _ => none
theorem loopC_step {gm : GM} {mt : M Bool} {me : M Vw} {vs : List Nat} {d : D} {ds : List D} {ρ ρ2 : List Sl} {acc : List D} {y : Option D} (h : stepC gm mt me vs d ρ = some (y, ρ2)) (hl : acc.length < BIG) :
    loopC gm mt me vs (d :: ds) ρ acc = loopC gm mt me vs ds ρ2 (acc ++ y.toList) := by
  unfold stepC at h
  rw [loopC]
  cases q : gm d ρ with
  | none => rw [q] at h; cases h
  | some ρ1 =>
    rw [q] at h
    simp only at h ⊢
    cases q2 : mt ρ1 with
    | none => rw [q2] at h; cases h
    | some p =>
      obtain ⟨r, ρ3⟩ := p
      rw [q2] at h
      cases r with
      | er c => cases h
      | ok b =>
        cases b with
        | false =>
          cases h
          simp
        | true =>
          simp only at h ⊢
          cases q3 : mBind me frc ρ3 with
          | none => rw [q3] at h; cases h
          | some p =>
            obtain ⟨r, ρ4⟩ := p
            rw [q3] at h
            cases r with
            | er c => cases h
            | ok y' =>
              cases h
              simp only
              rw [if_pos hl]; rfl
theorem loopC_fold {α : Type} {gm : GM} {mt : M Bool} {me : M Vw} {vs : List Nat} {enc : α → D} (I : Nat → List D → List Sl → Prop) (xs : List α) :
    ∀ (k : Nat) (acc : List D) (ρ : List Sl), acc.length + xs.length ≤ BIG → (∀ n x, xs[n]? = some x → ∀ acc ρ, I (k + n) acc ρ → ∃ y ρ2, stepC gm mt me vs (enc x) ρ = some (y, ρ2) ∧ I (k + n + 1) (acc ++ y.toList) ρ2) → I k acc ρ →
      ∃ acc' ρ', loopC gm mt me vs (xs.map enc) ρ acc = some (acc', ρ') ∧ I (k + xs.length) acc' ρ' := by
  induction xs with
  | nil => exact fun k acc ρ _ _ h => ⟨acc, ρ, rfl, h⟩
  | cons x xs ih =>
    intro k acc ρ hl h hI
    rw [List.length_cons] at hl
    obtain ⟨y, ρ2, e, h2⟩ := h 0 x rfl acc ρ hI
    have hy : y.toList.length ≤ 1 := by cases y <;> simp
    obtain ⟨acc', ρ', e', h'⟩ := ih (k + 1) (acc ++ y.toList) ρ2 (by rw [List.length_append]; omega) (fun n z hz acc ρ hI => by
      have := h (n + 1) z (by simpa using hz) acc ρ (by rw [show k + (n + 1) = k + 1 + n by omega]; exact hI)
      rw [show k + (n + 1) + 1 = k + 1 + n + 1 by omega] at this
      exact this) h2
    refine ⟨acc', ρ', ?_, ?_⟩
    · rw [List.map_cons, loopC_step e (by omega)]; exact e'
    · rw [List.length_cons, show k + (xs.length + 1) = k + 1 + xs.length by omega]; exact h'
theorem mLc_fold {α : Type} {mi : M (List D)} {gm : GM} {mt : M Bool} {me : M Vw} {vs : List Nat} {enc : α → D} (I : Nat → List D → List Sl → Prop) (xs : List α) {ρ ρ0 : List Sl} (hi : mi ρ = some (.ok (xs.map enc), ρ0)) (hl : xs.length ≤ BIG)
    (h : ∀ n x, xs[n]? = some x → ∀ acc ρ, I n acc ρ → ∃ y ρ2, stepC gm mt me vs (enc x) ρ = some (y, ρ2) ∧ I (n + 1) (acc ++ y.toList) ρ2) (h0 : I 0 [] (wipeS ρ0 vs)) :
      ∃ acc' ρ', mLc mi gm mt me vs ρ = some (.ok (.dat (.list acc')), wipeS ρ' vs) ∧ I xs.length acc' ρ' := by
  obtain ⟨acc', ρ', e, h'⟩ := loopC_fold (gm := gm) (mt := mt) (me := me) (vs := vs) (enc := enc) I xs 0 [] (wipeS ρ0 vs) (by simpa using hl) (fun n x hx b ρ hI => by rw [Nat.zero_add] at *; exact h n x hx b ρ hI) h0
  refine ⟨acc', ρ', ?_, by rw [Nat.zero_add] at h'; exact h'⟩
  unfold mLc mBind
  rw [hi]
  simp only
  unfold compL
  rw [e]; rfl
/-- one that leaves all else as it was -/
theorem mLc_pure {α : Type} {mi : M (List D)} {gm : GM} {mt : M Bool} {me : M Vw} {vs : List Nat} {enc : α → D} (ψ : α → Option D) (xs : List α) {ρ ρ0 : List Sl} (hi : mi ρ = some (.ok (xs.map enc), ρ0)) (hl : xs.length ≤ BIG)
    (h : ∀ x ∈ xs, stepC gm mt me vs (enc x) (wipeS ρ0 vs) = some (ψ x, wipeS ρ0 vs)) :
      mLc mi gm mt me vs ρ = some (.ok (.dat (.list (xs.filterMap ψ))), wipeS (wipeS ρ0 vs) vs) := by
  obtain ⟨acc, ρ', e, rfl, h2⟩ := mLc_fold (gm := gm) (mt := mt) (me := me) (vs := vs) (enc := enc) (fun n acc ρ => ρ = wipeS ρ0 vs ∧ acc = (xs.take n).filterMap ψ) xs hi hl (fun n x hx acc ρ hI => by
    obtain ⟨rfl, rfl⟩ := hI
    refine ⟨ψ x, _, h x (List.mem_of_getElem? hx), rfl, ?_⟩
    rw [List.take_add_one, hx, List.filterMap_append]
    cases q : ψ x <;> simp [q]) ⟨rfl, rfl⟩
  rw [e, h2, List.take_length]
/-- a slot that is no parameter's -/
def np : Sl → Bool
  | .par _ => false
  | _ => true
def npAt (i : Nat) (ρ : List Sl) : Bool := match ρ[i]? with
  | some s => np s
  | none => false
theorem asgD_np {i : Nat} {d : D} {ρ : List Sl} (h : npAt i ρ = true) : asgD i d ρ = some (ρ.set i (.dat d)) := by
  unfold npAt at h
  unfold asgD
  cases q : ρ[i]? with
  | none => rw [q] at h; cases h
  | some s => rw [q] at h; cases s <;> first | rfl | cases h
theorem asgO_np {i : Nat} {o : O} {ρ : List Sl} (h : npAt i ρ = true) : asgO i o ρ = some (.nx, ρ.set i (.own o)) := by
  unfold npAt at h
  unfold asgO
  cases q : ρ[i]? with
  | none => rw [q] at h; cases h
  | some s => rw [q] at h; cases s <;> first | rfl | cases h
theorem np_un : np .un = true := rfl
theorem np_dat (d : D) : np (.dat d) = true := rfl
theorem np_own (o : O) : np (.own o) = true := rfl
end Dat
namespace Dat
open PySem L2
theorem mBind_ok {α β : Type} {m : M α} {f : α → M β} {a : α} {ρ ρ1 : List Sl} (h : m ρ = some (.ok a, ρ1)) : mBind m f ρ = f a ρ1 := by
  unfold mBind; rw [h]
theorem asI_ok {w : Vw} {j : Int} {ρ : List Sl} (h : rdD w ρ = some (.int j)) : asI w ρ = some (.ok j, ρ) := by
  unfold asI; rw [h]
theorem mRng1_ok {ma : M Vw} {w : Vw} {j : Int} {ρ ρ1 : List Sl} (h : ma ρ = some (.ok w, ρ1)) (hw : rdD w ρ1 = some (.int j)) : mRng1 ma ρ = rngI 0 j ρ1 := by
  unfold mRng1
  rw [mBind_ok h, mBind_ok (asI_ok hw)]
theorem rng_ok {n : Nat} (h : n ≤ 1000) {j : Int} (hj : j = (n : Int)) (ρ : List Sl) : rngI 0 j ρ = some (.ok ((List.range n).map fun (i : Nat) => .int (0 + (i : Int))), ρ) := by
  subst hj
  unfold rngI Dat.upTo
  rw [if_pos (by omega)]
  simp
theorem mRng1_at {ma : M Vw} {w : Vw} {j : Int} {n : Nat} {ρ ρ1 : List Sl} (h : ma ρ = some (.ok w, ρ1)) (hw : rdD w ρ1 = some (.int j)) (hn : n ≤ 1000) (hj : j = (n : Int)) : mRng1 ma ρ = some (.ok ((List.range n).map fun (i : Nat) => .int (0 + (i : Int))), ρ1) := by
  rw [mRng1_ok h hw, rng_ok hn hj]
theorem le_big {n : Nat} (h : n ≤ 1000) : n ≤ BIG := Nat.le_trans h (by decide)
end Dat
namespace Dat
open PySem L2
theorem mSeq_ok {m n : MS} {ρ ρ1 : List Sl} (h : m ρ = some (.nx, ρ1)) : mSeq m n ρ = n ρ1 := by
  unfold mSeq; rw [h]
theorem mAsg_ok {ma : M Vw} {gm : GM} {d : D} {ρ ρ1 ρ2 : List Sl} (h : ma ρ = some (.ok (.dat d), ρ1)) (hg : gm d ρ1 = some ρ2) : mAsg ma gm ρ = some (.nx, ρ2) := by
  unfold mAsg mThen
  rw [h]
  show mThen (frc (.dat d)) (asgS gm) ρ1 = _
  unfold mThen frc
  show asgS gm d ρ1 = _
  unfold asgS
  rw [hg]
theorem mOp2_ok {f : D → D → Option D} {ma mb : M Vw} {a b : Vw} {d e z : D} {ρ ρ1 ρ2 : List Sl} (ha : ma ρ = some (.ok a, ρ1)) (hb : mb ρ1 = some (.ok b, ρ2)) (h1 : rdD a ρ2 = some d) (h2 : rdD b ρ2 = some e) (hf : f d e = some z) : mOp2 f ma mb ρ = some (.ok (.dat z), ρ2) := by
  unfold mOp2
  rw [mBind_ok ha, mBind_ok hb]
  unfold app2
  simp only [h1, h2, hf]
theorem mOp1_ok {f : D → Option D} {ma : M Vw} {a : Vw} {d z : D} {ρ ρ1 : List Sl} (ha : ma ρ = some (.ok a, ρ1)) (h1 : rdD a ρ1 = some d) (hf : f d = some z) : mOp1 f ma ρ = some (.ok (.dat z), ρ1) := by
  unfold mOp1
  rw [mBind_ok ha]
  unfold app1
  simp only [h1, hf]
theorem mRetS_ok {ma : M Vw} {d : D} {ρ ρ1 : List Sl} (h : ma ρ = some (.ok (.dat d), ρ1)) : mRetS ma ρ = some (.rt d, ρ1) := by
  unfold mRetS mThen
  rw [h]
  rfl
theorem mIfS_ok {mt : M Bool} {b : Bool} {m n : MS} {ρ ρ1 : List Sl} (h : mt ρ = some (.ok b, ρ1)) : mIfS mt m n ρ = if b = true then m ρ1 else n ρ1 := by
  unfold mIfS mThen
  rw [h]
  cases b <;> rfl
theorem mAsB_ok {ma : M Vw} {w : Vw} {b : Bool} {ρ ρ1 : List Sl} (h : ma ρ = some (.ok w, ρ1)) (hw : rdD w ρ1 = some (.bool b)) : mAsB ma ρ = some (.ok b, ρ1) := by
  unfold mAsB
  rw [mBind_ok h]
  unfold asB
  rw [hw]
end Dat
namespace Dat
open PySem L2
theorem mIf_ok {mt : M Bool} {b : Bool} {m n : M Vw} {ρ ρ1 : List Sl} (h : mt ρ = some (.ok b, ρ1)) : mIf mt m n ρ = if b = true then m ρ1 else n ρ1 := by
  unfold mIf
  rw [mBind_ok h]
  cases b <;> rfl
theorem mAnd_ok {m n : M Bool} {b : Bool} {ρ ρ1 : List Sl} (h : m ρ = some (.ok b, ρ1)) : mAnd m n ρ = if b = true then n ρ1 else some (.ok false, ρ1) := by
  unfold mAnd
  rw [mBind_ok h]
  cases b <;> rfl
theorem mOr_ok {m n : M Bool} {b : Bool} {ρ ρ1 : List Sl} (h : m ρ = some (.ok b, ρ1)) : mOr m n ρ = if b = true then some (.ok true, ρ1) else n ρ1 := by
  unfold mOr
  rw [mBind_ok h]
  cases b <;> rfl
theorem mNot_ok {m : M Bool} {b : Bool} {ρ ρ1 : List Sl} (h : m ρ = some (.ok b, ρ1)) : mNot m ρ = some (.ok (!b), ρ1) := by
  unfold mNot
  rw [mBind_ok h]
  rfl
theorem mTru_ok {ma : M Vw} {w : Vw} {d : D} {b : Bool} {ρ ρ1 : List Sl} (h : ma ρ = some (.ok w, ρ1)) (hw : rdD w ρ1 = some d) (hb : truD d = some b) : mTru ma ρ = some (.ok b, ρ1) := by
  unfold mTru
  rw [mBind_ok h]
  unfold tru
  rw [hw]
  simp only [hb]
theorem mCallB_par {f : O → List D → Option (D × O)} {ma : M (List Vw)} {ds : List D} {o o' : O} {d : D} {ρ : List Sl} (h0 : ρ[0]? = some (.par o)) (hma : mBind ma frcs ρ = some (.ok ds, ρ)) (hf : f o ds = some (d, o')) : mCallB f (mCons (mVar 0) ma) ρ = some (.ok (.dat d), ρ.set 0 (.par o')) := by
  have h1 : mVar 0 ρ = some (.ok (.loc 0), ρ) := by unfold mVar; rw [h0]
  cases q : ma ρ with
  | none => unfold mBind at hma; rw [q] at hma; cases hma
  | some p =>
    obtain ⟨r, ρ1⟩ := p
    cases r with
    | er c => unfold mBind at hma; rw [q] at hma; cases hma
    | ok ws =>
      rw [mBind_ok q] at hma
      have e : mCons (mVar 0) ma ρ = some (.ok (.loc 0 :: ws), ρ1) := by
        unfold mCons
        rw [mBind_ok h1, mBind_ok q]
        rfl
      unfold mCallB
      rw [mBind_ok e]
      show mBind (frcs ws) _ ρ1 = _
      rw [mBind_ok hma]
      simp only [h0, hf]
theorem mAppend_own {i : Nat} {ma : M Vw} {d : D} {ds0 ds : List D} {ρ ρ1 : List Sl} (h0 : ρ[i]? = some (.own (.lst ds0))) (h : ma ρ = some (.ok (.dat d), ρ1)) (h1 : ρ1[i]? = some (.own (.lst ds))) (hl : ds.length < BIG) : mAppend i ma ρ = some (.nx, ρ1.set i (.own (.lst (ds ++ [d])))) := by
  unfold mAppend isOL
  rw [h0]
  simp only
  unfold mThen
  rw [h]
  simp only [frc]
  unfold ownL pushL
  rw [h1]
  simp only [hl, ↓reduceIte]
theorem mDGet_own {i : Nat} {mk : M Vw} {w : Vw} {k : Key} {d kd : D} {kvs : List (Key × D)} {ρ : List Sl} (h0 : ρ[i]? = some (.own (.dk kvs))) (h : mk ρ = some (.ok w, ρ)) (hw : rdD w ρ = some kd) (hk : toKey kd = some k) (hv : valD kvs k = some d) : mDGet i mk ρ = some (.ok (.dat d), ρ) := by
  unfold mDGet isOwnS
  rw [h0]
  simp only
  rw [mBind_ok h]
  unfold dgetA keyAt dkAt
  rw [hw]
  simp only [Option.bind_some, hk, h0, hv]
end Dat
namespace K10
open PySem L2 Dat
def top (i : Nat) : Stmt := PySem.Challenge.pw_entablature_k10_choices_and_literals.main.body.getD i (.Pass ⟨0, 0, 0, 0⟩)
structure Blt (mg : Str → Option Value) : Prop where
  abs : mg "abs" = none
  enumerate : mg "enumerate" = none
  int : mg "int" = none
  isinstance : mg "isinstance" = none
  len : mg "len" = none
  max : mg "max" = none
  range : mg "range" = none
  set : mg "set" = none
  sorted : mg "sorted" = none
  str : mg "str" = none
  tuple : mg "tuple" = none
section
variable {P : Program} {w : World} {K : PySem.W.Frag} {mg : Str → Option Value} {base : Heap}
abbrev s_d_law_box : Stmt := top 6
abbrev N_d_law_box : List Str := ["script", "x"]
theorem sc_d_law_box : FnScope N_d_law_box ["script"] (defScope s_d_law_box) := ⟨rfl, rfl, rfl, by decide +kernel, rfl, by decide +kernel, by decide +kernel⟩
def E_d_law_box_0 : M Vw := (mOp1 fAbs (mOp1 fIntOf (mVar 1)))
def T_d_law_box_1 : M Bool := (mRet true)
def L_d_law_box_2 : M Vw := (mLc (mSeqL (mVar 0)) (asgD 1) T_d_law_box_1 E_d_law_box_0 [1])
def m_d_law_box : M (List Vw) := (mCons (mC (.int 0)) (mCons (mC (.int 0)) (mCons (mC (.int 0)) (mCons L_d_law_box_2 mNil))))
def f_d_law_box : List D → Option (List D) := runO 1 2 m_d_law_box
theorem ok_d_law_box {f : Addr} {fd : FuncData} (F : Def1 K mg "_law_box" s_d_law_box ["script"] f fd) (T : Blt mg)  : CalD P w K mg base 1 "_law_box" ["script"] (spO K f_d_law_box) :=
  calO F sc_d_law_box (by decide) rfl fun cdv A outer s H E hr => ⟨_, (qa_cons qe_int (qa_cons qe_int (qa_cons qe_int (qa_cons (qe_lc (own := [("x", 1)]) rfl sc_d_law_box.nd (qi_list (qe_var 0)) (show BlkOk N_d_law_box (defScope s_d_law_box) _ _ from blkOk_by (by decide +kernel)) (fun _ _ _ _ _ => (qg_name 1 sc_d_law_box.nd)) (fun _ _ _ _ _ => qts_nil) (fun _ _ _ _ _ => (qe_callB1 call_abs cs_abs (by rfl) T.abs bb_abs (qe_callT1 call_int1 cs_int (by rfl) T.int bb_int (qe_var 1))))) qa_nil))))⟩
abbrev s_d_law_take : Stmt := top 7
abbrev N_d_law_take : List Str := ["box", "m", "at", "cell", "told"]
theorem sc_d_law_take : FnScope N_d_law_take ["box", "m"] (defScope s_d_law_take) := ⟨rfl, rfl, rfl, by decide +kernel, rfl, by decide +kernel, by decide +kernel⟩
def m_d_law_take : MS := (mSeq (mIfS (mAsB (mOp2 fEq (mOp2 fIx (mVar 0) (mC (.int 1))) (mC (.int 0)))) (mSeq (mAsg (mOp2 fIx (mVar 0) (mC (.int 2))) (asgD 2))
  (mSeq (mAsg (mC (.int 0)) (asgD 3))
  (mSeq (mIfS (mAsB (mOp2 fLt (mVar 2) (mOp1 fLen (mOp2 fIx (mVar 0) (mC (.int 3)))))) (mSeq (mAsg (mOp2 fIx (mOp2 fIx (mVar 0) (mC (.int 3))) (mVar 2)) (asgD 3))
  (mSetItem 0 (mC (.int 1)) (mIf (mAsB (mOp2 fGe (mVar 3) (mOp2 fPow (mC (.int 10)) (mC (.int 18))))) (mC (.int 60)) (mOp1 fNeg (mC (.int 9)))))) mSkip)
  (mSeq (mSetItem 0 (mC (.int 2)) (mOp2 fPlus (mVar 2) (mC (.int 1))))
  (mSeq (mSetItem 0 (mC (.int 0)) (mVar 3))
  (mIfS (mAsB (mOp2 fEq (mOp2 fIx (mVar 0) (mC (.int 1))) (mC (.int 0)))) (mRetS (mC (.int 0))) mSkip)))))) mSkip)
  (mSeq (mIfS (mAsB (mOp2 fGt (mOp2 fIx (mVar 0) (mC (.int 1))) (mC (.int 0)))) (mSeq (mAsg (mOp2 fMod (mOp1 fIntOf (mOp2 fIx (mVar 0) (mC (.int 0)))) (mVar 1)) (asgD 4))
  (mSeq (mSetItem 0 (mC (.int 0)) (mOp2 fDiv (mOp2 fIx (mVar 0) (mC (.int 0))) (mVar 1)))
  (mSeq (mSetItem 0 (mC (.int 1)) (mIf (mAsB (mOp2 fGt (mOp2 fIx (mVar 0) (mC (.int 0))) (mC (.int 0)))) (mOp2 fSub (mOp2 fIx (mVar 0) (mC (.int 1))) (mC (.int 1))) (mC (.int 0))))
  (mRetS (mVar 4))))) mSkip)
  (mSeq (mSetItem 0 (mC (.int 1)) (mOp2 fPlus (mOp2 fIx (mVar 0) (mC (.int 1))) (mC (.int 1))))
  (mSeq (mSetItem 0 (mC (.int 0)) (mOp2 fMod (mOp1 fIntOf (mOp2 fPlus (mOp2 fMul (mOp2 fIx (mVar 0) (mC (.int 0))) (mC (.int 48271))) (mOp2 fMul (mC (.int 69621)) (mOp2 fPlus (mOp2 fIx (mVar 0) (mC (.int 1))) (mC (.int 20)))))) (mC (.int 2147483647))))
  (mRetS (mOp2 fMod (mOp2 fMod (mOp1 fIntOf (mOp2 fPlus (mOp2 fDiv (mOp2 fIx (mVar 0) (mC (.int 0))) (mC (.int 7))) (mOp2 fIx (mVar 0) (mC (.int 0))))) (mC (.int 1000003))) (mVar 1)))))))
def f_d_law_take : O → List D → Option (D × O) := runB 2 5 m_d_law_take
theorem ok_d_law_take {f : Addr} {fd : FuncData} (F : Def1 K mg "_law_take" s_d_law_take ["box", "m"] f fd) (T : Blt mg)  : CalD P w K mg base 1 "_law_take" ["box", "m"] (spB K f_d_law_take) :=
  calB F sc_d_law_take (by decide) fun cdv A outer s H E hr => ⟨_, (qss_cons (qs_if (qt_cmp (op_eqD (u64 hr)) os_eq (qe_ix ix_seq os_ix (qe_var 0) qe_int) qe_int) (qss_cons (qs_set 2 sc_d_law_take.nd (qe_ix ix_seq os_ix (qe_var 0) qe_int))
  (qss_cons (qs_set 3 sc_d_law_take.nd qe_int)
  (qss_cons (qs_if (qt_cmp op_lt os_lt (qe_var 2) (qe_callB1 call_len cs_len (by rfl) T.len bb_len (qe_ix ix_seq os_ix (qe_var 0) qe_int))) (qss_cons (qs_set 3 sc_d_law_take.nd (qe_ix ix_seq os_ix (qe_ix ix_seq os_ix (qe_var 0) qe_int) (qe_var 2)))
  (qss_one (qs_setItem 0 (by rfl) (by first | exact Or.inl rfl | exact Or.inr (Or.inl rfl) | exact Or.inr (Or.inr rfl)) (qe_if (qt_cmp op_ge os_ge (qe_var 3) (qe_op op_pow os_pow qe_int qe_int)) qe_int (qe_un un_neg us_neg qe_int)) qe_int))) qss_nil)
  (qss_cons (qs_setItem 0 (by rfl) (by first | exact Or.inl rfl | exact Or.inr (Or.inl rfl) | exact Or.inr (Or.inr rfl)) (qe_op op_plus os_plus (qe_var 2) qe_int) qe_int)
  (qss_cons (qs_setItem 0 (by rfl) (by first | exact Or.inl rfl | exact Or.inr (Or.inl rfl) | exact Or.inr (Or.inr rfl)) (qe_var 3) qe_int)
  (qss_one (qs_if (qt_cmp (op_eqD (u64 hr)) os_eq (qe_ix ix_seq os_ix (qe_var 0) qe_int) qe_int) (qss_one (qs_ret qe_int)) qss_nil))))))) qss_nil)
  (qss_cons (qs_if (qt_cmp op_gt os_gt (qe_ix ix_seq os_ix (qe_var 0) qe_int) qe_int) (qss_cons (qs_set 4 sc_d_law_take.nd (qe_op op_mod os_mod (qe_callT1 call_int1 cs_int (by rfl) T.int bb_int (qe_ix ix_seq os_ix (qe_var 0) qe_int)) (qe_var 1)))
  (qss_cons (qs_setItem 0 (by rfl) (by first | exact Or.inl rfl | exact Or.inr (Or.inl rfl) | exact Or.inr (Or.inr rfl)) (qe_op op_fdiv os_div (qe_ix ix_seq os_ix (qe_var 0) qe_int) (qe_var 1)) qe_int)
  (qss_cons (qs_setItem 0 (by rfl) (by first | exact Or.inl rfl | exact Or.inr (Or.inl rfl) | exact Or.inr (Or.inr rfl)) (qe_if (qt_cmp op_gt os_gt (qe_ix ix_seq os_ix (qe_var 0) qe_int) qe_int) (qe_op op_sub os_sub (qe_ix ix_seq os_ix (qe_var 0) qe_int) qe_int) qe_int) qe_int)
  (qss_one (qs_ret (qe_var 4)))))) qss_nil)
  (qss_cons (qs_setItem 0 (by rfl) (by first | exact Or.inl rfl | exact Or.inr (Or.inl rfl) | exact Or.inr (Or.inr rfl)) (qe_op op_plus os_plus (qe_ix ix_seq os_ix (qe_var 0) qe_int) qe_int) qe_int)
  (qss_cons (qs_setItem 0 (by rfl) (by first | exact Or.inl rfl | exact Or.inr (Or.inl rfl) | exact Or.inr (Or.inr rfl)) (qe_op op_mod os_mod (qe_callT1 call_int1 cs_int (by rfl) T.int bb_int (qe_op op_plus os_plus (qe_op op_mul os_mul (qe_ix ix_seq os_ix (qe_var 0) qe_int) qe_int) (qe_op op_mul os_mul qe_int (qe_op op_plus os_plus (qe_ix ix_seq os_ix (qe_var 0) qe_int) qe_int)))) qe_int) qe_int)
  (qss_one (qs_ret (qe_op op_mod os_mod (qe_op op_mod os_mod (qe_callT1 call_int1 cs_int (by rfl) T.int bb_int (qe_op op_plus os_plus (qe_op op_fdiv os_div (qe_ix ix_seq os_ix (qe_var 0) qe_int) qe_int) (qe_ix ix_seq os_ix (qe_var 0) qe_int))) qe_int) (qe_var 1))))))))⟩
abbrev s_d_law_pick : Stmt := top 8
abbrev N_d_law_pick : List Str := ["box", "menu"]
theorem sc_d_law_pick : FnScope N_d_law_pick ["box", "menu"] (defScope s_d_law_pick) := ⟨rfl, rfl, rfl, by decide +kernel, rfl, by decide +kernel, by decide +kernel⟩
def m_d_law_pick : MS := (mRetS (mOp2 fIx (mVar 1) (mCallB f_d_law_take (mCons (mVar 0) (mCons (mOp1 fLen (mVar 1)) mNil)))))
def f_d_law_pick : O → List D → Option (D × O) := runB 2 2 m_d_law_pick
theorem ok_d_law_pick {f : Addr} {fd : FuncData} (F : Def1 K mg "_law_pick" s_d_law_pick ["box", "menu"] f fd) (T : Blt mg) (C_d_law_take : CalD P w K mg base 1 "_law_take" ["box", "m"] (spB K f_d_law_take)) : CalD P w K mg base 2 "_law_pick" ["box", "menu"] (spB K f_d_law_pick) :=
  calB F sc_d_law_pick (by decide) fun cdv A outer s H E hr => ⟨_, (qss_one (qs_ret (qe_ix ix_seq os_ix (qe_var 1) (qe_callBD C_d_law_take (hr.mono (by decide)) (qa_cons (qe_var 0) (qa_cons (qe_callB1 call_len cs_len (by rfl) T.len bb_len (qe_var 1)) qa_nil))))))⟩
abbrev s_d_law_drawn : Stmt := top 9
abbrev N_d_law_drawn : List Str := ["box", "kinds", "out", "p", "params", "k", "entries", "table", "keys", "i", "kind", "value", "key"]
theorem sc_d_law_drawn : FnScope N_d_law_drawn ["box"] (defScope s_d_law_drawn) := ⟨rfl, rfl, rfl, by decide +kernel, rfl, by decide +kernel, by decide +kernel⟩
def E_d_law_drawn_0 : M Vw := (mTup (mCons (mC (.str "param")) (mCons (mVar 9) mNil)))
def T_d_law_drawn_1 : M Bool := (mAsB (mOp2 fEq (mVar 10) (mDGet 1 (mVar 7))))
def L_d_law_drawn_2 : M Vw := (mLc (mEnumT (mVar 4)) (gmTup 2 (gmCons (asgD 9) (gmCons (asgD 10) gmNil))) T_d_law_drawn_1 E_d_law_drawn_0 [9, 10])
def B_d_law_drawn_3 : MS := (mSeq (mAsg (mCallB f_d_law_pick (mCons (mVar 0) (mCons (mLst (mCons (mC (.str "t")) (mCons (mC (.str "u")) (mCons (mC (.str "v")) mNil)))) mNil))) (asgD 7))
  (mSeq (mAsg L_d_law_drawn_2 (asgD 8))
  (mSeq (mAsg (mIf (mAsB (mOp2 fEq (mDGet 1 (mVar 7)) (mC (.str "int")))) (mCallB f_d_law_pick (mCons (mVar 0) (mCons (mLst (mCons (mC (.int 0)) (mCons (mC (.int 3)) (mCons (mOp1 fNeg (mC (.int 1))) (mCons (mOp2 fPow (mC (.int 10)) (mC (.int 17))) (mCons (mC (.int 3)) mNil)))))) mNil))) (mCallB f_d_law_pick (mCons (mVar 0) (mCons (mLst (mCons (mC (.str "")) (mCons (mC (.str "b")) (mCons (mC (.str "v0")) (mCons (mC (.str "B")) (mCons (mC (.str "b")) mNil)))))) mNil)))) (asgD 11))
  (mSeq (mAsg (mIf (mAnd (mTru (mVar 8)) (mAsB (mOp2 fGt (mCallB f_d_law_take (mCons (mVar 0) (mCons (mC (.int 3)) mNil))) (mC (.int 0))))) (mCallB f_d_law_pick (mCons (mVar 0) (mCons (mVar 8) mNil))) (mTup (mCons (mC (.str "value")) (mCons (mVar 11) mNil)))) (asgD 12))
  (mAppend 6 (mCallB f_d_law_pick (mCons (mVar 0) (mCons (mLst (mCons (mTup (mCons (mC (.str "r")) (mCons (mVar 7) (mCons (mVar 12) mNil)))) (mCons (mTup (mCons (mC (.str "w")) (mCons (mVar 7) (mCons (mVar 12) mNil)))) (mCons (mTup (mCons (mC (.str "a")) (mCons (mVar 7) mNil))) mNil)))) mNil))))))))
def L_d_law_drawn_4 : MS := (mFor (mRng1 (mOp2 fPlus (mC (.int 1)) (mCallB f_d_law_take (mCons (mVar 0) (mCons (mC (.int 6)) mNil))))) (asgD 5) B_d_law_drawn_3)
def E_d_law_drawn_5 : M Vw := (mCallB f_d_law_pick (mCons (mVar 0) (mCons (mLst (mCons (mC (.str "int")) (mCons (mC (.str "text")) (mCons (mC (.str "int")) (mCons (mC (.str "bool")) mNil))))) mNil)))
def T_d_law_drawn_6 : M Bool := (mRet true)
def L_d_law_drawn_7 : M Vw := (mLc (mRng1 (mCallB f_d_law_take (mCons (mVar 0) (mCons (mC (.int 4)) mNil)))) (asgD 5) T_d_law_drawn_6 E_d_law_drawn_5 [5])
def B_d_law_drawn_8 : MS := (mSeq (mAsg (mOp1 fTupleOf L_d_law_drawn_7) (asgD 4))
  (mSeq (mNewL mNil 6)
  (mSeq L_d_law_drawn_4
  (mAppend 2 (mTup (mCons (mOp2 fPlus (mC (.str "p")) (mOp1 fStrOf (mVar 3))) (mCons (mVar 4) (mCons (mOp1 fTupleOf (mVar 6)) mNil))))))))
def L_d_law_drawn_9 : MS := (mFor (mRng1 (mOp2 fPlus (mC (.int 1)) (mCallB f_d_law_take (mCons (mVar 0) (mCons (mC (.int 3)) mNil))))) (asgD 3) B_d_law_drawn_8)
def m_d_law_drawn : MS := (mSeq (mNewDk 1 [(.inr "t", .str "int"), (.inr "u", .str "int"), (.inr "v", .str "text")])
  (mSeq (mNewL mNil 2)
  (mSeq L_d_law_drawn_9
  (mRetS (mOp1 fTupleOf (mVar 2))))))
def f_d_law_drawn : O → List D → Option (D × O) := runB 1 13 m_d_law_drawn
theorem ok_d_law_drawn {f : Addr} {fd : FuncData} (F : Def1 K mg "_law_drawn" s_d_law_drawn ["box"] f fd) (T : Blt mg) (C_d_law_take : CalD P w K mg base 1 "_law_take" ["box", "m"] (spB K f_d_law_take)) (C_d_law_pick : CalD P w K mg base 2 "_law_pick" ["box", "menu"] (spB K f_d_law_pick)) : CalD P w K mg base 3 "_law_drawn" ["box"] (spB K f_d_law_drawn) :=
  calB F sc_d_law_drawn (by decide) fun cdv A outer s H E hr => ⟨_, (qss_cons (qs_newDk 1 sc_d_law_drawn.nd (qps_cons (ky := .inr "t") qc_str qc_str (qps_cons (ky := .inr "u") qc_str qc_str (qps_cons (ky := .inr "v") qc_str qc_str qps_nil))))
  (qss_cons (qs_newL 2 sc_d_law_drawn.nd qa_nil)
  (qss_cons (qs_for PassesOwn.never rfl (qi_range1 (by rfl) T.range (qe_op op_plus os_plus qe_int (qe_callBD C_d_law_take (hr.mono (by decide)) (qa_cons (qe_var 0) (qa_cons qe_int qa_nil))))) (qg_name 3 sc_d_law_drawn.nd) (qss_cons (qs_set 4 sc_d_law_drawn.nd (qe_callT1 call_tuple_of cs_tuple (by rfl) T.tuple bb_tuple (qe_lc (own := [("k", 5)]) rfl sc_d_law_drawn.nd (qi_range1 (by rfl) T.range (qe_callBD C_d_law_take (hr.mono (by decide)) (qa_cons (qe_var 0) (qa_cons qe_int qa_nil)))) (show BlkOk N_d_law_drawn (defScope s_d_law_drawn) _ _ from blkOk_by (by decide +kernel)) (fun _ _ _ _ _ => (qg_name 5 sc_d_law_drawn.nd)) (fun _ _ _ _ _ => qts_nil) (fun _ _ _ _ _ => (qe_callBDk (K := K) rfl C_d_law_pick (hr.mono (by decide)) (qa_cons (qe_var 0) (qa_cons (qe_lst (qa_cons qe_str (qa_cons qe_str (qa_cons qe_str (qa_cons qe_str qa_nil))))) qa_nil)))))))
  (qss_cons (qs_newL 6 sc_d_law_drawn.nd qa_nil)
  (qss_cons (qs_for PassesOwn.never rfl (qi_range1 (by rfl) T.range (qe_op op_plus os_plus qe_int (qe_callBD C_d_law_take (hr.mono (by decide)) (qa_cons (qe_var 0) (qa_cons qe_int qa_nil))))) (qg_name 5 sc_d_law_drawn.nd) (qss_cons (qs_set 7 sc_d_law_drawn.nd (qe_callBD C_d_law_pick (hr.mono (by decide)) (qa_cons (qe_var 0) (qa_cons (qe_lst (qa_cons qe_str (qa_cons qe_str (qa_cons qe_str qa_nil)))) qa_nil))))
  (qss_cons (qs_setLc 8 (own := [("i", 9), ("kind", 10)]) rfl sc_d_law_drawn.nd (qi_enumT (by rfl) T.enumerate (qe_var 4)) (show BlkOk N_d_law_drawn (defScope s_d_law_drawn) _ _ from blkOk_by (by decide +kernel)) (fun _ _ _ _ _ => (qg_tupk (K := K) rfl rfl (qgs_cons (qg_name 9 sc_d_law_drawn.nd) (qgs_cons (qg_name 10 sc_d_law_drawn.nd) qgs_nil)))) (fun _ _ _ _ _ => (qts_one (qt_cmp (k_eq (K := K) rfl (u64 hr)) os_eq (qe_var 10) (qe_dget 1 (u1 hr) (qe_var 7))))) (fun _ _ _ _ _ => (qe_tup (qa_cons qe_str (qa_cons (qe_var 9) qa_nil)))))
  (qss_cons (qs_set 11 sc_d_law_drawn.nd (qe_if (qt_cmp (op_eqD (u64 hr)) os_eq (qe_dget 1 (u1 hr) (qe_var 7)) qe_str) (qe_callBD C_d_law_pick (hr.mono (by decide)) (qa_cons (qe_var 0) (qa_cons (qe_lst (qa_cons qe_int (qa_cons qe_int (qa_cons (qe_un un_neg us_neg qe_int) (qa_cons (qe_op op_pow os_pow qe_int qe_int) (qa_cons qe_int qa_nil)))))) qa_nil))) (qe_callBD C_d_law_pick (hr.mono (by decide)) (qa_cons (qe_var 0) (qa_cons (qe_lst (qa_cons qe_str (qa_cons qe_str (qa_cons qe_str (qa_cons qe_str (qa_cons qe_str qa_nil)))))) qa_nil)))))
  (qss_cons (qs_set 12 sc_d_law_drawn.nd (qe_if (qw_and (qt_truth (qe_var 8)) (qw_and1 (qt_cmp op_gt os_gt (qe_callBD C_d_law_take (hr.mono (by decide)) (qa_cons (qe_var 0) (qa_cons qe_int qa_nil))) qe_int))).qt (qe_callBD C_d_law_pick (hr.mono (by decide)) (qa_cons (qe_var 0) (qa_cons (qe_var 8) qa_nil))) (qe_tup (qa_cons qe_str (qa_cons (qe_var 11) qa_nil)))))
  (qss_one (qs_append 6 (qe_callBD C_d_law_pick (hr.mono (by decide)) (qa_cons (qe_var 0) (qa_cons (qe_lst (qa_cons (qe_tup (qa_cons qe_str (qa_cons (qe_var 7) (qa_cons (qe_var 12) qa_nil)))) (qa_cons (qe_tup (qa_cons qe_str (qa_cons (qe_var 7) (qa_cons (qe_var 12) qa_nil)))) (qa_cons (qe_tup (qa_cons qe_str (qa_cons (qe_var 7) qa_nil))) qa_nil)))) qa_nil))))))))))
  (qss_one (qs_append 2 (qe_tup (qa_cons (qe_op op_plus os_plus qe_str (qe_callT1 call_str_int cs_str (by rfl) T.str bb_str (qe_var 3))) (qa_cons (qe_var 4) (qa_cons (qe_callT1 call_tuple_of cs_tuple (by rfl) T.tuple bb_tuple (qe_var 6)) qa_nil))))))))))
  (qss_one (qs_ret (qe_callT1 call_tuple_of cs_tuple (by rfl) T.tuple bb_tuple (qe_var 2)))))))⟩
abbrev s_d_literals : Stmt := top 1
abbrev N_d_literals : List Str := ["shapes", "kind", "found", "shape", "entry", "value"]
theorem sc_d_literals : FnScope N_d_literals ["shapes", "kind"] (defScope s_d_literals) := ⟨rfl, rfl, rfl, by decide +kernel, rfl, by decide +kernel, by decide +kernel⟩
def B_d_literals_0 : MS := (mSeq (mIfS (mOr (mAsB (mOp2 fEq (mOp2 fIx (mVar 4) (mC (.int 0))) (mC (.str "a")))) (mAsB (mOp2 fEq (mOp2 fIx (mOp2 fIx (mVar 4) (mC (.int 2))) (mC (.int 0))) (mC (.str "param"))))) mCont mSkip)
  (mSeq (mAsg (mOp2 fIx (mOp2 fIx (mVar 4) (mC (.int 2))) (mC (.int 1))) (asgD 5))
  (mIfS (mAnd (mAsB (mOp2 fEq (mOp1 (fIsi isStr) (mVar 5)) (mOp2 fEq (mVar 1) (mC (.str "text"))))) (mAsB (mOp2 fNotInS (mVar 5) (mVar 2)))) (mAppend 2 (mVar 5)) mSkip)))
def L_d_literals_1 : MS := (mFor (mSeqT (mOp2 fIx (mVar 3) (mC (.int 2)))) (asgD 4) B_d_literals_0)
def B_d_literals_2 : MS := L_d_literals_1
def L_d_literals_3 : MS := (mFor (mSeqT (mVar 0)) (asgD 3) B_d_literals_2)
def m_d_literals : MS := (mSeq (mNewL mNil 2)
  (mSeq L_d_literals_3
  (mRetS (mOp1 fTupleOf (mOp1 fSort (mVar 2))))))
def f_d_literals : List D → Option D := runP 2 6 m_d_literals
theorem ok_d_literals {f : Addr} {fd : FuncData} (F : Def1 K mg "literals" s_d_literals ["shapes", "kind"] f fd) (T : Blt mg)  : CalD P w K mg base 1 "literals" ["shapes", "kind"] (spP K f_d_literals) :=
  calP F sc_d_literals (by decide) fun cdv A outer s H E hr => ⟨_, (qss_cons (qs_newL 2 sc_d_literals.nd qa_nil)
  (qss_cons (qs_for PassesOwn.never rfl (qi_tup (qe_var 0)) (qg_name 3 sc_d_literals.nd) (qss_one (qs_for PassesOwn.never rfl (qi_tup (qe_ix ix_seq os_ix (qe_var 3) qe_int)) (qg_name 4 sc_d_literals.nd) (qss_cons (qs_if (qw_or (qt_cmp (op_eqD (u64 hr)) os_eq (qe_ix ix_seq os_ix (qe_var 4) qe_int) qe_str) (qw_or1 (qt_cmp (op_eqD (u64 hr)) os_eq (qe_ix ix_seq os_ix (qe_ix ix_seq os_ix (qe_var 4) qe_int) qe_int) qe_str))).qt (qss_one qs_continue) qss_nil)
  (qss_cons (qs_set 5 sc_d_literals.nd (qe_ix ix_seq os_ix (qe_ix ix_seq os_ix (qe_var 4) qe_int) qe_int))
  (qss_one (qs_if (qw_and (qt_cmp (op_eqD (u64 hr)) os_eq (qe_isi isi_str (by rfl) T.isinstance (by rfl) T.str bb_str (qe_var 5)) (qe_cmp (op_eqD (u64 hr)) os_eq (qe_var 1) qe_str)) (qw_and1 (qt_cmp (op_notInS' (u65 hr)) os_notInS (qe_var 5) (qe_var 2)))).qt (qss_one (qs_append 2 (qe_var 5))) qss_nil)))))))
  (qss_one (qs_ret (qe_callT1 call_tuple_of cs_tuple (by rfl) T.tuple bb_tuple (qe_callB1 (cr_sortedI.or cr_sortedS) cs_sort (by rfl) T.sorted bb_sorted (qe_var 2)))))))⟩
abbrev s_d_named : Stmt := top 2
abbrev N_d_named : List Str := ["shape", "out", "entry"]
theorem sc_d_named : FnScope N_d_named ["shape"] (defScope s_d_named) := ⟨rfl, rfl, rfl, by decide +kernel, rfl, by decide +kernel, by decide +kernel⟩
def B_d_named_0 : MS := (mIfS (mAnd (mAsB (mOp2 fNe (mOp2 fIx (mVar 2) (mC (.int 0))) (mC (.str "a")))) (mAnd (mAsB (mOp2 fEq (mOp2 fIx (mOp2 fIx (mVar 2) (mC (.int 2))) (mC (.int 0))) (mC (.str "param")))) (mAsB (mOp2 fNotInS (mOp2 fIx (mOp2 fIx (mVar 2) (mC (.int 2))) (mC (.int 1))) (mVar 1))))) (mAppend 1 (mOp2 fIx (mOp2 fIx (mVar 2) (mC (.int 2))) (mC (.int 1)))) mSkip)
def L_d_named_1 : MS := (mFor (mSeqT (mOp2 fIx (mVar 0) (mC (.int 2)))) (asgD 2) B_d_named_0)
def m_d_named : MS := (mSeq (mNewL mNil 1)
  (mSeq L_d_named_1
  (mRetS (mOp1 fTupleOf (mOp1 fSort (mVar 1))))))
def f_d_named : List D → Option D := runP 1 3 m_d_named
theorem ok_d_named {f : Addr} {fd : FuncData} (F : Def1 K mg "named" s_d_named ["shape"] f fd) (T : Blt mg)  : CalD P w K mg base 1 "named" ["shape"] (spP K f_d_named) :=
  calP F sc_d_named (by decide) fun cdv A outer s H E hr => ⟨_, (qss_cons (qs_newL 1 sc_d_named.nd qa_nil)
  (qss_cons (qs_for PassesOwn.never rfl (qi_tup (qe_ix ix_seq os_ix (qe_var 0) qe_int)) (qg_name 2 sc_d_named.nd) (qss_one (qs_if (qw_and (qt_cmp (op_neD (u64 hr)) os_ne (qe_ix ix_seq os_ix (qe_var 2) qe_int) qe_str) (qw_and (qt_cmp (op_eqD (u64 hr)) os_eq (qe_ix ix_seq os_ix (qe_ix ix_seq os_ix (qe_var 2) qe_int) qe_int) qe_str) (qw_and1 (qt_cmp (op_notInS' (u65 hr)) os_notInS (qe_ix ix_seq os_ix (qe_ix ix_seq os_ix (qe_var 2) qe_int) qe_int) (qe_var 1))))).qt (qss_one (qs_append 1 (qe_ix ix_seq os_ix (qe_ix ix_seq os_ix (qe_var 2) qe_int) qe_int))) qss_nil)))
  (qss_one (qs_ret (qe_callT1 call_tuple_of cs_tuple (by rfl) T.tuple bb_tuple (qe_callB1 (cr_sortedI.or cr_sortedS) cs_sort (by rfl) T.sorted bb_sorted (qe_var 1)))))))⟩
abbrev s_d_first_signs : Stmt := top 3
abbrev N_d_first_signs : List Str := ["shapes", "shape", "choice", "params", "place", "keys", "out", "classes", "sign", "at", "value"]
theorem sc_d_first_signs : FnScope N_d_first_signs ["shapes", "shape", "choice"] (defScope s_d_first_signs) := ⟨rfl, rfl, rfl, by decide +kernel, rfl, by decide +kernel, by decide +kernel⟩
def B_d_first_signs_0 : MS := (mAppend 6 (mTup (mCons (mC (.int 1)) (mCons (mVar 10) mNil))))
def L_d_first_signs_1 : MS := (mFor (mSeqT (mCall f_d_literals (mCons (mVar 0) (mCons (mOp2 fIx (mVar 3) (mVar 4)) mNil)))) (asgD 10) B_d_first_signs_0)
def B_d_first_signs_2 : MS := (mIfS (mAnd (mAsB (mOp2 fInS (mVar 9) (mVar 5))) (mAnd (mAsB (mOp2 fEq (mOp2 fIx (mVar 8) (mC (.int 0))) (mC (.int 0)))) (mAnd (mAsB (mOp2 fEq (mOp2 fIx (mVar 3) (mVar 9)) (mOp2 fIx (mVar 3) (mVar 4)))) (mAsB (mOp2 fNotInS (mVar 8) (mVar 6)))))) (mAppend 6 (mVar 8)) mSkip)
def L_d_first_signs_3 : MS := (mFor (mEnumT (mVar 2)) (gmTup 2 (gmCons (asgD 9) (gmCons (asgD 8) gmNil))) B_d_first_signs_2)
def E_d_first_signs_4 : M Vw := (mOp2 fIx (mVar 8) (mC (.int 1)))
def T_d_first_signs_5 : M Bool := (mAsB (mOp2 fEq (mOp2 fIx (mVar 8) (mC (.int 0))) (mC (.int 0))))
def L_d_first_signs_6 : M Vw := (mLc (mSeqT (mVar 2)) (asgD 8) T_d_first_signs_5 E_d_first_signs_4 [8])
def m_d_first_signs : MS := (mSeq (mAsg (mOp2 fIx (mVar 1) (mC (.int 1))) (asgD 3))
  (mSeq (mAsg (mOp1 fLen (mVar 2)) (asgD 4))
  (mSeq (mAsg (mCall f_d_named (mCons (mVar 1) mNil)) (asgD 5))
  (mSeq (mNewL mNil 6)
  (mSeq (mAsg L_d_first_signs_6 (asgD 7))
  (mSeq (mIfS (mAsB (mOp2 fInS (mVar 4) (mVar 5))) L_d_first_signs_3 mSkip)
  (mSeq (mAppend 6 (mTup (mCons (mC (.int 0)) (mCons (mIf (mTru (mVar 7)) (mOp2 fPlus (mOp1 fMax (mVar 7)) (mC (.int 1))) (mC (.int 0))) mNil))))
  (mSeq (mIfS (mAsB (mOp2 fInS (mVar 4) (mVar 5))) L_d_first_signs_1 mSkip)
  (mRetS (mVar 6))))))))))
def f_d_first_signs : List D → Option D := runP 3 11 m_d_first_signs
theorem ok_d_first_signs {f : Addr} {fd : FuncData} (F : Def1 K mg "_first_signs" s_d_first_signs ["shapes", "shape", "choice"] f fd) (T : Blt mg) (C_d_named : CalD P w K mg base 1 "named" ["shape"] (spP K f_d_named)) (C_d_literals : CalD P w K mg base 1 "literals" ["shapes", "kind"] (spP K f_d_literals)) : CalD P w K mg base 2 "_first_signs" ["shapes", "shape", "choice"] (spP K f_d_first_signs) :=
  calP F sc_d_first_signs (by decide) fun cdv A outer s H E hr => ⟨_, (qss_cons (qs_set 3 sc_d_first_signs.nd (qe_ix ix_seq os_ix (qe_var 1) qe_int))
  (qss_cons (qs_set 4 sc_d_first_signs.nd (qe_callB1 call_len cs_len (by rfl) T.len bb_len (qe_var 2)))
  (qss_cons (qs_set 5 sc_d_first_signs.nd (qe_callD C_d_named (hr.mono (by decide)) (qa_cons (qe_var 1) qa_nil)))
  (qss_cons (qs_newL 6 sc_d_first_signs.nd qa_nil)
  (qss_cons (qs_setLc 7 (own := [("sign", 8)]) rfl sc_d_first_signs.nd (qi_tup (qe_var 2)) (show BlkOk N_d_first_signs (defScope s_d_first_signs) _ _ from blkOk_by (by decide +kernel)) (fun _ _ _ _ _ => (qg_name 8 sc_d_first_signs.nd)) (fun _ _ _ _ _ => (qts_one (qt_cmp (k_eq (K := K) rfl (u64 hr)) os_eq (qe_ix (k_ix (K := K) rfl) os_ix (qe_var 8) qe_int) qe_int))) (fun _ _ _ _ _ => (qe_ix (k_ix (K := K) rfl) os_ix (qe_var 8) qe_int)))
  (qss_cons (qs_if (qt_cmp (op_inS' (u65 hr)) os_inS (qe_var 4) (qe_var 5)) (qss_one (qs_for PassesOwn.never rfl (qi_enumT (by rfl) T.enumerate (qe_var 2)) (qg_tup rfl (qgs_cons (qg_name 9 sc_d_first_signs.nd) (qgs_cons (qg_name 8 sc_d_first_signs.nd) qgs_nil))) (qss_one (qs_if (qw_and (qt_cmp (op_inS' (u65 hr)) os_inS (qe_var 9) (qe_var 5)) (qw_and (qt_cmp (op_eqD (u64 hr)) os_eq (qe_ix ix_seq os_ix (qe_var 8) qe_int) qe_int) (qw_and (qt_cmp (op_eqD (u64 hr)) os_eq (qe_ix ix_seq os_ix (qe_var 3) (qe_var 9)) (qe_ix ix_seq os_ix (qe_var 3) (qe_var 4))) (qw_and1 (qt_cmp (op_notInS' (u65 hr)) os_notInS (qe_var 8) (qe_var 6)))))).qt (qss_one (qs_append 6 (qe_var 8))) qss_nil)))) qss_nil)
  (qss_cons (qs_append 6 (qe_tup (qa_cons qe_int (qa_cons (qe_if (qt_truth (qe_var 7)) (qe_op op_plus os_plus (qe_callB1 (cr_max rfl) cs_max (by rfl) T.max bb_max (qe_var 7)) qe_int) qe_int) qa_nil))))
  (qss_cons (qs_if (qt_cmp (op_inS' (u65 hr)) os_inS (qe_var 4) (qe_var 5)) (qss_one (qs_for PassesOwn.never rfl (qi_tup (qe_callD C_d_literals (hr.mono (by decide)) (qa_cons (qe_var 0) (qa_cons (qe_ix ix_seq os_ix (qe_var 3) (qe_var 4)) qa_nil)))) (qg_name 10 sc_d_first_signs.nd) (qss_one (qs_append 6 (qe_tup (qa_cons qe_int (qa_cons (qe_var 10) qa_nil))))))) qss_nil)
  (qss_one (qs_ret (qe_var 6)))))))))))⟩
abbrev s_d_choices : Stmt := top 4
abbrev N_d_choices : List Str := ["shapes", "place", "shape", "out", "_at", "longer", "choice", "sign"]
theorem sc_d_choices : FnScope N_d_choices ["shapes", "place"] (defScope s_d_choices) := ⟨rfl, rfl, rfl, by decide +kernel, rfl, by decide +kernel, by decide +kernel⟩
def B_d_choices_0 : MS := (mAppend 5 (mOp2 fPlus (mVar 6) (mTup (mCons (mVar 7) mNil))))
def L_d_choices_1 : MS := (mFor (mSeqL (mCall f_d_first_signs (mCons (mVar 0) (mCons (mVar 2) (mCons (mVar 6) mNil))))) (asgD 7) B_d_choices_0)
def B_d_choices_2 : MS := L_d_choices_1
def L_d_choices_3 : MS := (mFor (mSeqL (mVar 3)) (asgD 6) B_d_choices_2)
def B_d_choices_4 : MS := (mSeq (mNewL mNil 5)
  (mSeq L_d_choices_3
  (mAsg (mVar 5) (asgD 3))))
def L_d_choices_5 : MS := (mFor (mSeqT (mOp2 fIx (mVar 2) (mC (.int 1)))) (asgD 4) B_d_choices_4)
def m_d_choices : MS := (mSeq (mAsg (mOp2 fIx (mVar 0) (mVar 1)) (asgD 2))
  (mSeq (mAsg (mLst (mCons (mTup mNil) mNil)) (asgD 3))
  (mSeq L_d_choices_5
  (mRetS (mOp1 fTupleOf (mVar 3))))))
def f_d_choices : List D → Option D := runP 2 8 m_d_choices
theorem ok_d_choices {f : Addr} {fd : FuncData} (F : Def1 K mg "choices" s_d_choices ["shapes", "place"] f fd) (T : Blt mg) (C_d_first_signs : CalD P w K mg base 2 "_first_signs" ["shapes", "shape", "choice"] (spP K f_d_first_signs)) : CalD P w K mg base 3 "choices" ["shapes", "place"] (spP K f_d_choices) :=
  calP F sc_d_choices (by decide) fun cdv A outer s H E hr => ⟨_, (qss_cons (qs_set 2 sc_d_choices.nd (qe_ix ix_seq os_ix (qe_var 0) (qe_var 1)))
  (qss_cons (qs_set 3 sc_d_choices.nd (qe_lst (qa_cons (qe_tup qa_nil) qa_nil)))
  (qss_cons (qs_for PassesOwn.never rfl (qi_tup (qe_ix ix_seq os_ix (qe_var 2) qe_int)) (qg_name 4 sc_d_choices.nd) (qss_cons (qs_newL 5 sc_d_choices.nd qa_nil)
  (qss_cons (qs_for PassesOwn.never rfl (qi_list (qe_var 3)) (qg_name 6 sc_d_choices.nd) (qss_one (qs_for PassesOwn.never rfl (qi_list (qe_callD C_d_first_signs (hr.mono (by decide)) (qa_cons (qe_var 0) (qa_cons (qe_var 2) (qa_cons (qe_var 6) qa_nil))))) (qg_name 7 sc_d_choices.nd) (qss_one (qs_append 5 (qe_op op_plus os_plus (qe_var 6) (qe_tup (qa_cons (qe_var 7) qa_nil))))))))
  (qss_one (qs_set 3 sc_d_choices.nd (qe_var 5))))))
  (qss_one (qs_ret (qe_callT1 call_tuple_of cs_tuple (by rfl) T.tuple bb_tuple (qe_var 3)))))))⟩
abbrev s_d_law_values : Stmt := top 10
abbrev N_d_law_values : List Str := ["shapes", "kind", "found", "shape", "entry"]
theorem sc_d_law_values : FnScope N_d_law_values ["shapes", "kind"] (defScope s_d_law_values) := ⟨rfl, rfl, rfl, by decide +kernel, rfl, by decide +kernel, by decide +kernel⟩
def B_d_law_values_0 : MS := (mIfS (mAnd (mAsB (mOp2 fNe (mOp2 fIx (mVar 4) (mC (.int 0))) (mC (.str "a")))) (mAnd (mAsB (mOp2 fEq (mOp2 fIx (mOp2 fIx (mVar 4) (mC (.int 2))) (mC (.int 0))) (mC (.str "value")))) (mAsB (mOp2 fEq (mOp1 (fIsi isStr) (mOp2 fIx (mOp2 fIx (mVar 4) (mC (.int 2))) (mC (.int 1)))) (mOp2 fEq (mVar 1) (mC (.str "text"))))))) (mAppend 2 (mOp2 fIx (mOp2 fIx (mVar 4) (mC (.int 2))) (mC (.int 1)))) mSkip)
def L_d_law_values_1 : MS := (mFor (mSeqT (mOp2 fIx (mVar 3) (mC (.int 2)))) (asgD 4) B_d_law_values_0)
def B_d_law_values_2 : MS := L_d_law_values_1
def L_d_law_values_3 : MS := (mFor (mSeqT (mVar 0)) (asgD 3) B_d_law_values_2)
def m_d_law_values : MS := (mSeq (mNewL mNil 2)
  (mSeq L_d_law_values_3
  (mRetS (mOp1 fSortSet (mVar 2)))))
def f_d_law_values : List D → Option D := runP 2 5 m_d_law_values
theorem ok_d_law_values {f : Addr} {fd : FuncData} (F : Def1 K mg "_law_values" s_d_law_values ["shapes", "kind"] f fd) (T : Blt mg)  : CalD P w K mg base 1 "_law_values" ["shapes", "kind"] (spP K f_d_law_values) :=
  calP F sc_d_law_values (by decide) fun cdv A outer s H E hr => ⟨_, (qss_cons (qs_newL 2 sc_d_law_values.nd qa_nil)
  (qss_cons (qs_for PassesOwn.never rfl (qi_tup (qe_var 0)) (qg_name 3 sc_d_law_values.nd) (qss_one (qs_for PassesOwn.never rfl (qi_tup (qe_ix ix_seq os_ix (qe_var 3) qe_int)) (qg_name 4 sc_d_law_values.nd) (qss_one (qs_if (qw_and (qt_cmp (op_neD (u64 hr)) os_ne (qe_ix ix_seq os_ix (qe_var 4) qe_int) qe_str) (qw_and (qt_cmp (op_eqD (u64 hr)) os_eq (qe_ix ix_seq os_ix (qe_ix ix_seq os_ix (qe_var 4) qe_int) qe_int) qe_str) (qw_and1 (qt_cmp (op_eqD (u64 hr)) os_eq (qe_isi isi_str (by rfl) T.isinstance (by rfl) T.str bb_str (qe_ix ix_seq os_ix (qe_ix ix_seq os_ix (qe_var 4) qe_int) qe_int)) (qe_cmp (op_eqD (u64 hr)) os_eq (qe_var 1) qe_str))))).qt (qss_one (qs_append 2 (qe_ix ix_seq os_ix (qe_ix ix_seq os_ix (qe_var 4) qe_int) qe_int))) qss_nil)))))
  (qss_one (qs_ret (qe_callBT ((cr_sortXI rfl).or (cr_sortXS rfl)) (cr_setX rfl) cs_sortSet (by rfl) T.sorted bb_sorted (by rfl) T.set bb_set (qe_var 2))))))⟩
abbrev s_d_law_options : Stmt := top 11
abbrev N_d_law_options : List Str := ["shapes", "shape", "row", "at", "keys", "entry", "numbers", "sign", "least", "n", "old", "k", "value"]
theorem sc_d_law_options : FnScope N_d_law_options ["shapes", "shape", "row"] (defScope s_d_law_options) := ⟨rfl, rfl, rfl, by decide +kernel, rfl, by decide +kernel, by decide +kernel⟩
def E_d_law_options_0 : M Vw := (mTup (mCons (mC (.int 1)) (mCons (mVar 12) mNil)))
def T_d_law_options_1 : M Bool := (mRet true)
def L_d_law_options_2 : M Vw := (mLc (mSeqL (mCall f_d_law_values (mCons (mVar 0) (mCons (mOp2 fIx (mOp2 fIx (mVar 1) (mC (.int 1))) (mVar 3)) mNil)))) (asgD 12) T_d_law_options_1 E_d_law_options_0 [12])
def E_d_law_options_3 : M Vw := (mOp2 fIx (mVar 2) (mVar 11))
def T_d_law_options_4 : M Bool := (mAnd (mAsB (mOp2 fInS (mVar 11) (mVar 4))) (mAnd (mAsB (mOp2 fEq (mOp2 fIx (mOp2 fIx (mVar 1) (mC (.int 1))) (mVar 11)) (mOp2 fIx (mOp2 fIx (mVar 1) (mC (.int 1))) (mVar 3)))) (mAsB (mOp2 fEq (mOp2 fIx (mOp2 fIx (mVar 2) (mVar 11)) (mC (.int 0))) (mC (.int 0))))))
def L_d_law_options_5 : M Vw := (mLc (mRng1 (mVar 3)) (asgD 11) T_d_law_options_4 E_d_law_options_3 [11])
def E_d_law_options_6 : M Vw := (mVar 9)
def T_d_law_options_7 : M Bool := (mAsB (mOp2 fNotInS (mVar 9) (mVar 6)))
def L_d_law_options_8 : M Vw := (mLc (mRng1 (mOp2 fPlus (mOp1 fLen (mVar 2)) (mC (.int 1)))) (asgD 9) T_d_law_options_7 E_d_law_options_6 [9])
def E_d_law_options_9 : M Vw := (mOp2 fIx (mVar 7) (mC (.int 1)))
def T_d_law_options_10 : M Bool := (mAsB (mOp2 fEq (mOp2 fIx (mVar 7) (mC (.int 0))) (mC (.int 0))))
def L_d_law_options_11 : M Vw := (mLc (mSeqT (mVar 2)) (asgD 7) T_d_law_options_10 E_d_law_options_9 [7])
def E_d_law_options_12 : M Vw := (mOp2 fIx (mOp2 fIx (mVar 5) (mC (.int 2))) (mC (.int 1)))
def T_d_law_options_13 : M Bool := (mAnd (mAsB (mOp2 fNe (mOp2 fIx (mVar 5) (mC (.int 0))) (mC (.str "a")))) (mAsB (mOp2 fEq (mOp2 fIx (mOp2 fIx (mVar 5) (mC (.int 2))) (mC (.int 0))) (mC (.str "param")))))
def L_d_law_options_14 : M Vw := (mLc (mSeqT (mOp2 fIx (mVar 1) (mC (.int 2)))) (asgD 5) T_d_law_options_13 E_d_law_options_12 [5])
def m_d_law_options : MS := (mSeq (mAsg (mOp1 fLen (mVar 2)) (asgD 3))
  (mSeq (mAsg L_d_law_options_14 (asgD 4))
  (mSeq (mAsg L_d_law_options_11 (asgD 6))
  (mSeq (mAsg (mOp2 fIx L_d_law_options_8 (mC (.int 0))) (asgD 8))
  (mSeq (mIfS (mAsB (mOp2 fNotInS (mVar 3) (mVar 4))) (mRetS (mLst (mCons (mTup (mCons (mC (.int 0)) (mCons (mVar 8) mNil))) mNil))) mSkip)
  (mSeq (mAsg L_d_law_options_5 (asgD 10))
  (mRetS (mOp2 fPlus (mOp1 fSortSetP (mOp2 fPlus (mVar 10) (mLst (mCons (mTup (mCons (mC (.int 0)) (mCons (mVar 8) mNil))) mNil)))) L_d_law_options_2))))))))
def f_d_law_options : List D → Option D := runP 3 13 m_d_law_options
theorem ok_d_law_options {f : Addr} {fd : FuncData} (F : Def1 K mg "_law_options" s_d_law_options ["shapes", "shape", "row"] f fd) (T : Blt mg) (C_d_law_values : CalD P w K mg base 1 "_law_values" ["shapes", "kind"] (spP K f_d_law_values)) : CalD P w K mg base 2 "_law_options" ["shapes", "shape", "row"] (spP K f_d_law_options) :=
  calP F sc_d_law_options (by decide) fun cdv A outer s H E hr => ⟨_, (qss_cons (qs_set 3 sc_d_law_options.nd (qe_callB1 call_len cs_len (by rfl) T.len bb_len (qe_var 2)))
  (qss_cons (qs_set 4 sc_d_law_options.nd (qe_lc (own := [("entry", 5)]) rfl sc_d_law_options.nd (qi_tup (qe_ix ix_seq os_ix (qe_var 1) qe_int)) (show BlkOk N_d_law_options (defScope s_d_law_options) _ _ from blkOk_by (by decide +kernel)) (fun _ _ _ _ _ => (qg_name 5 sc_d_law_options.nd)) (fun _ _ _ _ _ => (qts_one (qw_and (qt_cmp (k_ne (K := K) rfl (u64 hr)) os_ne (qe_ix (k_ix (K := K) rfl) os_ix (qe_var 5) qe_int) qe_str) (qw_and1 (qt_cmp (k_eq (K := K) rfl (u64 hr)) os_eq (qe_ix (k_ix (K := K) rfl) os_ix (qe_ix (k_ix (K := K) rfl) os_ix (qe_var 5) qe_int) qe_int) qe_str))).qt)) (fun _ _ _ _ _ => (qe_ix (k_ix (K := K) rfl) os_ix (qe_ix (k_ix (K := K) rfl) os_ix (qe_var 5) qe_int) qe_int))))
  (qss_cons (qs_set 6 sc_d_law_options.nd (qe_lc (own := [("sign", 7)]) rfl sc_d_law_options.nd (qi_tup (qe_var 2)) (show BlkOk N_d_law_options (defScope s_d_law_options) _ _ from blkOk_by (by decide +kernel)) (fun _ _ _ _ _ => (qg_name 7 sc_d_law_options.nd)) (fun _ _ _ _ _ => (qts_one (qt_cmp (k_eq (K := K) rfl (u64 hr)) os_eq (qe_ix (k_ix (K := K) rfl) os_ix (qe_var 7) qe_int) qe_int))) (fun _ _ _ _ _ => (qe_ix (k_ix (K := K) rfl) os_ix (qe_var 7) qe_int))))
  (qss_cons (qs_set 8 sc_d_law_options.nd (qe_ix ix_seq os_ix (qe_lc (own := [("n", 9)]) rfl sc_d_law_options.nd (qi_range1 (by rfl) T.range (qe_op op_plus os_plus (qe_callB1 call_len cs_len (by rfl) T.len bb_len (qe_var 2)) qe_int)) (show BlkOk N_d_law_options (defScope s_d_law_options) _ _ from blkOk_by (by decide +kernel)) (fun _ _ _ _ _ => (qg_name 9 sc_d_law_options.nd)) (fun _ _ _ _ _ => (qts_one (qt_cmp (k_notIn (K := K) rfl (u65 hr)) os_notInS (qe_var 9) (qe_var 6)))) (fun _ _ _ _ _ => (qe_var 9))) qe_int))
  (qss_cons (qs_if (qt_cmp (op_notInS' (u65 hr)) os_notInS (qe_var 3) (qe_var 4)) (qss_one (qs_ret (qe_lst (qa_cons (qe_tup (qa_cons qe_int (qa_cons (qe_var 8) qa_nil))) qa_nil)))) qss_nil)
  (qss_cons (qs_setLc 10 (own := [("k", 11)]) rfl sc_d_law_options.nd (qi_range1 (by rfl) T.range (qe_var 3)) (show BlkOk N_d_law_options (defScope s_d_law_options) _ _ from blkOk_by (by decide +kernel)) (fun _ _ _ _ _ => (qg_name 11 sc_d_law_options.nd)) (fun _ _ _ _ _ => (qts_one (qw_and (qt_cmp (k_in (K := K) rfl (u65 hr)) os_inS (qe_var 11) (qe_var 4)) (qw_and (qt_cmp (k_eq (K := K) rfl (u64 hr)) os_eq (qe_ix (k_ix (K := K) rfl) os_ix (qe_ix (k_ix (K := K) rfl) os_ix (qe_var 1) qe_int) (qe_var 11)) (qe_ix (k_ix (K := K) rfl) os_ix (qe_ix (k_ix (K := K) rfl) os_ix (qe_var 1) qe_int) (qe_var 3))) (qw_and1 (qt_cmp (k_eq (K := K) rfl (u64 hr)) os_eq (qe_ix (k_ix (K := K) rfl) os_ix (qe_ix (k_ix (K := K) rfl) os_ix (qe_var 2) (qe_var 11)) qe_int) qe_int)))).qt)) (fun _ _ _ _ _ => (qe_ix (k_ix (K := K) rfl) os_ix (qe_var 2) (qe_var 11))))
  (qss_one (qs_ret (qe_op op_plus os_plus (qe_callBT (cr_sortedT rfl) (cr_setOfT rfl (u64 hr)) cs_sortSetP (by rfl) T.sorted bb_sorted (by rfl) T.set bb_set (qe_op op_plus os_plus (qe_var 10) (qe_lst (qa_cons (qe_tup (qa_cons qe_int (qa_cons (qe_var 8) qa_nil))) qa_nil)))) (qe_lc (own := [("value", 12)]) rfl sc_d_law_options.nd (qi_list (qe_callD C_d_law_values (hr.mono (by decide)) (qa_cons (qe_var 0) (qa_cons (qe_ix ix_seq os_ix (qe_ix ix_seq os_ix (qe_var 1) qe_int) (qe_var 3)) qa_nil)))) (show BlkOk N_d_law_options (defScope s_d_law_options) _ _ from blkOk_by (by decide +kernel)) (fun _ _ _ _ _ => (qg_name 12 sc_d_law_options.nd)) (fun _ _ _ _ _ => qts_nil) (fun _ _ _ _ _ => (qe_tup (qa_cons qe_int (qa_cons (qe_var 12) qa_nil))))))))))))))⟩
abbrev s_d_law : Stmt := top 12
abbrev N_d_law : List Str := ["script", "box", "shapes", "kind", "told", "place", "shape", "rows", "more", "row", "one"]
theorem sc_d_law : FnScope N_d_law ["script"] (defScope s_d_law) := ⟨rfl, rfl, rfl, by decide +kernel, rfl, by decide +kernel, by decide +kernel⟩
def E_d_law_0 : M Vw := (mOp2 fPlus (mVar 9) (mTup (mCons (mVar 10) mNil)))
def T_d_law_1 : M Bool := (mRet true)
def L_d_law_2 : M Vw := (mLc (mSeqL (mCall f_d_law_options (mCons (mVar 2) (mCons (mVar 6) (mCons (mVar 9) mNil))))) (asgD 10) T_d_law_1 E_d_law_0 [10])
def B_d_law_3 : MS := (mAsg (mOp2 fPlus (mVar 8) L_d_law_2) (asgD 8))
def L_d_law_4 : MS := (mFor (mSeqL (mVar 7)) (asgD 9) B_d_law_3)
def B_d_law_5 : MS := (mSeq (mAsg (mLst mNil) (asgD 8))
  (mSeq L_d_law_4
  (mAsg (mVar 8) (asgD 7))))
def L_d_law_6 : MS := (mFor (mSeqT (mOp2 fIx (mVar 6) (mC (.int 1)))) (asgD 3) B_d_law_5)
def B_d_law_7 : MS := (mSeq (mAsg (mLst (mCons (mTup mNil) mNil)) (asgD 7))
  (mSeq L_d_law_6
  (mSeq (mAsg (mCall f_d_choices (mCons (mVar 2) (mCons (mVar 5) mNil))) (asgD 4))
  (mIfS (mOr (mNot (mTru (mOp1 (fIsi isTup) (mVar 4)))) (mAsB (mOp2 fNe (mVar 4) (mOp1 fTupleOf (mVar 7))))) (mRetS (mC (.bool false))) mSkip))))
def L_d_law_8 : MS := (mFor (mEnumT (mVar 2)) (gmTup 2 (gmCons (asgD 5) (gmCons (asgD 6) gmNil))) B_d_law_7)
def B_d_law_9 : MS := (mSeq (mAsg (mCall f_d_literals (mCons (mVar 2) (mCons (mVar 3) mNil))) (asgD 4))
  (mIfS (mOr (mNot (mTru (mOp1 (fIsi isTup) (mVar 4)))) (mAsB (mOp2 fNe (mVar 4) (mOp1 fTupleOf (mCall f_d_law_values (mCons (mVar 2) (mCons (mVar 3) mNil))))))) (mRetS (mC (.bool false))) mSkip))
def L_d_law_10 : MS := (mFor (mSeqT (mTup (mCons (mC (.str "int")) (mCons (mC (.str "text")) mNil)))) (asgD 3) B_d_law_9)
def m_d_law : MS := (mSeq (mSetOc 1 f_d_law_box (mCons (mVar 0) mNil))
  (mSeq (mAsg (mCallB f_d_law_drawn (mCons (mVar 1) mNil)) (asgD 2))
  (mSeq L_d_law_10
  (mSeq L_d_law_8
  (mRetS (mC (.bool true)))))))
def f_d_law : List D → Option D := runP 1 11 m_d_law
theorem ok_d_law {f : Addr} {fd : FuncData} (F : Def1 K mg "law" s_d_law ["script"] f fd) (T : Blt mg) (C_d_law_box : CalD P w K mg base 1 "_law_box" ["script"] (spO K f_d_law_box)) (C_d_law_drawn : CalD P w K mg base 3 "_law_drawn" ["box"] (spB K f_d_law_drawn)) (C_d_literals : CalD P w K mg base 1 "literals" ["shapes", "kind"] (spP K f_d_literals)) (C_d_choices : CalD P w K mg base 3 "choices" ["shapes", "place"] (spP K f_d_choices)) (C_d_law_values : CalD P w K mg base 1 "_law_values" ["shapes", "kind"] (spP K f_d_law_values)) (C_d_law_options : CalD P w K mg base 2 "_law_options" ["shapes", "shape", "row"] (spP K f_d_law_options)) : FnOk P w K mg base CX0 4 f fd ["script"] (spP K f_d_law) :=
  fnP F.fn sc_d_law (by decide) fun cdv A outer s H E hr => ⟨_, (qss_cons (qs_setOc 1 C_d_law_box (hr.mono (by decide)) sc_d_law.nd (qa_cons (qe_var 0) qa_nil))
  (qss_cons (qs_set 2 sc_d_law.nd (qe_callBD C_d_law_drawn (hr.mono (by decide)) (qa_cons (qe_var 1) qa_nil)))
  (qss_cons (qs_for PassesOwn.never rfl (qi_tup (qe_tup (qa_cons qe_str (qa_cons qe_str qa_nil)))) (qg_name 3 sc_d_law.nd) (qss_cons (qs_set 4 sc_d_law.nd (qe_callD C_d_literals (hr.mono (by decide)) (qa_cons (qe_var 2) (qa_cons (qe_var 3) qa_nil))))
  (qss_one (qs_if (qw_or (qt_not (qt_truth (qe_isi isi_tup (by rfl) T.isinstance (by rfl) T.tuple bb_tuple (qe_var 4)))) (qw_or1 (qt_cmp (op_neD (u64 hr)) os_ne (qe_var 4) (qe_callT1 call_tuple_of cs_tuple (by rfl) T.tuple bb_tuple (qe_callD C_d_law_values (hr.mono (by decide)) (qa_cons (qe_var 2) (qa_cons (qe_var 3) qa_nil))))))).qt (qss_one (qs_ret qe_bl)) qss_nil))))
  (qss_cons (qs_for PassesOwn.never rfl (qi_enumT (by rfl) T.enumerate (qe_var 2)) (qg_tup rfl (qgs_cons (qg_name 5 sc_d_law.nd) (qgs_cons (qg_name 6 sc_d_law.nd) qgs_nil))) (qss_cons (qs_set 7 sc_d_law.nd (qe_lst (qa_cons (qe_tup qa_nil) qa_nil)))
  (qss_cons (qs_for PassesOwn.never rfl (qi_tup (qe_ix ix_seq os_ix (qe_var 6) qe_int)) (qg_name 3 sc_d_law.nd) (qss_cons (qs_set 8 sc_d_law.nd (qe_lst qa_nil))
  (qss_cons (qs_for PassesOwn.never rfl (qi_list (qe_var 7)) (qg_name 9 sc_d_law.nd) (qss_one (qs_set 8 sc_d_law.nd (qe_op op_plus os_plus (qe_var 8) (qe_lc (own := [("one", 10)]) rfl sc_d_law.nd (qi_list (qe_callD C_d_law_options (hr.mono (by decide)) (qa_cons (qe_var 2) (qa_cons (qe_var 6) (qa_cons (qe_var 9) qa_nil))))) (show BlkOk N_d_law (defScope s_d_law) _ _ from blkOk_by (by decide +kernel)) (fun _ _ _ _ _ => (qg_name 10 sc_d_law.nd)) (fun _ _ _ _ _ => qts_nil) (fun _ _ _ _ _ => (qe_op (k_plus (K := K) rfl) os_plus (qe_var 9) (qe_tup (qa_cons (qe_var 10) qa_nil)))))))))
  (qss_one (qs_set 7 sc_d_law.nd (qe_var 8))))))
  (qss_cons (qs_set 4 sc_d_law.nd (qe_callD C_d_choices (hr.mono (by decide)) (qa_cons (qe_var 2) (qa_cons (qe_var 5) qa_nil))))
  (qss_one (qs_if (qw_or (qt_not (qt_truth (qe_isi isi_tup (by rfl) T.isinstance (by rfl) T.tuple bb_tuple (qe_var 4)))) (qw_or1 (qt_cmp (op_neD (u64 hr)) os_ne (qe_var 4) (qe_callT1 call_tuple_of cs_tuple (by rfl) T.tuple bb_tuple (qe_var 7))))).qt (qss_one (qs_ret qe_bl)) qss_nil))))))
  (qss_one (qs_ret qe_bl))))))⟩
end
/-! ### the frame -/
theorem all_mk {w : World} {K : PySem.W.Frag} {h : Heap} {mg : Str → Option Value} {fa a_d_law_box a_d_law_take a_d_law_pick a_d_law_drawn a_d_literals a_d_named a_d_first_signs a_d_choices a_d_law_values a_d_law_options a_d_law : Addr} (X : K.In h) (G : h.Ns mainGlobals mg) (hfa : mg "law" = some (.ref fa))
    {od_d_law_box an_d_law_box : Option Addr} {sl_d_law_box : Array (Option Value)} {oc_d_law_box kV_d_law_box dc_d_law_box pm_d_law_box cd_d_law_box ct_d_law_box : Value}
    (n_d_law_box : PySem.W.nsIn K mainGlobals "_law_box" = some (some (.ref a_d_law_box))) (l_d_law_box : K.lookup a_d_law_box = some ⟨oc_d_law_box, od_d_law_box, .func (PySem.W.fnOf "_law_box" "_law_box" (defArgs s_d_law_box) (defBody s_d_law_box) (defScope s_d_law_box) .none kV_d_law_box dc_d_law_box pm_d_law_box an_d_law_box cd_d_law_box ct_d_law_box), sl_d_law_box⟩) (c_d_law_box : PySem.W.codeIn K cd_d_law_box "_law_box" = true) (k_d_law_box : PySem.W.keepIn K (.ref a_d_law_box) = true)
    {od_d_law_take an_d_law_take : Option Addr} {sl_d_law_take : Array (Option Value)} {oc_d_law_take kV_d_law_take dc_d_law_take pm_d_law_take cd_d_law_take ct_d_law_take : Value}
    (n_d_law_take : PySem.W.nsIn K mainGlobals "_law_take" = some (some (.ref a_d_law_take))) (l_d_law_take : K.lookup a_d_law_take = some ⟨oc_d_law_take, od_d_law_take, .func (PySem.W.fnOf "_law_take" "_law_take" (defArgs s_d_law_take) (defBody s_d_law_take) (defScope s_d_law_take) .none kV_d_law_take dc_d_law_take pm_d_law_take an_d_law_take cd_d_law_take ct_d_law_take), sl_d_law_take⟩) (c_d_law_take : PySem.W.codeIn K cd_d_law_take "_law_take" = true) (k_d_law_take : PySem.W.keepIn K (.ref a_d_law_take) = true)
    {od_d_law_pick an_d_law_pick : Option Addr} {sl_d_law_pick : Array (Option Value)} {oc_d_law_pick kV_d_law_pick dc_d_law_pick pm_d_law_pick cd_d_law_pick ct_d_law_pick : Value}
    (n_d_law_pick : PySem.W.nsIn K mainGlobals "_law_pick" = some (some (.ref a_d_law_pick))) (l_d_law_pick : K.lookup a_d_law_pick = some ⟨oc_d_law_pick, od_d_law_pick, .func (PySem.W.fnOf "_law_pick" "_law_pick" (defArgs s_d_law_pick) (defBody s_d_law_pick) (defScope s_d_law_pick) .none kV_d_law_pick dc_d_law_pick pm_d_law_pick an_d_law_pick cd_d_law_pick ct_d_law_pick), sl_d_law_pick⟩) (c_d_law_pick : PySem.W.codeIn K cd_d_law_pick "_law_pick" = true) (k_d_law_pick : PySem.W.keepIn K (.ref a_d_law_pick) = true)
    {od_d_law_drawn an_d_law_drawn : Option Addr} {sl_d_law_drawn : Array (Option Value)} {oc_d_law_drawn kV_d_law_drawn dc_d_law_drawn pm_d_law_drawn cd_d_law_drawn ct_d_law_drawn : Value}
    (n_d_law_drawn : PySem.W.nsIn K mainGlobals "_law_drawn" = some (some (.ref a_d_law_drawn))) (l_d_law_drawn : K.lookup a_d_law_drawn = some ⟨oc_d_law_drawn, od_d_law_drawn, .func (PySem.W.fnOf "_law_drawn" "_law_drawn" (defArgs s_d_law_drawn) (defBody s_d_law_drawn) (defScope s_d_law_drawn) .none kV_d_law_drawn dc_d_law_drawn pm_d_law_drawn an_d_law_drawn cd_d_law_drawn ct_d_law_drawn), sl_d_law_drawn⟩) (c_d_law_drawn : PySem.W.codeIn K cd_d_law_drawn "_law_drawn" = true) (k_d_law_drawn : PySem.W.keepIn K (.ref a_d_law_drawn) = true)
    {od_d_literals an_d_literals : Option Addr} {sl_d_literals : Array (Option Value)} {oc_d_literals kV_d_literals dc_d_literals pm_d_literals cd_d_literals ct_d_literals : Value}
    (n_d_literals : PySem.W.nsIn K mainGlobals "literals" = some (some (.ref a_d_literals))) (l_d_literals : K.lookup a_d_literals = some ⟨oc_d_literals, od_d_literals, .func (PySem.W.fnOf "literals" "literals" (defArgs s_d_literals) (defBody s_d_literals) (defScope s_d_literals) .none kV_d_literals dc_d_literals pm_d_literals an_d_literals cd_d_literals ct_d_literals), sl_d_literals⟩) (c_d_literals : PySem.W.codeIn K cd_d_literals "literals" = true) (k_d_literals : PySem.W.keepIn K (.ref a_d_literals) = true)
    {od_d_named an_d_named : Option Addr} {sl_d_named : Array (Option Value)} {oc_d_named kV_d_named dc_d_named pm_d_named cd_d_named ct_d_named : Value}
    (n_d_named : PySem.W.nsIn K mainGlobals "named" = some (some (.ref a_d_named))) (l_d_named : K.lookup a_d_named = some ⟨oc_d_named, od_d_named, .func (PySem.W.fnOf "named" "named" (defArgs s_d_named) (defBody s_d_named) (defScope s_d_named) .none kV_d_named dc_d_named pm_d_named an_d_named cd_d_named ct_d_named), sl_d_named⟩) (c_d_named : PySem.W.codeIn K cd_d_named "named" = true) (k_d_named : PySem.W.keepIn K (.ref a_d_named) = true)
    {od_d_first_signs an_d_first_signs : Option Addr} {sl_d_first_signs : Array (Option Value)} {oc_d_first_signs kV_d_first_signs dc_d_first_signs pm_d_first_signs cd_d_first_signs ct_d_first_signs : Value}
    (n_d_first_signs : PySem.W.nsIn K mainGlobals "_first_signs" = some (some (.ref a_d_first_signs))) (l_d_first_signs : K.lookup a_d_first_signs = some ⟨oc_d_first_signs, od_d_first_signs, .func (PySem.W.fnOf "_first_signs" "_first_signs" (defArgs s_d_first_signs) (defBody s_d_first_signs) (defScope s_d_first_signs) .none kV_d_first_signs dc_d_first_signs pm_d_first_signs an_d_first_signs cd_d_first_signs ct_d_first_signs), sl_d_first_signs⟩) (c_d_first_signs : PySem.W.codeIn K cd_d_first_signs "_first_signs" = true) (k_d_first_signs : PySem.W.keepIn K (.ref a_d_first_signs) = true)
    {od_d_choices an_d_choices : Option Addr} {sl_d_choices : Array (Option Value)} {oc_d_choices kV_d_choices dc_d_choices pm_d_choices cd_d_choices ct_d_choices : Value}
    (n_d_choices : PySem.W.nsIn K mainGlobals "choices" = some (some (.ref a_d_choices))) (l_d_choices : K.lookup a_d_choices = some ⟨oc_d_choices, od_d_choices, .func (PySem.W.fnOf "choices" "choices" (defArgs s_d_choices) (defBody s_d_choices) (defScope s_d_choices) .none kV_d_choices dc_d_choices pm_d_choices an_d_choices cd_d_choices ct_d_choices), sl_d_choices⟩) (c_d_choices : PySem.W.codeIn K cd_d_choices "choices" = true) (k_d_choices : PySem.W.keepIn K (.ref a_d_choices) = true)
    {od_d_law_values an_d_law_values : Option Addr} {sl_d_law_values : Array (Option Value)} {oc_d_law_values kV_d_law_values dc_d_law_values pm_d_law_values cd_d_law_values ct_d_law_values : Value}
    (n_d_law_values : PySem.W.nsIn K mainGlobals "_law_values" = some (some (.ref a_d_law_values))) (l_d_law_values : K.lookup a_d_law_values = some ⟨oc_d_law_values, od_d_law_values, .func (PySem.W.fnOf "_law_values" "_law_values" (defArgs s_d_law_values) (defBody s_d_law_values) (defScope s_d_law_values) .none kV_d_law_values dc_d_law_values pm_d_law_values an_d_law_values cd_d_law_values ct_d_law_values), sl_d_law_values⟩) (c_d_law_values : PySem.W.codeIn K cd_d_law_values "_law_values" = true) (k_d_law_values : PySem.W.keepIn K (.ref a_d_law_values) = true)
    {od_d_law_options an_d_law_options : Option Addr} {sl_d_law_options : Array (Option Value)} {oc_d_law_options kV_d_law_options dc_d_law_options pm_d_law_options cd_d_law_options ct_d_law_options : Value}
    (n_d_law_options : PySem.W.nsIn K mainGlobals "_law_options" = some (some (.ref a_d_law_options))) (l_d_law_options : K.lookup a_d_law_options = some ⟨oc_d_law_options, od_d_law_options, .func (PySem.W.fnOf "_law_options" "_law_options" (defArgs s_d_law_options) (defBody s_d_law_options) (defScope s_d_law_options) .none kV_d_law_options dc_d_law_options pm_d_law_options an_d_law_options cd_d_law_options ct_d_law_options), sl_d_law_options⟩) (c_d_law_options : PySem.W.codeIn K cd_d_law_options "_law_options" = true) (k_d_law_options : PySem.W.keepIn K (.ref a_d_law_options) = true)
    {od_d_law an_d_law : Option Addr} {sl_d_law : Array (Option Value)} {oc_d_law kV_d_law dc_d_law pm_d_law cd_d_law ct_d_law : Value}
    (n_d_law : PySem.W.nsIn K mainGlobals "law" = some (some (.ref a_d_law))) (l_d_law : K.lookup a_d_law = some ⟨oc_d_law, od_d_law, .func (PySem.W.fnOf "law" "law" (defArgs s_d_law) (defBody s_d_law) (defScope s_d_law) .none kV_d_law dc_d_law pm_d_law an_d_law cd_d_law ct_d_law), sl_d_law⟩) (c_d_law : PySem.W.codeIn K cd_d_law "law" = true) (k_d_law : PySem.W.keepIn K (.ref a_d_law) = true)
    (z_abs : PySem.W.nsIn K mainGlobals "abs" = some none)
    (z_enumerate : PySem.W.nsIn K mainGlobals "enumerate" = some none)
    (z_int : PySem.W.nsIn K mainGlobals "int" = some none)
    (z_isinstance : PySem.W.nsIn K mainGlobals "isinstance" = some none)
    (z_len : PySem.W.nsIn K mainGlobals "len" = some none)
    (z_max : PySem.W.nsIn K mainGlobals "max" = some none)
    (z_range : PySem.W.nsIn K mainGlobals "range" = some none)
    (z_set : PySem.W.nsIn K mainGlobals "set" = some none)
    (z_sorted : PySem.W.nsIn K mainGlobals "sorted" = some none)
    (z_str : PySem.W.nsIn K mainGlobals "str" = some none)
    (z_tuple : PySem.W.nsIn K mainGlobals "tuple" = some none)
    : ∃ fd : FuncData, (∀ (s : Shared) (v : Value), BindsTo s fd ⟨[v], []⟩ [("script", v)]) ∧ ∀ (P : Program) (base : Heap), FnOk P w K mg base CX0 4 fa fd ["script"] (spP K f_d_law) := by
  have e := hfa.symm.trans (PySem.W.mg_of X G n_d_law)
  have ef : a_d_law = fa := by cases e; rfl
  subst ef
  have T : Blt mg := ⟨PySem.W.mg_none_of X G z_abs, PySem.W.mg_none_of X G z_enumerate, PySem.W.mg_none_of X G z_int, PySem.W.mg_none_of X G z_isinstance, PySem.W.mg_none_of X G z_len, PySem.W.mg_none_of X G z_max, PySem.W.mg_none_of X G z_range, PySem.W.mg_none_of X G z_set, PySem.W.mg_none_of X G z_sorted, PySem.W.mg_none_of X G z_str, PySem.W.mg_none_of X G z_tuple⟩
  have F_d_law_box := fun_mk (st := s_d_law_box) l_d_law_box c_d_law_box k_d_law_box
  have D_d_law_box : Def1 K mg "_law_box" s_d_law_box ["script"] a_d_law_box _ := ⟨F_d_law_box, PySem.W.mg_of X G n_d_law_box, k_d_law_box, F_d_law_box.binds (ps := ["script"]) fun _ _ _ _ _ _ us hl => match us, hl with | [_], _ => rfl⟩
  have F_d_law_take := fun_mk (st := s_d_law_take) l_d_law_take c_d_law_take k_d_law_take
  have D_d_law_take : Def1 K mg "_law_take" s_d_law_take ["box", "m"] a_d_law_take _ := ⟨F_d_law_take, PySem.W.mg_of X G n_d_law_take, k_d_law_take, F_d_law_take.binds (ps := ["box", "m"]) fun _ _ _ _ _ _ us hl => match us, hl with | [_, _], _ => rfl⟩
  have F_d_law_pick := fun_mk (st := s_d_law_pick) l_d_law_pick c_d_law_pick k_d_law_pick
  have D_d_law_pick : Def1 K mg "_law_pick" s_d_law_pick ["box", "menu"] a_d_law_pick _ := ⟨F_d_law_pick, PySem.W.mg_of X G n_d_law_pick, k_d_law_pick, F_d_law_pick.binds (ps := ["box", "menu"]) fun _ _ _ _ _ _ us hl => match us, hl with | [_, _], _ => rfl⟩
  have F_d_law_drawn := fun_mk (st := s_d_law_drawn) l_d_law_drawn c_d_law_drawn k_d_law_drawn
  have D_d_law_drawn : Def1 K mg "_law_drawn" s_d_law_drawn ["box"] a_d_law_drawn _ := ⟨F_d_law_drawn, PySem.W.mg_of X G n_d_law_drawn, k_d_law_drawn, F_d_law_drawn.binds (ps := ["box"]) fun _ _ _ _ _ _ us hl => match us, hl with | [_], _ => rfl⟩
  have F_d_literals := fun_mk (st := s_d_literals) l_d_literals c_d_literals k_d_literals
  have D_d_literals : Def1 K mg "literals" s_d_literals ["shapes", "kind"] a_d_literals _ := ⟨F_d_literals, PySem.W.mg_of X G n_d_literals, k_d_literals, F_d_literals.binds (ps := ["shapes", "kind"]) fun _ _ _ _ _ _ us hl => match us, hl with | [_, _], _ => rfl⟩
  have F_d_named := fun_mk (st := s_d_named) l_d_named c_d_named k_d_named
  have D_d_named : Def1 K mg "named" s_d_named ["shape"] a_d_named _ := ⟨F_d_named, PySem.W.mg_of X G n_d_named, k_d_named, F_d_named.binds (ps := ["shape"]) fun _ _ _ _ _ _ us hl => match us, hl with | [_], _ => rfl⟩
  have F_d_first_signs := fun_mk (st := s_d_first_signs) l_d_first_signs c_d_first_signs k_d_first_signs
  have D_d_first_signs : Def1 K mg "_first_signs" s_d_first_signs ["shapes", "shape", "choice"] a_d_first_signs _ := ⟨F_d_first_signs, PySem.W.mg_of X G n_d_first_signs, k_d_first_signs, F_d_first_signs.binds (ps := ["shapes", "shape", "choice"]) fun _ _ _ _ _ _ us hl => match us, hl with | [_, _, _], _ => rfl⟩
  have F_d_choices := fun_mk (st := s_d_choices) l_d_choices c_d_choices k_d_choices
  have D_d_choices : Def1 K mg "choices" s_d_choices ["shapes", "place"] a_d_choices _ := ⟨F_d_choices, PySem.W.mg_of X G n_d_choices, k_d_choices, F_d_choices.binds (ps := ["shapes", "place"]) fun _ _ _ _ _ _ us hl => match us, hl with | [_, _], _ => rfl⟩
  have F_d_law_values := fun_mk (st := s_d_law_values) l_d_law_values c_d_law_values k_d_law_values
  have D_d_law_values : Def1 K mg "_law_values" s_d_law_values ["shapes", "kind"] a_d_law_values _ := ⟨F_d_law_values, PySem.W.mg_of X G n_d_law_values, k_d_law_values, F_d_law_values.binds (ps := ["shapes", "kind"]) fun _ _ _ _ _ _ us hl => match us, hl with | [_, _], _ => rfl⟩
  have F_d_law_options := fun_mk (st := s_d_law_options) l_d_law_options c_d_law_options k_d_law_options
  have D_d_law_options : Def1 K mg "_law_options" s_d_law_options ["shapes", "shape", "row"] a_d_law_options _ := ⟨F_d_law_options, PySem.W.mg_of X G n_d_law_options, k_d_law_options, F_d_law_options.binds (ps := ["shapes", "shape", "row"]) fun _ _ _ _ _ _ us hl => match us, hl with | [_, _, _], _ => rfl⟩
  have F_d_law := fun_mk (st := s_d_law) l_d_law c_d_law k_d_law
  have D_d_law : Def1 K mg "law" s_d_law ["script"] a_d_law _ := ⟨F_d_law, PySem.W.mg_of X G n_d_law, k_d_law, F_d_law.binds (ps := ["script"]) fun _ _ _ _ _ _ us hl => match us, hl with | [_], _ => rfl⟩
  refine ⟨PySem.W.fnOf "law" "law" (defArgs s_d_law) (defBody s_d_law) (defScope s_d_law) .none kV_d_law dc_d_law pm_d_law an_d_law cd_d_law ct_d_law, fun s v => .of_eq rfl, fun P base => ?_⟩
  have C_d_law_box := ok_d_law_box (P := P) (w := w) (base := base) D_d_law_box T 
  have C_d_law_take := ok_d_law_take (P := P) (w := w) (base := base) D_d_law_take T 
  have C_d_law_pick := ok_d_law_pick (P := P) (w := w) (base := base) D_d_law_pick T C_d_law_take
  have C_d_law_drawn := ok_d_law_drawn (P := P) (w := w) (base := base) D_d_law_drawn T C_d_law_take C_d_law_pick
  have C_d_literals := ok_d_literals (P := P) (w := w) (base := base) D_d_literals T 
  have C_d_named := ok_d_named (P := P) (w := w) (base := base) D_d_named T 
  have C_d_first_signs := ok_d_first_signs (P := P) (w := w) (base := base) D_d_first_signs T C_d_named C_d_literals
  have C_d_choices := ok_d_choices (P := P) (w := w) (base := base) D_d_choices T C_d_first_signs
  have C_d_law_values := ok_d_law_values (P := P) (w := w) (base := base) D_d_law_values T 
  have C_d_law_options := ok_d_law_options (P := P) (w := w) (base := base) D_d_law_options T C_d_law_values
  exact ok_d_law (P := P) (w := w) (base := base) D_d_law T C_d_law_box C_d_law_drawn C_d_literals C_d_choices C_d_law_values C_d_law_options
end K10
namespace K10
open PySem L2 Dat
theorem shaped_int (i : Int) : SeqAt.shaped (.int i) = true := rfl
theorem shaped_bool (i : Bool) : SeqAt.shaped (.bool i) = true := rfl
theorem shaped_lit {x : Str} (h : PyData.strOk x = true) : SeqAt.shaped (.str x) = true := by
  show (PyData.strOk x && decide (0 ≤ 64)) = true
  rw [h]; rfl
inductive Ent where
  | a (t : Str)
  | p (w : Bool) (t : Str) (i : Nat)
  | v (w : Bool) (t : Str) (k : Key)
structure Shp where
  nm : Str
  ps : List Str
  es : List Ent
def kD : Key → D
  | .inl i => .int i
  | .inr x => .str x
def rw_ (w : Bool) : Str := if w then "r" else "w"
def encE : Ent → D
  | .a t => .tuple [.str "a", .str t]
  | .p w t i => .tuple [.str (rw_ w), .str t, .tuple [.str "param", .int i]]
  | .v w t k => .tuple [.str (rw_ w), .str t, .tuple [.str "value", kD k]]
def encS (s : Shp) : D := .tuple [.str s.nm, .tuple (s.ps.map .str), .tuple (s.es.map encE)]
def encH (sh : List Shp) : D := .tuple (sh.map encS)
def okK : Key → Bool
  | .inl _ => true
  | .inr x => PyData.strOk x
def okE : Ent → Prop
  | .a _ => True
  | .p _ _ _ => True
  | .v _ _ k => okK k = true
structure OkS (s : Shp) : Prop where
  es : s.es.length ≤ 6
  ps : s.ps.length ≤ 3
  ok : ∀ e ∈ s.es, okE e
  st : ∀ x ∈ s.ps, PyData.strOk x = true
structure OkH (sh : List Shp) : Prop where
  len : sh.length ≤ 3
  ok : ∀ s ∈ sh, OkS s
def isT : Key → Bool
  | .inl _ => false
  | .inr _ => true
theorem ok_a : PyData.strOk "a" = true := by decide +kernel
theorem ok_r : PyData.strOk "r" = true := by decide +kernel
theorem ok_w : PyData.strOk "w" = true := by decide +kernel
theorem ok_rw (w : Bool) : PyData.strOk (rw_ w) = true := by cases w <;> decide +kernel
theorem ok_param : PyData.strOk "param" = true := by decide +kernel
theorem ok_value : PyData.strOk "value" = true := by decide +kernel
theorem ok_text : PyData.strOk "text" = true := by decide +kernel
theorem ok_int : PyData.strOk "int" = true := by decide +kernel
theorem ok_bool : PyData.strOk "bool" = true := by decide +kernel
theorem ne_rwa (w : Bool) : (rw_ w == ("a" : Str)) = false := by cases w <;> decide +kernel
theorem ne_vp : (("value" : Str) == "param") = false := by decide +kernel
theorem ne_pv : (("param" : Str) == "value") = false := by decide +kernel
theorem ne_it : (("int" : Str) == "text") = false := by decide +kernel
theorem eq_self (x : Str) : (x == x) = true := beq_self_eq_true x
theorem shaped_k {k : Key} (h : okK k = true) : SeqAt.shaped (kD k) = true := by
  cases k with
  | inl i => rfl
  | inr x => exact shaped_lit h
theorem canLay_map {α : Type} {f : α → D} : ∀ {xs : List α}, (∀ x ∈ xs, PyData.canLay0 (f x) = true) → PyData.canLayAll0 (xs.map f) = true
  | [], _ => rfl
  | x :: xs, h => by
    show (PyData.canLay0 (f x) && PyData.canLayAll0 (xs.map f)) = true
    rw [h x List.mem_cons_self, canLay_map fun y hy => h y (List.mem_cons_of_mem _ hy)]; rfl
theorem depth_map {α : Type} {f : α → D} {n : Nat} : ∀ {xs : List α}, (∀ x ∈ xs, PyData.depth (f x) ≤ n) → PyData.depthAll (xs.map f) ≤ n
  | [], _ => Nat.zero_le _
  | x :: xs, h => by
    show max (PyData.depth (f x)) (PyData.depthAll (xs.map f)) ≤ n
    exact Nat.max_le.mpr ⟨h x List.mem_cons_self, depth_map fun y hy => h y (List.mem_cons_of_mem _ hy)⟩
/-- shaped, no deeper than n -/
def Shd (n : Nat) (d : D) : Prop := PyData.canLay0 d = true ∧ PyData.depth d ≤ n
theorem Shd.shaped {n : Nat} {d : D} (h : Shd n d) (hn : n ≤ 64) : SeqAt.shaped d = true := by
  show (PyData.canLay0 d && decide (PyData.depth d ≤ 64)) = true
  rw [h.1, decide_eq_true (Nat.le_trans h.2 hn)]; rfl
theorem Shd.list {α : Type} {f : α → D} {n : Nat} {xs : List α} (h : ∀ x ∈ xs, Shd n (f x)) : Shd (n + 1) (.list (xs.map f)) :=
  ⟨canLay_map fun x hx => (h x hx).1, Nat.succ_le_succ (depth_map fun x hx => (h x hx).2)⟩
theorem Shd.tuple {α : Type} {f : α → D} {n : Nat} {xs : List α} (h : ∀ x ∈ xs, Shd n (f x)) : Shd (n + 1) (.tuple (xs.map f)) :=
  ⟨canLay_map fun x hx => (h x hx).1, Nat.succ_le_succ (depth_map fun x hx => (h x hx).2)⟩
theorem shd_k {k : Key} (h : okK k = true) : Shd 0 (kD k) := by
  cases k with
  | inl i => exact ⟨rfl, Nat.le_refl _⟩
  | inr x => exact ⟨h, Nat.le_refl _⟩
theorem shd_i (i : Int) : Shd 0 (.int i) := ⟨rfl, Nat.le_refl _⟩
theorem eqv_k (j k : Key) : PyData.eqv (kD j) (kD k) = decide (j = k) := by
  cases j with
  | inl i =>
    cases k with
    | inl i' => simp only [kD, PyData.eqv, Sum.inl.injEq]; exact Bool.eq_iff_iff.mpr (by simp)
    | inr x => simp [kD, PyData.eqv]
  | inr x =>
    cases k with
    | inl i' => simp [kD, PyData.eqv]
    | inr x' => simp only [kD, PyData.eqv, Sum.inr.injEq]; exact Bool.eq_iff_iff.mpr (by simp)
theorem notIn_k {acc : List Key} {k : Key} (h : ∀ j ∈ acc, okK j = true) (hk : okK k = true) : fNotInS (kD k) (.list (acc.map kD)) = some (.bool (!acc.any fun j => decide (j = k))) := by
  have h1 : SeqAt.shaped (.list (acc.map kD)) = true := (Shd.list fun x hx => shd_k (h x hx)).shaped (by decide)
  have e : ((acc.map kD).any fun z => PyData.eqv z (kD k)) = acc.any fun j => decide (j = k) := by
    rw [List.any_map]
    congr 1
    funext j
    exact eqv_k j k
  unfold fNotInS fNotIn
  simp only [shaped_k hk, h1, and_self, ↓reduceIte, e]
/-! ### sorted keys -/
def getL : Key → Option Int
  | .inl i => some i
  | .inr _ => none
def getR : Key → Option Str
  | .inl _ => none
  | .inr x => some x
def sortK (ks : List Key) : List Key := (sortI (ks.filterMap getL)).map .inl ++ (sortS (ks.filterMap getR)).map .inr
theorem keys_ints : ∀ {ks : List Key}, (∀ k ∈ ks, isT k = false) → ∃ ns : List Int, ks = ns.map .inl
  | [], _ => ⟨[], rfl⟩
  | .inl i :: ks, h => by
    obtain ⟨ns, e⟩ := keys_ints fun k hk => h k (List.mem_cons_of_mem _ hk)
    exact ⟨i :: ns, by rw [e]; rfl⟩
  | .inr x :: ks, h => by cases h _ List.mem_cons_self
theorem keys_strs : ∀ {ks : List Key}, (∀ k ∈ ks, isT k = true) → ∃ ns : List Str, ks = ns.map .inr
  | [], _ => ⟨[], rfl⟩
  | .inr i :: ks, h => by
    obtain ⟨ns, e⟩ := keys_strs fun k hk => h k (List.mem_cons_of_mem _ hk)
    exact ⟨i :: ns, by rw [e]; rfl⟩
  | .inl x :: ks, h => by cases h _ List.mem_cons_self
theorem getL_inl (ns : List Int) : (ns.map (Sum.inl : Int → Key)).filterMap getL = ns := by
  induction ns with
  | nil => rfl
  | cons n ns ih => simp [getL, List.filterMap_cons] at ih ⊢; exact ih
theorem getR_inl (ns : List Int) : (ns.map (Sum.inl : Int → Key)).filterMap getR = [] := by
  induction ns with
  | nil => rfl
  | cons n ns ih => simp [getR, List.filterMap_cons]
theorem getR_inr (ns : List Str) : (ns.map (Sum.inr : Str → Key)).filterMap getR = ns := by
  induction ns with
  | nil => rfl
  | cons n ns ih => simp [getR, List.filterMap_cons] at ih ⊢; exact ih
theorem getL_inr (ns : List Str) : (ns.map (Sum.inr : Str → Key)).filterMap getL = [] := by
  induction ns with
  | nil => rfl
  | cons n ns ih => simp [getL, List.filterMap_cons]
theorem sortK_inl (ns : List Int) : sortK (ns.map .inl) = (sortI ns).map .inl := by
  unfold sortK; rw [getL_inl, getR_inl]; simp [sortS]
theorem sortK_inr (ns : List Str) : sortK (ns.map .inr) = (sortS ns).map .inr := by
  unfold sortK; rw [getR_inr, getL_inr]; simp [sortI]
theorem map_kD_inl (ns : List Int) : (ns.map (Sum.inl : Int → Key)).map kD = ns.map PyData.int := by rw [List.map_map]; rfl
theorem map_kD_inr (ns : List Str) : (ns.map (Sum.inr : Str → Key)).map kD = ns.map PyData.str := by rw [List.map_map]; rfl
theorem intsD_strs (x : Str) (ns : List Str) : intsD ((x :: ns).map PyData.str) = none := rfl
theorem fSort_k {ks : List Key} {b : Bool} (h : ∀ k ∈ ks, isT k = b) (hl : ks.length < 64) : fSort (.list (ks.map kD)) = some (.list ((sortK ks).map kD)) := by
  cases b with
  | false =>
    obtain ⟨ns, rfl⟩ := keys_ints h
    rw [sortK_inl, map_kD_inl, map_kD_inl]
    unfold fSort
    simp only [intsD_map]
  | true =>
    obtain ⟨ns, rfl⟩ := keys_strs h
    rw [sortK_inr, map_kD_inr, map_kD_inr]
    rw [List.length_map] at hl
    cases ns with
    | nil => rfl
    | cons x ns =>
      unfold fSort
      simp only [intsD_strs, strsD_map, hl, ↓reduceIte]
theorem dedup_map {α : Type} [DecidableEq α] {f : α → Key} (inj : ∀ a b, f a = f b → a = b) (ls : List α) : dedup (ls.map f) = (dedup ls).map f := by
  have e : ∀ ks : List Key, ∀ k : Key, addG ks k = addK ks k := fun _ _ => rfl
  have := foldK_map inj ls []
  rw [List.map_nil] at this
  unfold dedup
  rw [← this]
  congr 1
theorem fSortSet_k {ks : List Key} {b : Bool} (h : ∀ k ∈ ks, isT k = b) (hl : ks.length < 64) : fSortSet (.list (ks.map kD)) = some (.list ((sortK (dedup ks)).map kD)) := by
  cases b with
  | false =>
    obtain ⟨ns, rfl⟩ := keys_ints h
    rw [dedup_map (fun a b h => Sum.inl.inj h), sortK_inl, map_kD_inl, map_kD_inl]
    rw [List.length_map] at hl
    unfold fSortSet
    simp only [intsD_map, hl, ↓reduceIte]
  | true =>
    obtain ⟨ns, rfl⟩ := keys_strs h
    rw [dedup_map (fun a b h => Sum.inr.inj h), sortK_inr, map_kD_inr, map_kD_inr]
    rw [List.length_map] at hl
    cases ns with
    | nil => rfl
    | cons x ns =>
      unfold fSortSet
      simp only [intsD_strs, strsD_map, hl, ↓reduceIte]
/-! ### the values that stand in the entries -/
def selV (kind : Str) : Ent → Option Key
  | .v _ _ k => if isT k == (kind == "text") then some k else none
  | _ => none
def raw (sh : List Shp) (kind : Str) : List Key := sh.flatMap fun s => s.es.filterMap (selV kind)
def vals (sh : List Shp) (kind : Str) : List Key := sortK (dedup (raw sh kind))
def pushO {α : Type} (acc : List α) (x : Option α) : List α := acc ++ x.toList
def addO {α : Type} [DecidableEq α] (acc : List α) (x : Option α) : List α := match x with
  | some k => addG acc k
  | none => acc
theorem selV_isT {kind : Str} {e : Ent} {k : Key} (h : selV kind e = some k) : isT k = (kind == "text") := by
  cases e with
  | a _ => simp [selV] at h
  | p _ _ _ => simp [selV] at h
  | v w t k' =>
    simp only [selV] at h
    by_cases c : (isT k' == (kind == ("text" : Str))) = true
    · rw [if_pos c] at h
      injection h with h
      rw [← h]; exact beq_iff_eq.mp c
    · rw [if_neg c] at h; cases h
theorem raw_isT {sh : List Shp} {kind : Str} : ∀ k ∈ raw sh kind, isT k = (kind == "text") := fun k hk => by
  obtain ⟨s, _, h2⟩ := List.mem_flatMap.mp hk
  obtain ⟨e, _, h4⟩ := List.mem_filterMap.mp h2
  exact selV_isT h4
theorem raw_len {sh : List Shp} (h : OkH sh) (kind : Str) : (raw sh kind).length ≤ 18 := by
  have : ∀ sh : List Shp, (∀ s ∈ sh, OkS s) → (raw sh kind).length ≤ 6 * sh.length := fun sh => by
    induction sh with
    | nil => intro _; exact Nat.le_refl _
    | cons s sh ih =>
      intro h
      have h1 := ih fun x hx => h x (List.mem_cons_of_mem _ hx)
      have h2 := (h s List.mem_cons_self).es
      have h3 : (s.es.filterMap (selV kind)).length ≤ s.es.length := List.length_filterMap_le _ _
      unfold raw at h1 ⊢
      rw [List.flatMap_cons, List.length_append, List.length_cons]
      omega
  have h1 := this sh h.ok
  have h2 := h.len
  omega
theorem foldO_eq {α : Type} [DecidableEq α] : ∀ (xs : List (Option α)) (acc : List α), xs.foldl addO (dedup acc) = dedup (acc ++ xs.filterMap id)
  | [], acc => by simp
  | none :: xs, acc => by
    rw [List.foldl_cons]
    simpa [addO] using foldO_eq xs acc
  | some k :: xs, acc => by
    rw [List.foldl_cons]
    have e : addO (dedup acc) (some k) = dedup (acc ++ [k]) := by
      show addG (dedup acc) k = dedup (acc ++ [k])
      unfold dedup; rw [List.foldl_append]; rfl
    rw [e, foldO_eq xs (acc ++ [k])]
    simp
end K10
namespace K10
open PySem L2 Dat
theorem foldO_pushO {α β : Type} (g : β → Option α) : ∀ (xs : List β) (acc : List α), xs.foldl (fun acc x => pushO acc (g x)) acc = acc ++ xs.filterMap g
  | [], acc => by simp
  | x :: xs, acc => by
    rw [List.foldl_cons, foldO_pushO g xs]
    cases q : g x <;> simp [pushO, q, List.filterMap_cons]
def AccOk (n : Nat) (acc : List Key) : Prop := (∀ k ∈ acc, okK k = true) ∧ acc.length ≤ n
theorem selV_ok {kind : Str} {e : Ent} {k : Key} (h : selV kind e = some k) (ok : okE e) : okK k = true := by
  cases e with
  | a _ => simp [selV] at h
  | p _ _ _ => simp [selV] at h
  | v w t k' =>
    simp only [selV] at h
    by_cases c : (isT k' == (kind == ("text" : Str))) = true
    · rw [if_pos c] at h
      injection h with h
      rw [← h]; exact ok
    · rw [if_neg c] at h; cases h
theorem AccOk.addG {n : Nat} {acc : List Key} {k : Key} (h : AccOk n acc) (hk : okK k = true) : AccOk (n + 1) (addG acc k) := by
  refine ⟨fun j hj => ?_, ?_⟩
  · rcases (addG_mem acc k j).mp hj with hj | rfl
    · exact h.1 j hj
    · exact hk
  · unfold Dat.addG
    have := h.2
    split
    · omega
    · simp; omega
theorem AccOk.snoc {n : Nat} {acc : List Key} {k : Key} (h : AccOk n acc) (hk : okK k = true) : AccOk (n + 1) (acc ++ [k]) := by
  refine ⟨fun j hj => ?_, by have := h.2; simp; omega⟩
  rcases List.mem_append.mp hj with hj | hj
  · exact h.1 j hj
  · rw [List.mem_singleton] at hj; rw [hj]; exact hk
theorem AccOk.up {n m : Nat} {acc : List Key} (h : AccOk n acc) (hm : n ≤ m) : AccOk m acc := ⟨h.1, Nat.le_trans h.2 hm⟩
theorem isi_k (k : Key) : fIsi isStr (kD k) = some (.bool (isT k)) := by cases k <;> rfl
/-- a turn of the inner loop of literals -/
theorem lit_step {A K3 : D} {kind : Str} (hk : PyData.strOk kind = true) {j4 j5 : Sl} (h4 : np j4 = true) (h5 : np j5 = true) {e : Ent} (he : okE e) {acc : List Key} {n : Nat} (ha : AccOk n acc) (hn : n < 1000) :
    ∃ r k4 k5, stepS (asgD 4) B_d_literals_0 (encE e) [.dat A, .dat (.str kind), .own (.lst (acc.map kD)), .dat K3, j4, j5] = some (r, [.dat A, .dat (.str kind), .own (.lst ((addO acc (selV kind e)).map kD)), .dat K3, k4, k5]) ∧ (r = .nx ∨ r = .ct) ∧ np k4 = true ∧ np k5 = true := by
  have hlen := ha.2
  cases e with
  | a t =>
    refine ⟨.ct, .dat (encE (.a t)), j5, ?_, .inr rfl, rfl, h5⟩
    simp [B_d_literals_0, runP, runB, runO, mSeq, mIfS, mThen, mAsB, mOp2, mBind, mVar, mC, mRet, mLift, mTup, mLst, mCons, mNil, mkSeq, frcs, app2, rdD, fIx, atI, ixN, fEq, fNe, asB, tru, truD, mTru, mNot, mAnd, mOr, fGt, fLt, fLe, fGe, fInt2, mAsg, frc, asgS, asgD_np, asgO_np, npAt, np_un, np_dat, np_own, newL, mNewL, mAppend, pushL, fTupleOf, mSeqT, mSeqL, seqT, seqL, stepS, stepC, wipeS, mOp1, app1, fIntOf, fAbs, fLen, fNeg, fMod, fMul, mulOk, fDiv, fPow, fSub, fPlus, fP1, fP2, fAdd, fAddS, fAddT, fAddL, mSetItem, isOL, asI, ownL, setL, mIf, mRetS, retD, mSkip, mCont, mBrk, mCall, appF, mCallB, appB, shaped_int, shaped_bool, PyData.eqv, ↓reduceIte, h4, h5, encE, shaped_lit ok_a, selV, addO]
  | p w t i =>
    refine ⟨.ct, .dat (encE (.p w t i)), j5, ?_, .inr rfl, rfl, h5⟩
    simp [B_d_literals_0, runP, runB, runO, mSeq, mIfS, mThen, mAsB, mOp2, mBind, mVar, mC, mRet, mLift, mTup, mLst, mCons, mNil, mkSeq, frcs, app2, rdD, fIx, atI, ixN, fEq, fNe, asB, tru, truD, mTru, mNot, mAnd, mOr, fGt, fLt, fLe, fGe, fInt2, mAsg, frc, asgS, asgD_np, asgO_np, npAt, np_un, np_dat, np_own, newL, mNewL, mAppend, pushL, fTupleOf, mSeqT, mSeqL, seqT, seqL, stepS, stepC, wipeS, mOp1, app1, fIntOf, fAbs, fLen, fNeg, fMod, fMul, mulOk, fDiv, fPow, fSub, fPlus, fP1, fP2, fAdd, fAddS, fAddT, fAddL, mSetItem, isOL, asI, ownL, setL, mIf, mRetS, retD, mSkip, mCont, mBrk, mCall, appF, mCallB, appB, shaped_int, shaped_bool, PyData.eqv, ↓reduceIte, h4, h5, encE, shaped_lit ok_a, shaped_lit (ok_rw w), ne_rwa, shaped_lit ok_param, selV, addO]
  | v w t k =>
    have hk' : okK k = true := he
    have hni := notIn_k ha.1 hk'
    refine ⟨.nx, .dat (encE (.v w t k)), .dat (kD k), ?_, .inl rfl, rfl, rfl⟩
    have hlt : acc.length < 1000000 := by omega
    by_cases c1 : isT k = (kind == ("text" : Str))
    · by_cases c2 : (acc.any fun j => decide (j = k)) = true
      · simp [B_d_literals_0, runP, runB, runO, mSeq, mIfS, mThen, mAsB, mOp2, mBind, mVar, mC, mRet, mLift, mTup, mLst, mCons, mNil, mkSeq, frcs, app2, rdD, fIx, atI, ixN, fEq, fNe, asB, tru, truD, mTru, mNot, mAnd, mOr, fGt, fLt, fLe, fGe, fInt2, mAsg, frc, asgS, asgD_np, asgO_np, npAt, np_un, np_dat, np_own, newL, mNewL, mAppend, pushL, fTupleOf, mSeqT, mSeqL, seqT, seqL, stepS, stepC, wipeS, mOp1, app1, fIntOf, fAbs, fLen, fNeg, fMod, fMul, mulOk, fDiv, fPow, fSub, fPlus, fP1, fP2, fAdd, fAddS, fAddT, fAddL, mSetItem, isOL, asI, ownL, setL, mIf, mRetS, retD, mSkip, mCont, mBrk, mCall, appF, mCallB, appB, shaped_int, shaped_bool, PyData.eqv, ↓reduceIte, h4, h5, encE, shaped_lit ok_a, shaped_lit (ok_rw w), ne_rwa, shaped_lit ok_param, shaped_lit ok_value, ne_vp, isi_k, shaped_lit hk, shaped_lit ok_text, c1, hni, c2, selV, addO, addG]
      · have c2 : (acc.any fun j => decide (j = k)) = false := Bool.eq_false_iff.mpr c2
        simp [B_d_literals_0, runP, runB, runO, mSeq, mIfS, mThen, mAsB, mOp2, mBind, mVar, mC, mRet, mLift, mTup, mLst, mCons, mNil, mkSeq, frcs, app2, rdD, fIx, atI, ixN, fEq, fNe, asB, tru, truD, mTru, mNot, mAnd, mOr, fGt, fLt, fLe, fGe, fInt2, mAsg, frc, asgS, asgD_np, asgO_np, npAt, np_un, np_dat, np_own, newL, mNewL, mAppend, pushL, fTupleOf, mSeqT, mSeqL, seqT, seqL, stepS, stepC, wipeS, mOp1, app1, fIntOf, fAbs, fLen, fNeg, fMod, fMul, mulOk, fDiv, fPow, fSub, fPlus, fP1, fP2, fAdd, fAddS, fAddT, fAddL, mSetItem, isOL, asI, ownL, setL, mIf, mRetS, retD, mSkip, mCont, mBrk, mCall, appF, mCallB, appB, shaped_int, shaped_bool, PyData.eqv, ↓reduceIte, h4, h5, encE, shaped_lit ok_a, shaped_lit (ok_rw w), ne_rwa, shaped_lit ok_param, shaped_lit ok_value, ne_vp, isi_k, shaped_lit hk, shaped_lit ok_text, c1, hni, c2, selV, addO, addG, hlt]
    · have c1' : (isT k == (kind == ("text" : Str))) = false := by simpa using c1
      simp [B_d_literals_0, runP, runB, runO, mSeq, mIfS, mThen, mAsB, mOp2, mBind, mVar, mC, mRet, mLift, mTup, mLst, mCons, mNil, mkSeq, frcs, app2, rdD, fIx, atI, ixN, fEq, fNe, asB, tru, truD, mTru, mNot, mAnd, mOr, fGt, fLt, fLe, fGe, fInt2, mAsg, frc, asgS, asgD_np, asgO_np, npAt, np_un, np_dat, np_own, newL, mNewL, mAppend, pushL, fTupleOf, mSeqT, mSeqL, seqT, seqL, stepS, stepC, wipeS, mOp1, app1, fIntOf, fAbs, fLen, fNeg, fMod, fMul, mulOk, fDiv, fPow, fSub, fPlus, fP1, fP2, fAdd, fAddS, fAddT, fAddL, mSetItem, isOL, asI, ownL, setL, mIf, mRetS, retD, mSkip, mCont, mBrk, mCall, appF, mCallB, appB, shaped_int, shaped_bool, PyData.eqv, ↓reduceIte, h4, h5, encE, shaped_lit ok_a, shaped_lit (ok_rw w), ne_rwa, shaped_lit ok_param, shaped_lit ok_value, ne_vp, isi_k, shaped_lit hk, shaped_lit ok_text, c1', selV, addO]
/-- a turn of the inner loop of the law's own -/
theorem val_step {A K3 : D} {kind : Str} (hk : PyData.strOk kind = true) {j4 : Sl} (h4 : np j4 = true) {e : Ent} (he : okE e) {acc : List Key} {n : Nat} (ha : AccOk n acc) (hn : n < 1000) :
    ∃ r k4, stepS (asgD 4) B_d_law_values_0 (encE e) [.dat A, .dat (.str kind), .own (.lst (acc.map kD)), .dat K3, j4] = some (r, [.dat A, .dat (.str kind), .own (.lst ((pushO acc (selV kind e)).map kD)), .dat K3, k4]) ∧ (r = .nx ∨ r = .ct) ∧ np k4 = true := by
  have hlen := ha.2
  have hlt : acc.length < 1000000 := by omega
  cases e with
  | a t =>
    refine ⟨.nx, .dat (encE (.a t)), ?_, .inl rfl, rfl⟩
    simp [B_d_law_values_0, runP, runB, runO, mSeq, mIfS, mThen, mAsB, mOp2, mBind, mVar, mC, mRet, mLift, mTup, mLst, mCons, mNil, mkSeq, frcs, app2, rdD, fIx, atI, ixN, fEq, fNe, asB, tru, truD, mTru, mNot, mAnd, mOr, fGt, fLt, fLe, fGe, fInt2, mAsg, frc, asgS, asgD_np, asgO_np, npAt, np_un, np_dat, np_own, newL, mNewL, mAppend, pushL, fTupleOf, mSeqT, mSeqL, seqT, seqL, stepS, stepC, wipeS, mOp1, app1, fIntOf, fAbs, fLen, fNeg, fMod, fMul, mulOk, fDiv, fPow, fSub, fPlus, fP1, fP2, fAdd, fAddS, fAddT, fAddL, mSetItem, isOL, asI, ownL, setL, mIf, mRetS, retD, mSkip, mCont, mBrk, mCall, appF, mCallB, appB, shaped_int, shaped_bool, PyData.eqv, ↓reduceIte, h4, encE, shaped_lit ok_a, selV, pushO]
  | p w t i =>
    refine ⟨.nx, .dat (encE (.p w t i)), ?_, .inl rfl, rfl⟩
    simp [B_d_law_values_0, runP, runB, runO, mSeq, mIfS, mThen, mAsB, mOp2, mBind, mVar, mC, mRet, mLift, mTup, mLst, mCons, mNil, mkSeq, frcs, app2, rdD, fIx, atI, ixN, fEq, fNe, asB, tru, truD, mTru, mNot, mAnd, mOr, fGt, fLt, fLe, fGe, fInt2, mAsg, frc, asgS, asgD_np, asgO_np, npAt, np_un, np_dat, np_own, newL, mNewL, mAppend, pushL, fTupleOf, mSeqT, mSeqL, seqT, seqL, stepS, stepC, wipeS, mOp1, app1, fIntOf, fAbs, fLen, fNeg, fMod, fMul, mulOk, fDiv, fPow, fSub, fPlus, fP1, fP2, fAdd, fAddS, fAddT, fAddL, mSetItem, isOL, asI, ownL, setL, mIf, mRetS, retD, mSkip, mCont, mBrk, mCall, appF, mCallB, appB, shaped_int, shaped_bool, PyData.eqv, ↓reduceIte, h4, encE, shaped_lit ok_a, shaped_lit (ok_rw w), ne_rwa, shaped_lit ok_param, shaped_lit ok_value, ne_pv, selV, pushO]
  | v w t k =>
    refine ⟨.nx, .dat (encE (.v w t k)), ?_, .inl rfl, rfl⟩
    by_cases c1 : isT k = (kind == ("text" : Str))
    · simp [B_d_law_values_0, runP, runB, runO, mSeq, mIfS, mThen, mAsB, mOp2, mBind, mVar, mC, mRet, mLift, mTup, mLst, mCons, mNil, mkSeq, frcs, app2, rdD, fIx, atI, ixN, fEq, fNe, asB, tru, truD, mTru, mNot, mAnd, mOr, fGt, fLt, fLe, fGe, fInt2, mAsg, frc, asgS, asgD_np, asgO_np, npAt, np_un, np_dat, np_own, newL, mNewL, mAppend, pushL, fTupleOf, mSeqT, mSeqL, seqT, seqL, stepS, stepC, wipeS, mOp1, app1, fIntOf, fAbs, fLen, fNeg, fMod, fMul, mulOk, fDiv, fPow, fSub, fPlus, fP1, fP2, fAdd, fAddS, fAddT, fAddL, mSetItem, isOL, asI, ownL, setL, mIf, mRetS, retD, mSkip, mCont, mBrk, mCall, appF, mCallB, appB, shaped_int, shaped_bool, PyData.eqv, ↓reduceIte, h4, encE, shaped_lit ok_a, shaped_lit (ok_rw w), ne_rwa, shaped_lit ok_param, shaped_lit ok_value, isi_k, shaped_lit hk, shaped_lit ok_text, c1, selV, pushO, hlt]
    · have c1' : (isT k == (kind == ("text" : Str))) = false := by simpa using c1
      simp [B_d_law_values_0, runP, runB, runO, mSeq, mIfS, mThen, mAsB, mOp2, mBind, mVar, mC, mRet, mLift, mTup, mLst, mCons, mNil, mkSeq, frcs, app2, rdD, fIx, atI, ixN, fEq, fNe, asB, tru, truD, mTru, mNot, mAnd, mOr, fGt, fLt, fLe, fGe, fInt2, mAsg, frc, asgS, asgD_np, asgO_np, npAt, np_un, np_dat, np_own, newL, mNewL, mAppend, pushL, fTupleOf, mSeqT, mSeqL, seqT, seqL, stepS, stepC, wipeS, mOp1, app1, fIntOf, fAbs, fLen, fNeg, fMod, fMul, mulOk, fDiv, fPow, fSub, fPlus, fP1, fP2, fAdd, fAddS, fAddT, fAddL, mSetItem, isOL, asI, ownL, setL, mIf, mRetS, retD, mSkip, mCont, mBrk, mCall, appF, mCallB, appB, shaped_int, shaped_bool, PyData.eqv, ↓reduceIte, h4, encE, shaped_lit ok_a, shaped_lit (ok_rw w), ne_rwa, shaped_lit ok_param, shaped_lit ok_value, isi_k, shaped_lit hk, shaped_lit ok_text, c1', selV, pushO]
theorem addO_ok {n : Nat} {acc : List Key} {kind : Str} {e : Ent} (h : AccOk n acc) (he : okE e) : AccOk (n + 1) (addO acc (selV kind e)) := by
  cases q : selV kind e with
  | none => exact h.up (Nat.le_succ n)
  | some k => exact h.addG (selV_ok q he)
theorem pushO_ok {n : Nat} {acc : List Key} {kind : Str} {e : Ent} (h : AccOk n acc) (he : okE e) : AccOk (n + 1) (pushO acc (selV kind e)) := by
  cases q : selV kind e with
  | none => unfold pushO; rw [show acc ++ (none : Option Key).toList = acc by simp]; exact h.up (Nat.le_succ n)
  | some k => exact h.snoc (selV_ok q he)
theorem lit_row {A : D} {kind : Str} (hk : PyData.strOk kind = true) {j3 j4 j5 : Sl} (h3 : np j3 = true) (h4 : np j4 = true) (h5 : np j5 = true) {s : Shp} (hs : OkS s) {acc : List Key} {n : Nat} (ha : AccOk (6 * n) acc) (hn : n < 100) :
    ∃ k3 k4 k5, stepS (asgD 3) B_d_literals_2 (encS s) [.dat A, .dat (.str kind), .own (.lst (acc.map kD)), j3, j4, j5] = some (.nx, [.dat A, .dat (.str kind), .own (.lst ((s.es.foldl (fun b x => addO b (selV kind x)) acc).map kD)), k3, k4, k5]) ∧ np k3 = true ∧ np k4 = true ∧ np k5 = true ∧
      AccOk (6 * (n + 1)) (s.es.foldl (fun b x => addO b (selV kind x)) acc) := by
  have hes := hs.es
  obtain ⟨ρ', e, ⟨k4, k5, rfl, n4, n5⟩, ha2⟩ := mFor_fold (mi := mSeqT (mOp2 fIx (mVar 3) (mC (.int 2)))) (gm := asgD 4) (body := B_d_literals_0) (enc := encE) (ρ := [.dat A, .dat (.str kind), .own (.lst (acc.map kD)), .dat (encS s), j4, j5]) (ρ0 := [.dat A, .dat (.str kind), .own (.lst (acc.map kD)), .dat (encS s), j4, j5])
    (fun m acc ρ => (∃ k4 k5, ρ = [.dat A, .dat (.str kind), .own (.lst (acc.map kD)), .dat (encS s), k4, k5] ∧ np k4 = true ∧ np k5 = true) ∧ AccOk (6 * n + m) acc) (fun b x => addO b (selV kind x)) s.es (b := acc) (by simp [runP, runB, runO, mSeq, mIfS, mThen, mAsB, mOp2, mBind, mVar, mC, mRet, mLift, mTup, mLst, mCons, mNil, mkSeq, frcs, app2, rdD, fIx, atI, ixN, fEq, fNe, asB, tru, truD, mTru, mNot, mAnd, mOr, fGt, fLt, fLe, fGe, fInt2, mAsg, frc, asgS, asgD_np, asgO_np, npAt, np_un, np_dat, np_own, newL, mNewL, mAppend, pushL, fTupleOf, mSeqT, mSeqL, seqT, seqL, stepS, stepC, wipeS, mOp1, app1, fIntOf, fAbs, fLen, fNeg, fMod, fMul, mulOk, fDiv, fPow, fSub, fPlus, fP1, fP2, fAdd, fAddS, fAddT, fAddL, mSetItem, isOL, asI, ownL, setL, mIf, mRetS, retD, mSkip, mCont, mBrk, mCall, appF, mCallB, appB, shaped_int, shaped_bool, PyData.eqv, ↓reduceIte, encS]) (fun m x hx acc ρ hI => by
      obtain ⟨⟨k4, k5, rfl, n4, n5⟩, ha⟩ := hI
      have hx' := List.mem_of_getElem? hx
      have hm := (List.getElem?_eq_some_iff.mp hx).1
      obtain ⟨r, l4, l5, e, hr, m4, m5⟩ := lit_step (A := A) (K3 := encS s) hk n4 n5 (hs.ok x hx') ha (by omega)
      exact ⟨r, _, e, hr, ⟨l4, l5, rfl, m4, m5⟩, addO_ok ha (hs.ok x hx')⟩) ⟨⟨j4, j5, rfl, h4, h5⟩, ha⟩
  refine ⟨_, k4, k5, ?_, np_dat (encS s), n4, n5, ha2.up (by omega)⟩
  unfold stepS B_d_literals_2 L_d_literals_1
  rw [asgD_np (by simp [npAt, h3])]
  exact e
theorem val_row {A : D} {kind : Str} (hk : PyData.strOk kind = true) {j3 j4 : Sl} (h3 : np j3 = true) (h4 : np j4 = true) {s : Shp} (hs : OkS s) {acc : List Key} {n : Nat} (ha : AccOk (6 * n) acc) (hn : n < 100) :
    ∃ k3 k4, stepS (asgD 3) B_d_law_values_2 (encS s) [.dat A, .dat (.str kind), .own (.lst (acc.map kD)), j3, j4] = some (.nx, [.dat A, .dat (.str kind), .own (.lst ((s.es.foldl (fun b x => pushO b (selV kind x)) acc).map kD)), k3, k4]) ∧ np k3 = true ∧ np k4 = true ∧
      AccOk (6 * (n + 1)) (s.es.foldl (fun b x => pushO b (selV kind x)) acc) := by
  have hes := hs.es
  obtain ⟨ρ', e, ⟨k4, rfl, n4⟩, ha2⟩ := mFor_fold (mi := mSeqT (mOp2 fIx (mVar 3) (mC (.int 2)))) (gm := asgD 4) (body := B_d_law_values_0) (enc := encE) (ρ := [.dat A, .dat (.str kind), .own (.lst (acc.map kD)), .dat (encS s), j4]) (ρ0 := [.dat A, .dat (.str kind), .own (.lst (acc.map kD)), .dat (encS s), j4])
    (fun m acc ρ => (∃ k4, ρ = [.dat A, .dat (.str kind), .own (.lst (acc.map kD)), .dat (encS s), k4] ∧ np k4 = true) ∧ AccOk (6 * n + m) acc) (fun b x => pushO b (selV kind x)) s.es (b := acc) (by simp [runP, runB, runO, mSeq, mIfS, mThen, mAsB, mOp2, mBind, mVar, mC, mRet, mLift, mTup, mLst, mCons, mNil, mkSeq, frcs, app2, rdD, fIx, atI, ixN, fEq, fNe, asB, tru, truD, mTru, mNot, mAnd, mOr, fGt, fLt, fLe, fGe, fInt2, mAsg, frc, asgS, asgD_np, asgO_np, npAt, np_un, np_dat, np_own, newL, mNewL, mAppend, pushL, fTupleOf, mSeqT, mSeqL, seqT, seqL, stepS, stepC, wipeS, mOp1, app1, fIntOf, fAbs, fLen, fNeg, fMod, fMul, mulOk, fDiv, fPow, fSub, fPlus, fP1, fP2, fAdd, fAddS, fAddT, fAddL, mSetItem, isOL, asI, ownL, setL, mIf, mRetS, retD, mSkip, mCont, mBrk, mCall, appF, mCallB, appB, shaped_int, shaped_bool, PyData.eqv, ↓reduceIte, encS]) (fun m x hx acc ρ hI => by
      obtain ⟨⟨k4, rfl, n4⟩, ha⟩ := hI
      have hx' := List.mem_of_getElem? hx
      have hm := (List.getElem?_eq_some_iff.mp hx).1
      obtain ⟨r, l4, e, hr, m4⟩ := val_step (A := A) (K3 := encS s) hk n4 (hs.ok x hx') ha (by omega)
      exact ⟨r, _, e, hr, ⟨l4, rfl, m4⟩, pushO_ok ha (hs.ok x hx')⟩) ⟨⟨j4, rfl, h4⟩, ha⟩
  refine ⟨_, k4, ?_, np_dat (encS s), n4, ha2.up (by omega)⟩
  unfold stepS B_d_law_values_2 L_d_law_values_1
  rw [asgD_np (by simp [npAt, h3])]
  exact e
theorem fold_flat {α β γ : Type} (f : γ → Option α → γ) (g : β → Option α) (es : List β) (acc : γ) : es.foldl (fun b x => f b (g x)) acc = (es.map g).foldl f acc := by rw [List.foldl_map]
theorem rows_add (kind : Str) : ∀ (sh : List Shp) (acc : List Key), sh.foldl (fun acc s => s.es.foldl (fun b x => addO b (selV kind x)) acc) (dedup acc) = dedup (acc ++ raw sh kind)
  | [], acc => by simp [raw]
  | s :: sh, acc => by
    rw [List.foldl_cons, fold_flat addO (selV kind), foldO_eq, rows_add kind sh]
    unfold raw
    rw [List.flatMap_cons, List.append_assoc, List.filterMap_map]
    rfl
theorem rows_push (kind : Str) : ∀ (sh : List Shp) (acc : List Key), sh.foldl (fun acc s => s.es.foldl (fun b x => pushO b (selV kind x)) acc) acc = acc ++ raw sh kind
  | [], acc => by simp [raw]
  | s :: sh, acc => by
    rw [List.foldl_cons, foldO_pushO, rows_push kind sh]
    unfold raw
    rw [List.flatMap_cons, List.append_assoc]
theorem sortK_len (ks : List Key) : (sortK ks).length ≤ 2 * ks.length := by
  unfold sortK
  rw [List.length_append, List.length_map, List.length_map, (sortI_perm _).length_eq, (sortS_perm _).length_eq]
  have h1 : (ks.filterMap getL).length ≤ ks.length := List.length_filterMap_le _ _
  have h2 : (ks.filterMap getR).length ≤ ks.length := List.length_filterMap_le _ _
  omega
theorem vals_len {sh : List Shp} (h : OkH sh) (kind : Str) : (vals sh kind).length ≤ 36 := by
  have h1 := sortK_len (dedup (raw sh kind))
  have h2 := dedup_len (raw sh kind)
  have h3 := raw_len h kind
  unfold vals
  omega
theorem literals_eq {sh : List Shp} (h : OkH sh) {kind : Str} (hk : PyData.strOk kind = true) : f_d_literals [encH sh, .str kind] = some (.tuple ((vals sh kind).map kD)) := by
  have hlen := h.len
  obtain ⟨ρ', e, ⟨k3, k4, k5, rfl, _⟩, ha⟩ := mFor_fold (mi := mSeqT (mVar 0)) (gm := asgD 3) (body := B_d_literals_2) (enc := encS) (ρ := [.dat (encH sh), .dat (.str kind), .own (.lst (([] : List Key).map kD)), .un, .un, .un]) (ρ0 := [.dat (encH sh), .dat (.str kind), .own (.lst (([] : List Key).map kD)), .un, .un, .un])
    (fun m acc ρ => (∃ k3 k4 k5, ρ = [.dat (encH sh), .dat (.str kind), .own (.lst (acc.map kD)), k3, k4, k5] ∧ np k3 = true ∧ np k4 = true ∧ np k5 = true) ∧ AccOk (6 * m) acc) (fun acc s => s.es.foldl (fun b x => addO b (selV kind x)) acc) sh (b := []) (by simp [runP, runB, runO, mSeq, mIfS, mThen, mAsB, mOp2, mBind, mVar, mC, mRet, mLift, mTup, mLst, mCons, mNil, mkSeq, frcs, app2, rdD, fIx, atI, ixN, fEq, fNe, asB, tru, truD, mTru, mNot, mAnd, mOr, fGt, fLt, fLe, fGe, fInt2, mAsg, frc, asgS, asgD_np, asgO_np, npAt, np_un, np_dat, np_own, newL, mNewL, mAppend, pushL, fTupleOf, mSeqT, mSeqL, seqT, seqL, stepS, stepC, wipeS, mOp1, app1, fIntOf, fAbs, fLen, fNeg, fMod, fMul, mulOk, fDiv, fPow, fSub, fPlus, fP1, fP2, fAdd, fAddS, fAddT, fAddL, mSetItem, isOL, asI, ownL, setL, mIf, mRetS, retD, mSkip, mCont, mBrk, mCall, appF, mCallB, appB, shaped_int, shaped_bool, PyData.eqv, ↓reduceIte, encH]) (fun m x hx acc ρ hI => by
      obtain ⟨⟨k3, k4, k5, rfl, n3, n4, n5⟩, ha⟩ := hI
      have hx' := List.mem_of_getElem? hx
      have hm := (List.getElem?_eq_some_iff.mp hx).1
      obtain ⟨l3, l4, l5, e, m3, m4, m5, ha'⟩ := lit_row (A := encH sh) hk n3 n4 n5 (h.ok x hx') ha (by omega)
      exact ⟨.nx, _, e, .inl rfl, ⟨l3, l4, l5, rfl, m3, m4, m5⟩, ha'⟩) ⟨⟨.un, .un, .un, rfl, rfl, rfl, rfl⟩, fun k hk => (nomatch hk), Nat.zero_le _⟩
  have er := rows_add kind sh []
  rw [show dedup ([] : List Key) = [] from rfl, List.nil_append] at er
  rw [er] at e
  have hd : (dedup (raw sh kind)).length < 64 := Nat.lt_of_le_of_lt (Nat.le_trans (dedup_len _) (raw_len h kind)) (by decide)
  have hs := fSort_k (ks := dedup (raw sh kind)) (b := (kind == "text")) (fun k hk => raw_isT k ((dedup_mem _ k).mp hk)) hd
  have e' : L_d_literals_3 [.dat (encH sh), .dat (.str kind), .own (.lst []), .un, .un, .un] = some (.nx, [.dat (encH sh), .dat (.str kind), .own (.lst ((dedup (raw sh kind)).map kD)), k3, k4, k5]) := e
  have hvl : (sortK (dedup (raw sh kind))).length ≤ 1000000 := Nat.le_trans (vals_len h kind) (by decide)
  simp [f_d_literals, m_d_literals, runP, runB, runO, mSeq, mIfS, mThen, mAsB, mOp2, mBind, mVar, mC, mRet, mLift, mTup, mLst, mCons, mNil, mkSeq, frcs, app2, rdD, fIx, atI, ixN, fEq, fNe, asB, tru, truD, mTru, mNot, mAnd, mOr, fGt, fLt, fLe, fGe, fInt2, mAsg, frc, asgS, asgD_np, asgO_np, npAt, np_un, np_dat, np_own, newL, mNewL, mAppend, pushL, fTupleOf, mSeqT, mSeqL, seqT, seqL, stepS, stepC, wipeS, mOp1, app1, fIntOf, fAbs, fLen, fNeg, fMod, fMul, mulOk, fDiv, fPow, fSub, fPlus, fP1, fP2, fAdd, fAddS, fAddT, fAddL, mSetItem, isOL, asI, ownL, setL, mIf, mRetS, retD, mSkip, mCont, mBrk, mCall, appF, mCallB, appB, shaped_int, shaped_bool, PyData.eqv, ↓reduceIte, e', hs, vals, hvl]
theorem law_values_eq {sh : List Shp} (h : OkH sh) {kind : Str} (hk : PyData.strOk kind = true) : f_d_law_values [encH sh, .str kind] = some (.list ((vals sh kind).map kD)) := by
  have hlen := h.len
  obtain ⟨ρ', e, ⟨k3, k4, rfl, _⟩, ha⟩ := mFor_fold (mi := mSeqT (mVar 0)) (gm := asgD 3) (body := B_d_law_values_2) (enc := encS) (ρ := [.dat (encH sh), .dat (.str kind), .own (.lst (([] : List Key).map kD)), .un, .un]) (ρ0 := [.dat (encH sh), .dat (.str kind), .own (.lst (([] : List Key).map kD)), .un, .un])
    (fun m acc ρ => (∃ k3 k4, ρ = [.dat (encH sh), .dat (.str kind), .own (.lst (acc.map kD)), k3, k4] ∧ np k3 = true ∧ np k4 = true) ∧ AccOk (6 * m) acc) (fun acc s => s.es.foldl (fun b x => pushO b (selV kind x)) acc) sh (b := []) (by simp [runP, runB, runO, mSeq, mIfS, mThen, mAsB, mOp2, mBind, mVar, mC, mRet, mLift, mTup, mLst, mCons, mNil, mkSeq, frcs, app2, rdD, fIx, atI, ixN, fEq, fNe, asB, tru, truD, mTru, mNot, mAnd, mOr, fGt, fLt, fLe, fGe, fInt2, mAsg, frc, asgS, asgD_np, asgO_np, npAt, np_un, np_dat, np_own, newL, mNewL, mAppend, pushL, fTupleOf, mSeqT, mSeqL, seqT, seqL, stepS, stepC, wipeS, mOp1, app1, fIntOf, fAbs, fLen, fNeg, fMod, fMul, mulOk, fDiv, fPow, fSub, fPlus, fP1, fP2, fAdd, fAddS, fAddT, fAddL, mSetItem, isOL, asI, ownL, setL, mIf, mRetS, retD, mSkip, mCont, mBrk, mCall, appF, mCallB, appB, shaped_int, shaped_bool, PyData.eqv, ↓reduceIte, encH]) (fun m x hx acc ρ hI => by
      obtain ⟨⟨k3, k4, rfl, n3, n4⟩, ha⟩ := hI
      have hx' := List.mem_of_getElem? hx
      have hm := (List.getElem?_eq_some_iff.mp hx).1
      obtain ⟨l3, l4, e, m3, m4, ha'⟩ := val_row (A := encH sh) hk n3 n4 (h.ok x hx') ha (by omega)
      exact ⟨.nx, _, e, .inl rfl, ⟨l3, l4, rfl, m3, m4⟩, ha'⟩) ⟨⟨.un, .un, rfl, rfl, rfl⟩, fun k hk => (nomatch hk), Nat.zero_le _⟩
  have er := rows_push kind sh []
  rw [List.nil_append] at er
  rw [er] at e
  have hd : (raw sh kind).length < 64 := Nat.lt_of_le_of_lt (raw_len h kind) (by decide)
  have hs := fSortSet_k (ks := raw sh kind) (b := (kind == "text")) (fun k hk => raw_isT k hk) hd
  have e' : L_d_law_values_3 [.dat (encH sh), .dat (.str kind), .own (.lst []), .un, .un] = some (.nx, [.dat (encH sh), .dat (.str kind), .own (.lst ((raw sh kind).map kD)), k3, k4]) := e
  simp [f_d_law_values, m_d_law_values, runP, runB, runO, mSeq, mIfS, mThen, mAsB, mOp2, mBind, mVar, mC, mRet, mLift, mTup, mLst, mCons, mNil, mkSeq, frcs, app2, rdD, fIx, atI, ixN, fEq, fNe, asB, tru, truD, mTru, mNot, mAnd, mOr, fGt, fLt, fLe, fGe, fInt2, mAsg, frc, asgS, asgD_np, asgO_np, npAt, np_un, np_dat, np_own, newL, mNewL, mAppend, pushL, fTupleOf, mSeqT, mSeqL, seqT, seqL, stepS, stepC, wipeS, mOp1, app1, fIntOf, fAbs, fLen, fNeg, fMod, fMul, mulOk, fDiv, fPow, fSub, fPlus, fP1, fP2, fAdd, fAddS, fAddT, fAddL, mSetItem, isOL, asI, ownL, setL, mIf, mRetS, retD, mSkip, mCont, mBrk, mCall, appF, mCallB, appB, shaped_int, shaped_bool, PyData.eqv, ↓reduceIte, e', hs, vals]
end K10
namespace K10
open PySem L2 Dat
/-! ### the places that entries name -/
def selP : Ent → Option Key
  | .p _ _ i => some (.inl (i : Int))
  | _ => none
def prm (s : Shp) : List Key := s.es.filterMap selP
def inKeys (s : Shp) (i : Nat) : Bool := (prm s).any fun j => decide (j = .inl (i : Int))
theorem selP_ok {e : Ent} {k : Key} (h : selP e = some k) : okK k = true ∧ isT k = false := by
  cases e with
  | a _ => simp [selP] at h
  | v _ _ _ => simp [selP] at h
  | p w t i => simp only [selP] at h; injection h with h; rw [← h]; exact ⟨rfl, rfl⟩
theorem prm_ok {s : Shp} : ∀ k ∈ prm s, okK k = true ∧ isT k = false := fun k hk => by
  obtain ⟨e, _, h⟩ := List.mem_filterMap.mp hk
  exact selP_ok h
theorem prm_len {s : Shp} (h : OkS s) : (prm s).length ≤ 6 := Nat.le_trans (List.length_filterMap_le _ _) h.es
theorem named_step {A : D} {j2 : Sl} (h2 : np j2 = true) {e : Ent} (he : okE e) {acc : List Key} {n : Nat} (ha : AccOk n acc) (hn : n < 1000) :
    ∃ k2, stepS (asgD 2) B_d_named_0 (encE e) [.dat A, .own (.lst (acc.map kD)), j2] = some (.nx, [.dat A, .own (.lst ((addO acc (selP e)).map kD)), k2]) ∧ np k2 = true := by
  have hlen := ha.2
  have hlt : acc.length < 1000000 := by omega
  cases e with
  | a t =>
    refine ⟨.dat (encE (.a t)), ?_, rfl⟩
    simp [B_d_named_0, runP, runB, runO, mSeq, mIfS, mThen, mAsB, mOp2, mBind, mVar, mC, mRet, mLift, mTup, mLst, mCons, mNil, mkSeq, frcs, app2, rdD, fIx, atI, ixN, fEq, fNe, asB, tru, truD, mTru, mNot, mAnd, mOr, fGt, fLt, fLe, fGe, fInt2, mAsg, frc, asgS, asgD_np, asgO_np, npAt, np_un, np_dat, np_own, newL, mNewL, mAppend, pushL, fTupleOf, mSeqT, mSeqL, seqT, seqL, stepS, stepC, wipeS, mOp1, app1, fIntOf, fAbs, fLen, fNeg, fMod, fMul, mulOk, fDiv, fPow, fSub, fPlus, fP1, fP2, fAdd, fAddS, fAddT, fAddL, mSetItem, isOL, asI, ownL, setL, mIf, mRetS, retD, mSkip, mCont, mBrk, mCall, appF, mCallB, appB, shaped_int, shaped_bool, PyData.eqv, ↓reduceIte, h2, encE, shaped_lit ok_a, selP, addO]
  | v w t k =>
    refine ⟨.dat (encE (.v w t k)), ?_, rfl⟩
    simp [B_d_named_0, runP, runB, runO, mSeq, mIfS, mThen, mAsB, mOp2, mBind, mVar, mC, mRet, mLift, mTup, mLst, mCons, mNil, mkSeq, frcs, app2, rdD, fIx, atI, ixN, fEq, fNe, asB, tru, truD, mTru, mNot, mAnd, mOr, fGt, fLt, fLe, fGe, fInt2, mAsg, frc, asgS, asgD_np, asgO_np, npAt, np_un, np_dat, np_own, newL, mNewL, mAppend, pushL, fTupleOf, mSeqT, mSeqL, seqT, seqL, stepS, stepC, wipeS, mOp1, app1, fIntOf, fAbs, fLen, fNeg, fMod, fMul, mulOk, fDiv, fPow, fSub, fPlus, fP1, fP2, fAdd, fAddS, fAddT, fAddL, mSetItem, isOL, asI, ownL, setL, mIf, mRetS, retD, mSkip, mCont, mBrk, mCall, appF, mCallB, appB, shaped_int, shaped_bool, PyData.eqv, ↓reduceIte, h2, encE, shaped_lit ok_a, shaped_lit (ok_rw w), ne_rwa, shaped_lit ok_param, shaped_lit ok_value, ne_vp, selP, addO]
  | p w t i =>
    refine ⟨.dat (encE (.p w t i)), ?_, rfl⟩
    have hni : fNotInS (.int (i : Int)) (.list (acc.map kD)) = some (.bool (!acc.any fun j => decide (j = .inl (i : Int)))) := notIn_k (k := .inl (i : Int)) ha.1 rfl
    by_cases c2 : (acc.any fun j => decide (j = .inl (i : Int))) = true
    · simp [B_d_named_0, runP, runB, runO, mSeq, mIfS, mThen, mAsB, mOp2, mBind, mVar, mC, mRet, mLift, mTup, mLst, mCons, mNil, mkSeq, frcs, app2, rdD, fIx, atI, ixN, fEq, fNe, asB, tru, truD, mTru, mNot, mAnd, mOr, fGt, fLt, fLe, fGe, fInt2, mAsg, frc, asgS, asgD_np, asgO_np, npAt, np_un, np_dat, np_own, newL, mNewL, mAppend, pushL, fTupleOf, mSeqT, mSeqL, seqT, seqL, stepS, stepC, wipeS, mOp1, app1, fIntOf, fAbs, fLen, fNeg, fMod, fMul, mulOk, fDiv, fPow, fSub, fPlus, fP1, fP2, fAdd, fAddS, fAddT, fAddL, mSetItem, isOL, asI, ownL, setL, mIf, mRetS, retD, mSkip, mCont, mBrk, mCall, appF, mCallB, appB, shaped_int, shaped_bool, PyData.eqv, ↓reduceIte, h2, encE, shaped_lit ok_a, shaped_lit (ok_rw w), ne_rwa, shaped_lit ok_param, hni, c2, selP, addO, addG]
    · have c2 : (acc.any fun j => decide (j = .inl (i : Int))) = false := Bool.eq_false_iff.mpr c2
      simp [B_d_named_0, runP, runB, runO, mSeq, mIfS, mThen, mAsB, mOp2, mBind, mVar, mC, mRet, mLift, mTup, mLst, mCons, mNil, mkSeq, frcs, app2, rdD, fIx, atI, ixN, fEq, fNe, asB, tru, truD, mTru, mNot, mAnd, mOr, fGt, fLt, fLe, fGe, fInt2, mAsg, frc, asgS, asgD_np, asgO_np, npAt, np_un, np_dat, np_own, newL, mNewL, mAppend, pushL, fTupleOf, mSeqT, mSeqL, seqT, seqL, stepS, stepC, wipeS, mOp1, app1, fIntOf, fAbs, fLen, fNeg, fMod, fMul, mulOk, fDiv, fPow, fSub, fPlus, fP1, fP2, fAdd, fAddS, fAddT, fAddL, mSetItem, isOL, asI, ownL, setL, mIf, mRetS, retD, mSkip, mCont, mBrk, mCall, appF, mCallB, appB, shaped_int, shaped_bool, PyData.eqv, ↓reduceIte, h2, encE, shaped_lit ok_a, shaped_lit (ok_rw w), ne_rwa, shaped_lit ok_param, hni, c2, selP, addO, addG, hlt, kD]
theorem named_eq {s : Shp} (h : OkS s) : f_d_named [encS s] = some (.tuple ((sortK (dedup (prm s))).map kD)) := by
  have hes := h.es
  obtain ⟨ρ', e, ⟨k2, rfl, _⟩, ha⟩ := mFor_fold (mi := mSeqT (mOp2 fIx (mVar 0) (mC (.int 2)))) (gm := asgD 2) (body := B_d_named_0) (enc := encE) (ρ := [.dat (encS s), .own (.lst (([] : List Key).map kD)), .un]) (ρ0 := [.dat (encS s), .own (.lst (([] : List Key).map kD)), .un])
    (fun m acc ρ => (∃ k2, ρ = [.dat (encS s), .own (.lst (acc.map kD)), k2] ∧ np k2 = true) ∧ AccOk m acc) (fun acc e => addO acc (selP e)) s.es (b := []) (by simp [runP, runB, runO, mSeq, mIfS, mThen, mAsB, mOp2, mBind, mVar, mC, mRet, mLift, mTup, mLst, mCons, mNil, mkSeq, frcs, app2, rdD, fIx, atI, ixN, fEq, fNe, asB, tru, truD, mTru, mNot, mAnd, mOr, fGt, fLt, fLe, fGe, fInt2, mAsg, frc, asgS, asgD_np, asgO_np, npAt, np_un, np_dat, np_own, newL, mNewL, mAppend, pushL, fTupleOf, mSeqT, mSeqL, seqT, seqL, stepS, stepC, wipeS, mOp1, app1, fIntOf, fAbs, fLen, fNeg, fMod, fMul, mulOk, fDiv, fPow, fSub, fPlus, fP1, fP2, fAdd, fAddS, fAddT, fAddL, mSetItem, isOL, asI, ownL, setL, mIf, mRetS, retD, mSkip, mCont, mBrk, mCall, appF, mCallB, appB, shaped_int, shaped_bool, PyData.eqv, ↓reduceIte, encS]) (fun m x hx acc ρ hI => by
      obtain ⟨⟨k2, rfl, n2⟩, ha⟩ := hI
      have hx' := List.mem_of_getElem? hx
      have hm := (List.getElem?_eq_some_iff.mp hx).1
      obtain ⟨l2, e, m2⟩ := named_step (A := encS s) n2 (h.ok x hx') ha (by omega)
      refine ⟨.nx, _, e, .inl rfl, ⟨l2, rfl, m2⟩, ?_⟩
      cases q : selP x with
      | none => exact ha.up (Nat.le_succ m)
      | some k => exact ha.addG (selP_ok q).1) ⟨⟨.un, rfl, rfl⟩, fun k hk => (nomatch hk), Nat.zero_le _⟩
  have er : s.es.foldl (fun acc e => addO acc (selP e)) [] = dedup (prm s) := by
    rw [fold_flat addO selP]
    have := foldO_eq (s.es.map selP) []
    rw [show dedup ([] : List Key) = [] from rfl, List.nil_append, List.filterMap_map] at this
    exact this
  rw [er] at e
  have hd : (dedup (prm s)).length ≤ 6 := Nat.le_trans (dedup_len _) (prm_len h)
  have hs := fSort_k (ks := dedup (prm s)) (b := false) (fun k hk => (prm_ok k ((dedup_mem _ k).mp hk)).2) (by omega)
  have e' : L_d_named_1 [.dat (encS s), .own (.lst []), .un] = some (.nx, [.dat (encS s), .own (.lst ((dedup (prm s)).map kD)), k2]) := e
  have hvl : (sortK (dedup (prm s))).length ≤ 1000000 := by have := sortK_len (dedup (prm s)); omega
  simp [f_d_named, m_d_named, runP, runB, runO, mSeq, mIfS, mThen, mAsB, mOp2, mBind, mVar, mC, mRet, mLift, mTup, mLst, mCons, mNil, mkSeq, frcs, app2, rdD, fIx, atI, ixN, fEq, fNe, asB, tru, truD, mTru, mNot, mAnd, mOr, fGt, fLt, fLe, fGe, fInt2, mAsg, frc, asgS, asgD_np, asgO_np, npAt, np_un, np_dat, np_own, newL, mNewL, mAppend, pushL, fTupleOf, mSeqT, mSeqL, seqT, seqL, stepS, stepC, wipeS, mOp1, app1, fIntOf, fAbs, fLen, fNeg, fMod, fMul, mulOk, fDiv, fPow, fSub, fPlus, fP1, fP2, fAdd, fAddS, fAddT, fAddL, mSetItem, isOL, asI, ownL, setL, mIf, mRetS, retD, mSkip, mCont, mBrk, mCall, appF, mCallB, appB, shaped_int, shaped_bool, PyData.eqv, ↓reduceIte, e', hs, hvl]
theorem sortK_mem {ks : List Key} (k : Key) : k ∈ sortK ks ↔ k ∈ ks := by
  unfold sortK
  rw [List.mem_append, List.mem_map, List.mem_map]
  constructor
  · rintro (⟨n, h1, rfl⟩ | ⟨n, h1, rfl⟩)
    · obtain ⟨k, h2, h3⟩ := List.mem_filterMap.mp ((sortI_perm _).mem_iff.mp h1)
      cases k with
      | inl i => simp only [getL] at h3; injection h3 with h3; rw [← h3]; exact h2
      | inr x => simp [getL] at h3
    · obtain ⟨k, h2, h3⟩ := List.mem_filterMap.mp ((sortS_perm _).mem_iff.mp h1)
      cases k with
      | inr i => simp only [getR] at h3; injection h3 with h3; rw [← h3]; exact h2
      | inl x => simp [getR] at h3
  · intro h
    cases k with
    | inl i => exact .inl ⟨i, (sortI_perm _).mem_iff.mpr (List.mem_filterMap.mpr ⟨.inl i, h, rfl⟩), rfl⟩
    | inr x => exact .inr ⟨x, (sortS_perm _).mem_iff.mpr (List.mem_filterMap.mpr ⟨.inr x, h, rfl⟩), rfl⟩
theorem any_eqv (ks : List Key) (k : Key) : ((ks.map kD).any fun z => PyData.eqv z (kD k)) = ks.any fun j => decide (j = k) := by
  rw [List.any_map]
  congr 1
  funext j
  exact eqv_k j k
theorem any_mem {ks ls : List Key} (h : ∀ k, k ∈ ks ↔ k ∈ ls) (k : Key) : (ks.any fun j => decide (j = k)) = ls.any fun j => decide (j = k) := by
  rw [Bool.eq_iff_iff, any_key, any_key]
  exact h k
theorem flat_k (k : Key) : flatD (kD k) = true := by cases k <;> rfl
theorem in_named {s : Shp} (i : Nat) : fInS (.int (i : Int)) (.tuple ((sortK (dedup (prm s))).map kD)) = some (.bool (inKeys s i)) := by
  have e := any_eqv (sortK (dedup (prm s))) (.inl (i : Int))
  have e2 := any_mem (ks := sortK (dedup (prm s))) (ls := prm s) (fun k => by rw [sortK_mem, dedup_mem]) (.inl (i : Int))
  have hf : ((sortK (dedup (prm s))).map kD).all flatD = true := by
    rw [List.all_map, List.all_eq_true]
    exact fun k _ => flat_k k
  have e3 : ((sortK (dedup (prm s))).map kD).any (fun z => PyData.eqv z (.int (i : Int))) = inKeys s i := e.trans e2
  unfold fInS fIn fInT
  simp only [hf, e3, flatD, and_self, ↓reduceIte]
theorem in_prm {s : Shp} (i : Nat) : fInS (.int (i : Int)) (.list ((prm s).map kD)) = some (.bool (inKeys s i)) := by
  have h1 : SeqAt.shaped (.list ((prm s).map kD)) = true := (Shd.list fun x hx => shd_k (prm_ok x hx).1).shaped (by decide)
  have e3 : ((prm s).map kD).any (fun z => PyData.eqv z (.int (i : Int))) = inKeys s i := any_eqv (prm s) (.inl (i : Int))
  unfold fInS fIn
  simp only [shaped_int, h1, e3, and_self, ↓reduceIte]
theorem notIn_prm {s : Shp} (i : Nat) : fNotInS (.int (i : Int)) (.list ((prm s).map kD)) = some (.bool (!inKeys s i)) := by
  have h1 : SeqAt.shaped (.list ((prm s).map kD)) = true := (Shd.list fun x hx => shd_k (prm_ok x hx).1).shaped (by decide)
  have e3 : ((prm s).map kD).any (fun z => PyData.eqv z (.int (i : Int))) = inKeys s i := any_eqv (prm s) (.inl (i : Int))
  unfold fNotInS fNotIn
  simp only [shaped_int, h1, e3, and_self, ↓reduceIte]
/-! ### rows -/
inductive Sg where
  | c (n : Nat)
  | l (k : Key)
def encG : Sg → D
  | .c n => .tuple [.int 0, .int (n : Int)]
  | .l k => .tuple [.int 1, kD k]
def encR (r : List Sg) : D := .tuple (r.map encG)
def cl : Sg → Option Nat
  | .c n => some n
  | .l _ => none
def okG : Sg → Bool
  | .c _ => true
  | .l k => okK k
def oldAt (s : Shp) (r : List Sg) (t : Str) (i : Nat) : Option Nat := if (inKeys s i && decide (s.ps[i]? = some t)) = true then r[i]?.bind cl else none
def old (s : Shp) (r : List Sg) (t : Str) : List Nat := (List.range r.length).filterMap (oldAt s r t)
def opts (sh : List Shp) (s : Shp) (r : List Sg) (k : Nat) : List Sg :=
  if inKeys s r.length = true then (dedup (old s r (s.ps.getD r.length ""))).map Sg.c ++ [.c k] ++ (vals sh (s.ps.getD r.length "")).map Sg.l else [.c k]
/-- each stands in the list so far, or is more than all of it -/
inductive Gw : List Nat → Prop
  | nil : Gw []
  | snoc {l : List Nat} {n : Nat} : Gw l → (n ∈ l ∨ ∀ m ∈ l, m < n) → Gw (l ++ [n])
theorem Gw.rise {l : List Nat} (h : Gw l) : (dedup l).Pairwise (· < ·) := by
  induction h with
  | nil => exact List.Pairwise.nil
  | snoc h1 h2 ih =>
    rename_i l n
    have e : dedup (l ++ [n]) = addG (dedup l) n := by unfold dedup; rw [List.foldl_append]; rfl
    rw [e]
    unfold addG
    split
    · exact ih
    · rename_i hn
      refine List.pairwise_append.mpr ⟨ih, List.pairwise_singleton _ _, fun a ha b hb => ?_⟩
      rw [List.mem_singleton] at hb
      subst hb
      rcases h2 with h2 | h2
      · exact absurd (List.any_eq_true.mpr ⟨b, (dedup_mem l b).mpr h2, decide_eq_true rfl⟩) hn
      · exact h2 a ((dedup_mem l a).mp ha)
structure RowOk (s : Shp) (r : List Sg) (k : Nat) : Prop where
  cls : ∀ n, n ∈ r.filterMap cl ↔ n < k
  kle : k ≤ r.length
  gw : ∀ t, Gw (old s r t)
  ok : ∀ g ∈ r, okG g = true
theorem old_sub {s : Shp} {r : List Sg} {t : Str} {n : Nat} (h : n ∈ old s r t) : n ∈ r.filterMap cl := by
  obtain ⟨i, _, h2⟩ := List.mem_filterMap.mp h
  unfold oldAt at h2
  split at h2
  · cases q : r[i]? with
    | none => rw [q] at h2; cases h2
    | some g =>
      rw [q] at h2
      exact List.mem_filterMap.mpr ⟨g, List.mem_of_getElem? q, h2⟩
  · cases h2
theorem filterMap_same {α β : Type} {f g : α → Option β} : ∀ {l : List α}, (∀ x ∈ l, f x = g x) → l.filterMap f = l.filterMap g
  | [], _ => rfl
  | x :: l, h => by
    rw [List.filterMap_cons, List.filterMap_cons, h x List.mem_cons_self, filterMap_same fun y hy => h y (List.mem_cons_of_mem _ hy)]
theorem filterMap_one {α β : Type} (f : α → Option β) (x : α) : [x].filterMap f = (f x).toList := by
  rw [List.filterMap_cons, List.filterMap_nil]
  cases f x <;> rfl
theorem old_snoc (s : Shp) (r : List Sg) (g : Sg) (t : Str) : old s (r ++ [g]) t = old s r t ++ (if (inKeys s r.length && decide (s.ps[r.length]? = some t)) = true then (cl g).toList else []) := by
  unfold old
  rw [List.length_append, List.length_singleton, List.range_succ, List.filterMap_append]
  have e1 : (List.range r.length).filterMap (oldAt s (r ++ [g]) t) = (List.range r.length).filterMap (oldAt s r t) := by
    apply filterMap_same
    intro i hi
    have hi := List.mem_range.mp hi
    unfold oldAt
    rw [List.getElem?_append_left hi]
  have e2 : oldAt s (r ++ [g]) t r.length = if (inKeys s r.length && decide (s.ps[r.length]? = some t)) = true then cl g else none := by
    unfold oldAt
    rw [List.getElem?_append_right (Nat.le_refl _), Nat.sub_self]
    rfl
  rw [e1, filterMap_one, e2]
  congr 1
  by_cases c : (inKeys s r.length && decide (s.ps[r.length]? = some t)) = true
  · rw [if_pos c, if_pos c]
  · rw [if_neg c, if_neg c]; rfl
theorem vals_ok {sh : List Shp} (h : OkH sh) (kind : Str) : ∀ k ∈ vals sh kind, okK k = true := fun k hk => by
  unfold vals at hk
  rw [sortK_mem, dedup_mem] at hk
  obtain ⟨s, h1, h2⟩ := List.mem_flatMap.mp hk
  obtain ⟨e, h3, h4⟩ := List.mem_filterMap.mp h2
  exact selV_ok h4 ((h.ok s h1).ok e h3)
theorem RowOk.nil (s : Shp) : RowOk s [] 0 := ⟨fun n => by simp, Nat.le_refl _, fun t => .nil, fun g h => nomatch h⟩
theorem RowOk.next {sh : List Shp} (hh : OkH sh) {s : Shp} {r : List Sg} {k : Nat} (h : RowOk s r k) {g : Sg} (hg : g ∈ opts sh s r k) : ∃ k', RowOk s (r ++ [g]) k' := by
  have hnew : g = .c k → ∃ k', RowOk s (r ++ [g]) k' := fun e => by
    subst e
    refine ⟨k + 1, ⟨fun n => ?_, by rw [List.length_append, List.length_singleton]; exact Nat.succ_le_succ h.kle, fun t => ?_, fun g hg => ?_⟩⟩
    · rw [List.filterMap_append, List.mem_append, h.cls n]
      simp [cl]; omega
    · rw [old_snoc]
      split
      · exact (h.gw t).snoc (.inr fun m hm => (h.cls m).mp (old_sub hm))
      · rw [List.append_nil]; exact h.gw t
    · rcases List.mem_append.mp hg with hg | hg
      · exact h.ok g hg
      · rw [List.mem_singleton] at hg; rw [hg]; rfl
  unfold opts at hg
  split at hg
  · rename_i hin
    rcases List.mem_append.mp hg with hg | hg
    · rcases List.mem_append.mp hg with hg | hg
      · obtain ⟨n, hn, rfl⟩ := List.mem_map.mp hg
        have hn := (dedup_mem _ n).mp hn
        refine ⟨k, ⟨fun m => ?_, by rw [List.length_append]; exact Nat.le_trans h.kle (Nat.le_add_right _ _), fun t => ?_, fun g hg => ?_⟩⟩
        · rw [List.filterMap_append, List.mem_append, h.cls m]
          have := (h.cls n).mp (old_sub hn)
          simp [cl]; omega
        · rw [old_snoc]
          split
          · rename_i c
            rw [Bool.and_eq_true, decide_eq_true_eq] at c
            refine (h.gw t).snoc (.inl ?_)
            rw [List.getD_eq_getElem?_getD, c.2] at hn
            exact hn
          · rw [List.append_nil]; exact h.gw t
        · rcases List.mem_append.mp hg with hg | hg
          · exact h.ok g hg
          · rw [List.mem_singleton] at hg; rw [hg]; rfl
      · exact hnew (List.mem_singleton.mp hg)
    · obtain ⟨v, hv, rfl⟩ := List.mem_map.mp hg
      refine ⟨k, ⟨fun m => ?_, by rw [List.length_append]; exact Nat.le_trans h.kle (Nat.le_add_right _ _), fun t => ?_, fun g hg => ?_⟩⟩
      · rw [List.filterMap_append, List.mem_append, h.cls m]
        simp [cl]
      · rw [old_snoc]
        have e : (cl (Sg.l v)).toList = [] := rfl
        rw [e]
        simp only [ite_self, List.append_nil]
        exact h.gw t
      · rcases List.mem_append.mp hg with hg | hg
        · exact h.ok g hg
        · rw [List.mem_singleton] at hg; rw [hg]; exact vals_ok hh _ v hv
  · exact hnew (List.mem_singleton.mp hg)
end K10
namespace K10
open PySem L2 Dat
/-! ### reading the encoded -/
theorem ix_ps (s : Shp) : fIx (encS s) (.int 1) = some (.tuple (s.ps.map .str)) := rfl
theorem ix_es (s : Shp) : fIx (encS s) (.int 2) = some (.tuple (s.es.map encE)) := rfl
theorem ix_at {α : Type} {f : α → D} {xs : List α} {i : Nat} {x : α} (h : xs[i]? = some x) : fIx (.tuple (xs.map f)) (.int (i : Int)) = some (f x) := by
  have hi := (List.getElem?_eq_some_iff.mp h).1
  show atI (xs.map f) (i : Int) = some (f x)
  unfold atI ixN
  have h1 : (0 : Int) ≤ (i : Int) := by omega
  have h2 : (i : Int) < ((xs.map f).length : Int) := by rw [List.length_map]; omega
  rw [if_pos h1, if_pos h2, Option.bind_some, Int.toNat_natCast, List.getElem?_map, h]
  rfl
theorem len_R (r : List Sg) : fLen (encR r) = some (.int (r.length : Int)) := by
  show some (PyData.int ((r.map encG).length : Int)) = _
  rw [List.length_map]
theorem ix_c0 (n : Nat) : fIx (encG (.c n)) (.int 0) = some (.int 0) := rfl
theorem ix_c1 (n : Nat) : fIx (encG (.c n)) (.int 1) = some (.int (n : Int)) := rfl
theorem ix_l0 (k : Key) : fIx (encG (.l k)) (.int 0) = some (.int 1) := rfl
theorem ix_l1 (k : Key) : fIx (encG (.l k)) (.int 1) = some (kD k) := rfl
theorem eq_ii (i j : Int) : fEq (.int i) (.int j) = some (.bool (i == j)) := by
  unfold fEq
  rw [if_pos ⟨rfl, rfl⟩]; rfl
theorem eq_ss {x y : Str} (hx : PyData.strOk x = true) (hy : PyData.strOk y = true) : fEq (.str x) (.str y) = some (.bool (x == y)) := by
  unfold fEq
  rw [if_pos ⟨shaped_lit hx, shaped_lit hy⟩]; rfl
theorem ne_ss {x y : Str} (hx : PyData.strOk x = true) (hy : PyData.strOk y = true) : fNe (.str x) (.str y) = some (.bool (!(x == y))) := by
  unfold fNe
  rw [if_pos ⟨shaped_lit hx, shaped_lit hy⟩]; rfl
theorem plus_ii (i j : Int) : fPlus (.int i) (.int j) = some (.int (i + j)) := rfl
theorem plus_ll {xs ys : List D} (h : xs.length + ys.length ≤ 1000000) : fPlus (.list xs) (.list ys) = some (.list (xs ++ ys)) := by
  show fAddL (.list xs) (.list ys) = _
  show (if xs.length + ys.length ≤ BIG then some (PyData.list (xs ++ ys)) else none) = _
  rw [if_pos h]
theorem plus_tt {xs ys : List D} (h : xs.length + ys.length ≤ 1000000) : fPlus (.tuple xs) (.tuple ys) = some (.tuple (xs ++ ys)) := by
  have e : fAddT (.tuple xs) (.tuple ys) = some (.tuple (xs ++ ys)) := by
    show (if xs.length + ys.length ≤ BIG then some (PyData.tuple (xs ++ ys)) else none) = _
    rw [if_pos h]
  unfold fPlus fP2 fP1 fAdd fInt2 fAddS
  simp only [e]
theorem shd_g {g : Sg} (h : okG g = true) : Shd 1 (encG g) := by
  cases g with
  | c n => exact ⟨rfl, Nat.le_refl _⟩
  | l k =>
    have := shd_k (k := k) h
    refine ⟨?_, ?_⟩
    · show (true && (PyData.canLay0 (kD k) && true)) = true
      rw [this.1]; rfl
    · show max 0 (max (PyData.depth (kD k)) 0) + 1 ≤ 1
      have := this.2
      omega
theorem eqv_c (n m : Nat) : PyData.eqv (encG (.c n)) (encG (.c m)) = decide (n = m) := by
  show PyData.eqv (.tuple [.int 0, .int (n : Int)]) (.tuple [.int 0, .int (m : Int)]) = _
  simp only [PyData.eqv, PyData.eqvAll, BEq.rfl, Bool.true_and, Bool.and_true]
  exact Bool.eq_iff_iff.mpr (by simp; omega)
def encC (n : Nat) : D := encG (.c n)
theorem notIn_c (acc : List Nat) (n : Nat) : fNotInS (encG (.c n)) (.list (acc.map encC)) = some (.bool (!acc.any fun j => decide (j = n))) := by
  have h1 : SeqAt.shaped (.list (acc.map encC)) = true := (Shd.list (n := 1) fun x hx => shd_g (g := .c x) rfl).shaped (by decide)
  have h2 : SeqAt.shaped (encG (.c n)) = true := (shd_g (g := .c n) rfl).shaped (by decide)
  have e : ((acc.map encC).any fun z => PyData.eqv z (encG (.c n))) = acc.any fun j => decide (j = n) := by
    rw [List.any_map]
    congr 1
    funext j
    exact eqv_c j n
  unfold fNotInS fNotIn
  simp only [h1, h2, and_self, ↓reduceIte, e]
def clD (g : Sg) : Option D := (cl g).map fun n => .int (n : Int)
theorem clD_map (r : List Sg) : r.filterMap clD = (r.filterMap cl).map fun (n : Nat) => PyData.int (n : Int) := by
  induction r with
  | nil => rfl
  | cons g r ih => cases g <;> simp [clD, cl, List.filterMap_cons] at ih ⊢ <;> exact ih
abbrev cD (r : List Sg) : D := .list ((r.filterMap cl).map fun (n : Nat) => .int (n : Int))
theorem fs_classes {a0 a1 a3 a4 a5 : D} {o6 : Sl} {r : List Sg} (hr : r.length ≤ 3) (ok : ∀ g ∈ r, okG g = true) :
    L_d_first_signs_6 [.dat a0, .dat a1, .dat (encR r), .dat a3, .dat a4, .dat a5, o6, .un, .un, .un, .un] = some (.ok (.dat (cD r)), [.dat a0, .dat a1, .dat (encR r), .dat a3, .dat a4, .dat a5, o6, .un, .un, .un, .un]) := by
  have := mLc_pure (mi := mSeqT (mVar 2)) (gm := asgD 8) (mt := T_d_first_signs_5) (me := E_d_first_signs_4) (vs := [8]) (enc := encG) clD r (ρ := [.dat a0, .dat a1, .dat (encR r), .dat a3, .dat a4, .dat a5, o6, .un, .un, .un, .un]) (ρ0 := [.dat a0, .dat a1, .dat (encR r), .dat a3, .dat a4, .dat a5, o6, .un, .un, .un, .un])
    (by simp [runP, runB, runO, mSeq, mIfS, mThen, mAsB, mOp2, mBind, mVar, mC, mRet, mLift, mTup, mLst, mCons, mNil, mkSeq, frcs, app2, rdD, asB, tru, truD, mTru, mNot, mAnd, mOr, fGt, fLt, fLe, fGe, fInt2, mAsg, frc, asgS, asgD_np, asgO_np, npAt, np_un, np_dat, np_own, newL, mNewL, mAppend, pushL, mSeqT, mSeqL, seqT, seqL, stepS, stepC, wipeS, mOp1, app1, fIntOf, fAbs, fNeg, fMod, fMul, mulOk, fDiv, fPow, fSub, mSetItem, isOL, asI, ownL, setL, mIf, mRetS, retD, mSkip, mCont, mBrk, mCall, appF, mCallB, appB, shaped_int, shaped_bool, BIG, ↓reduceIte, encR]) (by show r.length ≤ 1000000; omega) (fun g hg => by
      cases g with
      | c n => simp [T_d_first_signs_5, E_d_first_signs_4, runP, runB, runO, mSeq, mIfS, mThen, mAsB, mOp2, mBind, mVar, mC, mRet, mLift, mTup, mLst, mCons, mNil, mkSeq, frcs, app2, rdD, asB, tru, truD, mTru, mNot, mAnd, mOr, fGt, fLt, fLe, fGe, fInt2, mAsg, frc, asgS, asgD_np, asgO_np, npAt, np_un, np_dat, np_own, newL, mNewL, mAppend, pushL, mSeqT, mSeqL, seqT, seqL, stepS, stepC, wipeS, mOp1, app1, fIntOf, fAbs, fNeg, fMod, fMul, mulOk, fDiv, fPow, fSub, mSetItem, isOL, asI, ownL, setL, mIf, mRetS, retD, mSkip, mCont, mBrk, mCall, appF, mCallB, appB, shaped_int, shaped_bool, BIG, ↓reduceIte, ix_c0, ix_c1, eq_ii, clD, cl]
      | l k => simp [T_d_first_signs_5, E_d_first_signs_4, runP, runB, runO, mSeq, mIfS, mThen, mAsB, mOp2, mBind, mVar, mC, mRet, mLift, mTup, mLst, mCons, mNil, mkSeq, frcs, app2, rdD, asB, tru, truD, mTru, mNot, mAnd, mOr, fGt, fLt, fLe, fGe, fInt2, mAsg, frc, asgS, asgD_np, asgO_np, npAt, np_un, np_dat, np_own, newL, mNewL, mAppend, pushL, mSeqT, mSeqL, seqT, seqL, stepS, stepC, wipeS, mOp1, app1, fIntOf, fAbs, fNeg, fMod, fMul, mulOk, fDiv, fPow, fSub, mSetItem, isOL, asI, ownL, setL, mIf, mRetS, retD, mSkip, mCont, mBrk, mCall, appF, mCallB, appB, shaped_int, shaped_bool, BIG, ↓reduceIte, ix_l0, ix_l1, eq_ii, clD, cl])
  unfold L_d_first_signs_6
  rw [this, clD_map]
  rfl
/-- a turn of the loop over what was chosen -/
theorem fs_step {sh : List Shp} {s : Shp} {r : List Sg} {t : Str} (hs : OkS s) (hlt : r.length < s.ps.length) (ht : s.ps[r.length]? = some t) {a7 : D} {j8 j9 j10 : Sl} (h8 : np j8 = true) (h9 : np j9 = true) {i : Nat} {g : Sg} (hg : r[i]? = some g) {acc : List Nat} (hl : acc.length < 1000) :
    ∃ k8 k9, stepS (gmTup 2 (gmCons (asgD 9) (gmCons (asgD 8) gmNil))) B_d_first_signs_2 (.tuple [.int (i : Int), encG g]) [.dat (encH sh), .dat (encS s), .dat (encR r), .dat (.tuple (s.ps.map .str)), .dat (.int (r.length : Int)), .dat (.tuple ((sortK (dedup (prm s))).map kD)), .own (.lst (acc.map encC)), .dat a7, j8, j9, j10] =
      some (.nx, [.dat (encH sh), .dat (encS s), .dat (encR r), .dat (.tuple (s.ps.map .str)), .dat (.int (r.length : Int)), .dat (.tuple ((sortK (dedup (prm s))).map kD)), .own (.lst ((addO acc (oldAt s r t i)).map encC)), .dat a7, k8, k9, j10]) ∧ np k8 = true ∧ np k9 = true := by
  have hi : i < s.ps.length := by have := (List.getElem?_eq_some_iff.mp hg).1; omega
  have e1 := ix_at (f := PyData.str) (List.getElem?_eq_getElem hi)
  have e2 := ix_at (f := PyData.str) ht
  have o1 := hs.st _ (List.getElem_mem hi)
  have o2 := hs.st _ (List.mem_of_getElem? ht)
  have eps : s.ps[i]? = some s.ps[i] := List.getElem?_eq_getElem hi
  refine ⟨.dat (encG g), .dat (.int (i : Int)), ?_, rfl, rfl⟩
  have hl2 : acc.length < 1000000 := by omega
  by_cases ck : inKeys s i = true
  · cases g with
    | l k =>
      simp [B_d_first_signs_2, gmTup, gmCons, gmNil, runP, runB, runO, mSeq, mIfS, mThen, mAsB, mOp2, mBind, mVar, mC, mRet, mLift, mTup, mLst, mCons, mNil, mkSeq, frcs, app2, rdD, asB, tru, truD, mTru, mNot, mAnd, mOr, fGt, fLt, fLe, fGe, fInt2, mAsg, frc, asgS, asgD_np, asgO_np, npAt, np_un, np_dat, np_own, newL, mNewL, mAppend, pushL, mSeqT, mSeqL, seqT, seqL, stepS, stepC, wipeS, mOp1, app1, fIntOf, fAbs, fNeg, fMod, fMul, mulOk, fDiv, fPow, fSub, mSetItem, isOL, asI, ownL, setL, mIf, mRetS, retD, mSkip, mCont, mBrk, mCall, appF, mCallB, appB, shaped_int, shaped_bool, BIG, ↓reduceIte, h8, h9, in_named, ck, ix_l0, eq_ii, oldAt, hg, cl, addO]
    | c n =>
      by_cases ct : s.ps[i] = t
      · have hni := notIn_c acc n
        by_cases c2 : (acc.any fun j => decide (j = n)) = true
        · simp [B_d_first_signs_2, gmTup, gmCons, gmNil, runP, runB, runO, mSeq, mIfS, mThen, mAsB, mOp2, mBind, mVar, mC, mRet, mLift, mTup, mLst, mCons, mNil, mkSeq, frcs, app2, rdD, asB, tru, truD, mTru, mNot, mAnd, mOr, fGt, fLt, fLe, fGe, fInt2, mAsg, frc, asgS, asgD_np, asgO_np, npAt, np_un, np_dat, np_own, newL, mNewL, mAppend, pushL, mSeqT, mSeqL, seqT, seqL, stepS, stepC, wipeS, mOp1, app1, fIntOf, fAbs, fNeg, fMod, fMul, mulOk, fDiv, fPow, fSub, mSetItem, isOL, asI, ownL, setL, mIf, mRetS, retD, mSkip, mCont, mBrk, mCall, appF, mCallB, appB, shaped_int, shaped_bool, BIG, ↓reduceIte, h8, h9, in_named, ck, ix_c0, eq_ii, e1, e2, eq_ss o1 o2, eq_ss o2 o2, eps, ct, oldAt, hg, cl, addO, addG, hni, c2]
        · have c2 : (acc.any fun j => decide (j = n)) = false := Bool.eq_false_iff.mpr c2
          simp [B_d_first_signs_2, gmTup, gmCons, gmNil, runP, runB, runO, mSeq, mIfS, mThen, mAsB, mOp2, mBind, mVar, mC, mRet, mLift, mTup, mLst, mCons, mNil, mkSeq, frcs, app2, rdD, asB, tru, truD, mTru, mNot, mAnd, mOr, fGt, fLt, fLe, fGe, fInt2, mAsg, frc, asgS, asgD_np, asgO_np, npAt, np_un, np_dat, np_own, newL, mNewL, mAppend, pushL, mSeqT, mSeqL, seqT, seqL, stepS, stepC, wipeS, mOp1, app1, fIntOf, fAbs, fNeg, fMod, fMul, mulOk, fDiv, fPow, fSub, mSetItem, isOL, asI, ownL, setL, mIf, mRetS, retD, mSkip, mCont, mBrk, mCall, appF, mCallB, appB, shaped_int, shaped_bool, BIG, ↓reduceIte, h8, h9, in_named, ck, ix_c0, eq_ii, e1, e2, eq_ss o1 o2, eq_ss o2 o2, eps, ct, oldAt, hg, cl, addO, addG, hni, c2, hl2, encC]
      · have ct' : (s.ps[i] == t) = false := by simpa using ct
        simp [B_d_first_signs_2, gmTup, gmCons, gmNil, runP, runB, runO, mSeq, mIfS, mThen, mAsB, mOp2, mBind, mVar, mC, mRet, mLift, mTup, mLst, mCons, mNil, mkSeq, frcs, app2, rdD, asB, tru, truD, mTru, mNot, mAnd, mOr, fGt, fLt, fLe, fGe, fInt2, mAsg, frc, asgS, asgD_np, asgO_np, npAt, np_un, np_dat, np_own, newL, mNewL, mAppend, pushL, mSeqT, mSeqL, seqT, seqL, stepS, stepC, wipeS, mOp1, app1, fIntOf, fAbs, fNeg, fMod, fMul, mulOk, fDiv, fPow, fSub, mSetItem, isOL, asI, ownL, setL, mIf, mRetS, retD, mSkip, mCont, mBrk, mCall, appF, mCallB, appB, shaped_int, shaped_bool, BIG, ↓reduceIte, h8, h9, in_named, ck, ix_c0, eq_ii, e1, e2, eq_ss o1 o2, eps, ct, ct', oldAt, hg, cl, addO]
  · have ck : inKeys s i = false := Bool.eq_false_iff.mpr ck
    simp [B_d_first_signs_2, gmTup, gmCons, gmNil, runP, runB, runO, mSeq, mIfS, mThen, mAsB, mOp2, mBind, mVar, mC, mRet, mLift, mTup, mLst, mCons, mNil, mkSeq, frcs, app2, rdD, asB, tru, truD, mTru, mNot, mAnd, mOr, fGt, fLt, fLe, fGe, fInt2, mAsg, frc, asgS, asgD_np, asgO_np, npAt, np_un, np_dat, np_own, newL, mNewL, mAppend, pushL, mSeqT, mSeqL, seqT, seqL, stepS, stepC, wipeS, mOp1, app1, fIntOf, fAbs, fNeg, fMod, fMul, mulOk, fDiv, fPow, fSub, mSetItem, isOL, asI, ownL, setL, mIf, mRetS, retD, mSkip, mCont, mBrk, mCall, appF, mCallB, appB, shaped_int, shaped_bool, BIG, ↓reduceIte, h8, h9, in_named, ck, oldAt, addO]
theorem enum_enc {α : Type} (f : α → D) (xs : List α) : enumD (xs.map f) = (List.range xs.length).map fun i => .tuple [.int (i : Nat), (xs.map f).getD i .none] := by
  unfold enumD; rw [List.length_map]
theorem getD_enc {α : Type} {f : α → D} {xs : List α} {i : Nat} {x : α} (h : xs[i]? = some x) : (xs.map f).getD i .none = f x := by
  rw [List.getD_eq_getElem?_getD, List.getElem?_map, h]; rfl
theorem foldO_dedup {α β : Type} [DecidableEq α] (g : β → Option α) (xs : List β) : xs.foldl (fun b x => addO b (g x)) [] = dedup (xs.filterMap g) := by
  rw [fold_flat addO g]
  have := foldO_eq (xs.map g) ([] : List α)
  rw [show dedup ([] : List α) = [] from rfl, List.nil_append, List.filterMap_map] at this
  exact this
theorem fs_old {sh : List Shp} {s : Shp} {r : List Sg} {t : Str} (hs : OkS s) (hlt : r.length < s.ps.length) (ht : s.ps[r.length]? = some t) {a7 : D} {j8 j9 j10 : Sl} (h8 : np j8 = true) (h9 : np j9 = true) :
    ∃ k8 k9, L_d_first_signs_3 [.dat (encH sh), .dat (encS s), .dat (encR r), .dat (.tuple (s.ps.map .str)), .dat (.int (r.length : Int)), .dat (.tuple ((sortK (dedup (prm s))).map kD)), .own (.lst []), .dat a7, j8, j9, j10] =
      some (.nx, [.dat (encH sh), .dat (encS s), .dat (encR r), .dat (.tuple (s.ps.map .str)), .dat (.int (r.length : Int)), .dat (.tuple ((sortK (dedup (prm s))).map kD)), .own (.lst ((dedup (old s r t)).map encC)), .dat a7, k8, k9, j10]) ∧ np k8 = true ∧ np k9 = true := by
  have hps := hs.ps
  obtain ⟨ρ', e, ⟨k8, k9, rfl, n8, n9⟩, _⟩ := mFor_fold (mi := mEnumT (mVar 2)) (gm := gmTup 2 (gmCons (asgD 9) (gmCons (asgD 8) gmNil))) (body := B_d_first_signs_2) (enc := fun i => .tuple [.int (i : Nat), (r.map encG).getD i .none])
    (ρ := [.dat (encH sh), .dat (encS s), .dat (encR r), .dat (.tuple (s.ps.map .str)), .dat (.int (r.length : Int)), .dat (.tuple ((sortK (dedup (prm s))).map kD)), .own (.lst (([] : List Nat).map encC)), .dat a7, j8, j9, j10]) (ρ0 := [.dat (encH sh), .dat (encS s), .dat (encR r), .dat (.tuple (s.ps.map .str)), .dat (.int (r.length : Int)), .dat (.tuple ((sortK (dedup (prm s))).map kD)), .own (.lst (([] : List Nat).map encC)), .dat a7, j8, j9, j10])
    (fun m (acc : List Nat) ρ => (∃ k8 k9, ρ = [.dat (encH sh), .dat (encS s), .dat (encR r), .dat (.tuple (s.ps.map .str)), .dat (.int (r.length : Int)), .dat (.tuple ((sortK (dedup (prm s))).map kD)), .own (.lst (acc.map encC)), .dat a7, k8, k9, j10] ∧ np k8 = true ∧ np k9 = true) ∧ acc.length ≤ m) (fun acc i => addO acc (oldAt s r t i)) (List.range r.length) (b := [])
    (by rw [← enum_enc]; simp [mEnumT, runP, runB, runO, mSeq, mIfS, mThen, mAsB, mOp2, mBind, mVar, mC, mRet, mLift, mTup, mLst, mCons, mNil, mkSeq, frcs, app2, rdD, asB, tru, truD, mTru, mNot, mAnd, mOr, fGt, fLt, fLe, fGe, fInt2, mAsg, frc, asgS, asgD_np, asgO_np, npAt, np_un, np_dat, np_own, newL, mNewL, mAppend, pushL, mSeqT, mSeqL, seqT, seqL, stepS, stepC, wipeS, mOp1, app1, fIntOf, fAbs, fNeg, fMod, fMul, mulOk, fDiv, fPow, fSub, mSetItem, isOL, asI, ownL, setL, mIf, mRetS, retD, mSkip, mCont, mBrk, mCall, appF, mCallB, appB, shaped_int, shaped_bool, BIG, ↓reduceIte, encR]) (fun m x hx acc ρ hI => by
      obtain ⟨⟨k8, k9, rfl, n8, n9⟩, ha⟩ := hI
      have hm : m < r.length := by have := (List.getElem?_eq_some_iff.mp hx).1; rwa [List.length_range] at this
      have ex : m = x := by rw [List.getElem?_range hm] at hx; exact Option.some.inj hx
      subst ex
      obtain ⟨l8, l9, e, m8, m9⟩ := fs_step (sh := sh) hs hlt ht (a7 := a7) (j10 := j10) n8 n9 (List.getElem?_eq_getElem hm) (acc := acc) (by omega)
      rw [getD_enc (List.getElem?_eq_getElem hm)]
      refine ⟨.nx, _, e, .inl rfl, ⟨l8, l9, rfl, m8, m9⟩, ?_⟩
      cases oldAt s r t m with
      | none => exact Nat.le_succ_of_le ha
      | some n =>
        show (addG acc n).length ≤ m + 1
        unfold addG
        split
        · omega
        · simp; omega) ⟨⟨j8, j9, rfl, h8, h9⟩, Nat.zero_le _⟩
  rw [foldO_dedup] at e
  exact ⟨k8, k9, e, n8, n9⟩
theorem fs_vals {sh : List Shp} (hh : OkH sh) {s : Shp} {r : List Sg} {t : Str} (hs : OkS s) (ht : s.ps[r.length]? = some t) {a5 a7 : D} {j8 j9 j10 : Sl} (h10 : np j10 = true) {xs : List Sg} (hx : xs.length ≤ 1000) :
    ∃ k10, L_d_first_signs_1 [.dat (encH sh), .dat (encS s), .dat (encR r), .dat (.tuple (s.ps.map .str)), .dat (.int (r.length : Int)), .dat a5, .own (.lst (xs.map encG)), .dat a7, j8, j9, j10] =
      some (.nx, [.dat (encH sh), .dat (encS s), .dat (encR r), .dat (.tuple (s.ps.map .str)), .dat (.int (r.length : Int)), .dat a5, .own (.lst ((xs ++ (vals sh t).map Sg.l).map encG)), .dat a7, j8, j9, k10]) := by
  have o2 := hs.st _ (List.mem_of_getElem? ht)
  have e2 := ix_at (f := PyData.str) ht
  have hv := vals_len hh t
  obtain ⟨ρ', e, ⟨k10, rfl, n10⟩, _⟩ := mFor_fold (mi := mSeqT (mCall f_d_literals (mCons (mVar 0) (mCons (mOp2 fIx (mVar 3) (mVar 4)) mNil)))) (gm := asgD 10) (body := B_d_first_signs_0) (enc := kD)
    (ρ := [.dat (encH sh), .dat (encS s), .dat (encR r), .dat (.tuple (s.ps.map .str)), .dat (.int (r.length : Int)), .dat a5, .own (.lst (xs.map encG)), .dat a7, j8, j9, j10]) (ρ0 := [.dat (encH sh), .dat (encS s), .dat (encR r), .dat (.tuple (s.ps.map .str)), .dat (.int (r.length : Int)), .dat a5, .own (.lst (xs.map encG)), .dat a7, j8, j9, j10])
    (fun m (acc : List Sg) ρ => (∃ k10, ρ = [.dat (encH sh), .dat (encS s), .dat (encR r), .dat (.tuple (s.ps.map .str)), .dat (.int (r.length : Int)), .dat a5, .own (.lst (acc.map encG)), .dat a7, j8, j9, k10] ∧ np k10 = true) ∧ acc.length ≤ 1000 + m) (fun acc k => acc ++ [Sg.l k]) (vals sh t) (b := xs)
    (by simp [runP, runB, runO, mSeq, mIfS, mThen, mAsB, mOp2, mBind, mVar, mC, mRet, mLift, mTup, mLst, mCons, mNil, mkSeq, frcs, app2, rdD, asB, tru, truD, mTru, mNot, mAnd, mOr, fGt, fLt, fLe, fGe, fInt2, mAsg, frc, asgS, asgD_np, asgO_np, npAt, np_un, np_dat, np_own, newL, mNewL, mAppend, pushL, mSeqT, mSeqL, seqT, seqL, stepS, stepC, wipeS, mOp1, app1, fIntOf, fAbs, fNeg, fMod, fMul, mulOk, fDiv, fPow, fSub, mSetItem, isOL, asI, ownL, setL, mIf, mRetS, retD, mSkip, mCont, mBrk, mCall, appF, mCallB, appB, shaped_int, shaped_bool, BIG, ↓reduceIte, e2, literals_eq hh o2]) (fun m x hx acc ρ hI => by
      obtain ⟨⟨k10, rfl, n10⟩, ha⟩ := hI
      have hm := (List.getElem?_eq_some_iff.mp hx).1
      have hl : acc.length < 1000000 := by omega
      refine ⟨.nx, _, ?_, .inl rfl, ⟨.dat (kD x), rfl, rfl⟩, by simp; omega⟩
      simp [B_d_first_signs_0, runP, runB, runO, mSeq, mIfS, mThen, mAsB, mOp2, mBind, mVar, mC, mRet, mLift, mTup, mLst, mCons, mNil, mkSeq, frcs, app2, rdD, asB, tru, truD, mTru, mNot, mAnd, mOr, fGt, fLt, fLe, fGe, fInt2, mAsg, frc, asgS, asgD_np, asgO_np, npAt, np_un, np_dat, np_own, newL, mNewL, mAppend, pushL, mSeqT, mSeqL, seqT, seqL, stepS, stepC, wipeS, mOp1, app1, fIntOf, fAbs, fNeg, fMod, fMul, mulOk, fDiv, fPow, fSub, mSetItem, isOL, asI, ownL, setL, mIf, mRetS, retD, mSkip, mCont, mBrk, mCall, appF, mCallB, appB, shaped_int, shaped_bool, BIG, ↓reduceIte, n10, hl, encG]) ⟨⟨j10, rfl, h10⟩, by omega⟩
  have ef : ∀ (ks : List Key) (acc : List Sg), ks.foldl (fun acc k => acc ++ [Sg.l k]) acc = acc ++ ks.map Sg.l := fun ks => by
    induction ks with
    | nil => intro acc; simp
    | cons k ks ih => intro acc; rw [List.foldl_cons, ih]; simp
  rw [ef] at e
  exact ⟨k10, e⟩
theorem max_cls {s : Shp} {r : List Sg} {k : Nat} (h : RowOk s r k) (hk : 0 < k) : fMax (cD r) = some (.int ((k : Int) - 1)) := by
  have e : (r.filterMap cl).map (fun (n : Nat) => PyData.int (n : Int)) = ((r.filterMap cl).map fun (n : Nat) => (n : Int)).map PyData.int := by rw [List.map_map]; rfl
  show (intsD ((r.filterMap cl).map fun (n : Nat) => PyData.int (n : Int))).bind _ = _
  rw [e, intsD_map, Option.bind_some]
  have hmem : ∀ x : Int, x ∈ (r.filterMap cl).map (fun (n : Nat) => (n : Int)) ↔ 0 ≤ x ∧ x < k := fun x => by
    rw [List.mem_map]
    constructor
    · rintro ⟨n, hn, rfl⟩
      have := (h.cls n).mp hn
      omega
    · intro hx
      exact ⟨x.toNat, (h.cls _).mpr (by omega), by omega⟩
  cases q : (r.filterMap cl).map (fun (n : Nat) => (n : Int)) with
  | nil =>
    have := (hmem 0).mpr (by omega)
    rw [q] at this; cases this
  | cons x xs =>
    rw [q] at hmem
    obtain ⟨h1, h2, h3⟩ := foldmax_spec xs x
    show some (PyData.int _) = _
    congr 2
    generalize xs.foldl (fun a b => if b > a then b else a) x = M at h1 h2 h3
    have hM : M ∈ x :: xs := by
      rcases h1 with h1 | h1
      · rw [h1]; exact List.mem_cons_self
      · exact List.mem_cons_of_mem _ h1
    have hb := (hmem M).mp hM
    have hle : ∀ y ∈ x :: xs, y ≤ M := fun y hy => by
      rcases List.mem_cons.mp hy with rfl | hy
      · exact h2
      · exact h3 y hy
    have := hle _ ((hmem ((k : Int) - 1)).mpr (by omega))
    omega
theorem cls_empty {s : Shp} {r : List Sg} {k : Nat} (h : RowOk s r k) : ((r.filterMap cl).map fun (n : Nat) => PyData.int (n : Int)).isEmpty = decide (k = 0) := by
  cases q : r.filterMap cl with
  | nil =>
    have : ¬ 0 < k := fun z => by have := (h.cls 0).mpr z; rw [q] at this; cases this
    simp; omega
  | cons n ns =>
    have := (h.cls n).mp (by rw [q]; exact List.mem_cons_self)
    simp; omega
theorem old_len (s : Shp) (r : List Sg) (t : Str) : (dedup (old s r t)).length ≤ r.length := by
  have h1 := dedup_len (old s r t)
  have h2 : (old s r t).length ≤ (List.range r.length).length := List.length_filterMap_le _ _
  rw [List.length_range] at h2
  omega
theorem first_signs_eq {sh : List Shp} (hh : OkH sh) {s : Shp} {r : List Sg} {k : Nat} (hs : OkS s) (hlt : r.length < s.ps.length) (h : RowOk s r k) : f_d_first_signs [encH sh, encS s, encR r] = some (.list ((opts sh s r k).map encG)) := by
  have hps := hs.ps
  obtain ⟨t, ht⟩ : ∃ t, s.ps[r.length]? = some t := ⟨_, List.getElem?_eq_getElem hlt⟩
  have etd : s.ps.getD r.length "" = t := by rw [List.getD_eq_getElem?_getD, ht]; rfl
  have ecl := fs_classes (a0 := encH sh) (a1 := encS s) (a3 := .tuple (s.ps.map .str)) (a4 := .int (r.length : Int)) (a5 := .tuple ((sortK (dedup (prm s))).map kD)) (o6 := .own (.lst [])) (r := r) (by omega) h.ok
  have hk : (if (k : Int) = 0 then (0 : Int) else (k : Int) - 1 + 1) = k := by split <;> omega
  by_cases ck : inKeys s r.length = true
  · obtain ⟨k8, k9, eo, n8, n9⟩ := fs_old (sh := sh) (a7 := cD r) hs hlt ht (j8 := .un) (j9 := .un) (j10 := .un) rfl rfl
    have hol := old_len s r t
    have hl1 : (dedup (old s r t)).length < 1000000 := by omega
    obtain ⟨k10, ev⟩ := fs_vals hh hs ht (a5 := .tuple ((sortK (dedup (prm s))).map kD)) (a7 := cD r) (j8 := k8) (j9 := k9) (j10 := .un) rfl (xs := (dedup (old s r t)).map Sg.c ++ [.c k]) (by simp; omega)
    have em : ((dedup (old s r t)).map Sg.c ++ [Sg.c k]).map encG = (dedup (old s r t)).map encC ++ [.tuple [.int 0, .int (k : Int)]] := by
      rw [List.map_append, List.map_map]; rfl
    rw [em] at ev
    by_cases k0 : k = 0
    · subst k0
      have ce := cls_empty h
      have ev : _ = _ := ev
      rw [show ((0 : Nat) : Int) = 0 from rfl] at ev
      simp [f_d_first_signs, m_d_first_signs, runP, runB, runO, mSeq, mIfS, mThen, mAsB, mOp2, mBind, mVar, mC, mRet, mLift, mTup, mLst, mCons, mNil, mkSeq, frcs, app2, rdD, asB, tru, truD, mTru, mNot, mAnd, mOr, fGt, fLt, fLe, fGe, fInt2, mAsg, frc, asgS, asgD_np, asgO_np, npAt, np_un, np_dat, np_own, newL, mNewL, mAppend, pushL, mSeqT, mSeqL, seqT, seqL, stepS, stepC, wipeS, mOp1, app1, fIntOf, fAbs, fNeg, fMod, fMul, mulOk, fDiv, fPow, fSub, mSetItem, isOL, asI, ownL, setL, mIf, mRetS, retD, mSkip, mCont, mBrk, mCall, appF, mCallB, appB, shaped_int, shaped_bool, BIG, ↓reduceIte, ix_ps, len_R, named_eq hs, ecl, in_named, ck, eo, hl1, ce, opts, etd, ht, ev]
    · have ce := cls_empty h
      have hm := max_cls h (by omega)
      simp [f_d_first_signs, m_d_first_signs, runP, runB, runO, mSeq, mIfS, mThen, mAsB, mOp2, mBind, mVar, mC, mRet, mLift, mTup, mLst, mCons, mNil, mkSeq, frcs, app2, rdD, asB, tru, truD, mTru, mNot, mAnd, mOr, fGt, fLt, fLe, fGe, fInt2, mAsg, frc, asgS, asgD_np, asgO_np, npAt, np_un, np_dat, np_own, newL, mNewL, mAppend, pushL, mSeqT, mSeqL, seqT, seqL, stepS, stepC, wipeS, mOp1, app1, fIntOf, fAbs, fNeg, fMod, fMul, mulOk, fDiv, fPow, fSub, mSetItem, isOL, asI, ownL, setL, mIf, mRetS, retD, mSkip, mCont, mBrk, mCall, appF, mCallB, appB, shaped_int, shaped_bool, BIG, ↓reduceIte, ix_ps, len_R, named_eq hs, ecl, in_named, ck, eo, hl1, ce, k0, hm, plus_ii, opts, etd, ht, ev]
  · have ck : inKeys s r.length = false := Bool.eq_false_iff.mpr ck
    by_cases k0 : k = 0
    · subst k0
      have ce := cls_empty h
      simp [f_d_first_signs, m_d_first_signs, runP, runB, runO, mSeq, mIfS, mThen, mAsB, mOp2, mBind, mVar, mC, mRet, mLift, mTup, mLst, mCons, mNil, mkSeq, frcs, app2, rdD, asB, tru, truD, mTru, mNot, mAnd, mOr, fGt, fLt, fLe, fGe, fInt2, mAsg, frc, asgS, asgD_np, asgO_np, npAt, np_un, np_dat, np_own, newL, mNewL, mAppend, pushL, mSeqT, mSeqL, seqT, seqL, stepS, stepC, wipeS, mOp1, app1, fIntOf, fAbs, fNeg, fMod, fMul, mulOk, fDiv, fPow, fSub, mSetItem, isOL, asI, ownL, setL, mIf, mRetS, retD, mSkip, mCont, mBrk, mCall, appF, mCallB, appB, shaped_int, shaped_bool, BIG, ↓reduceIte, ix_ps, len_R, named_eq hs, ecl, in_named, ck, ce, opts, encG]
    · have ce := cls_empty h
      have hm := max_cls h (by omega)
      simp [f_d_first_signs, m_d_first_signs, runP, runB, runO, mSeq, mIfS, mThen, mAsB, mOp2, mBind, mVar, mC, mRet, mLift, mTup, mLst, mCons, mNil, mkSeq, frcs, app2, rdD, asB, tru, truD, mTru, mNot, mAnd, mOr, fGt, fLt, fLe, fGe, fInt2, mAsg, frc, asgS, asgD_np, asgO_np, npAt, np_un, np_dat, np_own, newL, mNewL, mAppend, pushL, mSeqT, mSeqL, seqT, seqL, stepS, stepC, wipeS, mOp1, app1, fIntOf, fAbs, fNeg, fMod, fMul, mulOk, fDiv, fPow, fSub, mSetItem, isOL, asI, ownL, setL, mIf, mRetS, retD, mSkip, mCont, mBrk, mCall, appF, mCallB, appB, shaped_int, shaped_bool, BIG, ↓reduceIte, ix_ps, len_R, named_eq hs, ecl, in_named, ck, ce, k0, hm, plus_ii, opts, encG]
end K10
namespace K10
open PySem L2 Dat
abbrev lo (a0 : D) (s : Shp) (r : List Sg) (x4 x6 x8 x10 : Sl) : List Sl := [.dat a0, .dat (encS s), .dat (encR r), .dat (.int (r.length : Int)), x4, .un, x6, .un, x8, .un, x10, .un, .un]
theorem lo_keys {a0 : D} {s : Shp} (hs : OkS s) {r : List Sg} {x4 x6 x8 x10 : Sl} : L_d_law_options_14 (lo a0 s r x4 x6 x8 x10) = some (.ok (.dat (.list ((prm s).map kD))), lo a0 s r x4 x6 x8 x10) := by
  have hes := hs.es
  have := mLc_pure (mi := mSeqT (mOp2 fIx (mVar 1) (mC (.int 2)))) (gm := asgD 5) (mt := T_d_law_options_13) (me := E_d_law_options_12) (vs := [5]) (enc := encE) (fun e => (selP e).map kD) s.es (ρ := lo a0 s r x4 x6 x8 x10) (ρ0 := lo a0 s r x4 x6 x8 x10)
    (by simp [runP, runB, runO, mSeq, mIfS, mThen, mAsB, mOp2, mBind, mVar, mC, mRet, mLift, mTup, mLst, mCons, mNil, mkSeq, frcs, app2, rdD, asB, tru, truD, mTru, mNot, mAnd, mOr, fGt, fLt, fLe, fGe, fInt2, mAsg, frc, asgS, asgD_np, asgO_np, npAt, np_un, np_dat, np_own, newL, mNewL, mAppend, pushL, mSeqT, mSeqL, seqT, seqL, stepS, stepC, wipeS, mOp1, app1, fIntOf, fAbs, fNeg, fMod, fMul, mulOk, fDiv, fPow, fSub, mSetItem, isOL, asI, ownL, setL, mIf, mRetS, retD, mSkip, mCont, mBrk, mCall, appF, mCallB, appB, shaped_int, shaped_bool, BIG, ↓reduceIte, ix_es]) (by show s.es.length ≤ 1000000; omega) (fun e he => by
      cases e with
      | a t => simp [T_d_law_options_13, E_d_law_options_12, runP, runB, runO, mSeq, mIfS, mThen, mAsB, mOp2, mBind, mVar, mC, mRet, mLift, mTup, mLst, mCons, mNil, mkSeq, frcs, app2, rdD, fIx, atI, ixN, fEq, fNe, asB, tru, truD, mTru, mNot, mAnd, mOr, fGt, fLt, fLe, fGe, fInt2, mAsg, frc, asgS, asgD_np, asgO_np, npAt, np_un, np_dat, np_own, newL, mNewL, mAppend, pushL, fTupleOf, mSeqT, mSeqL, seqT, seqL, stepS, stepC, wipeS, mOp1, app1, fIntOf, fAbs, fLen, fNeg, fMod, fMul, mulOk, fDiv, fPow, fSub, fPlus, fP1, fP2, fAdd, fAddS, fAddT, fAddL, mSetItem, isOL, asI, ownL, setL, mIf, mRetS, retD, mSkip, mCont, mBrk, mCall, appF, mCallB, appB, shaped_int, shaped_bool, PyData.eqv, BIG, ↓reduceIte, encE, shaped_lit ok_a, selP]
      | p w t i => simp [T_d_law_options_13, E_d_law_options_12, runP, runB, runO, mSeq, mIfS, mThen, mAsB, mOp2, mBind, mVar, mC, mRet, mLift, mTup, mLst, mCons, mNil, mkSeq, frcs, app2, rdD, fIx, atI, ixN, fEq, fNe, asB, tru, truD, mTru, mNot, mAnd, mOr, fGt, fLt, fLe, fGe, fInt2, mAsg, frc, asgS, asgD_np, asgO_np, npAt, np_un, np_dat, np_own, newL, mNewL, mAppend, pushL, fTupleOf, mSeqT, mSeqL, seqT, seqL, stepS, stepC, wipeS, mOp1, app1, fIntOf, fAbs, fLen, fNeg, fMod, fMul, mulOk, fDiv, fPow, fSub, fPlus, fP1, fP2, fAdd, fAddS, fAddT, fAddL, mSetItem, isOL, asI, ownL, setL, mIf, mRetS, retD, mSkip, mCont, mBrk, mCall, appF, mCallB, appB, shaped_int, shaped_bool, PyData.eqv, BIG, ↓reduceIte, encE, shaped_lit ok_a, shaped_lit (ok_rw w), ne_rwa, shaped_lit ok_param, selP, kD]
      | v w t k => simp [T_d_law_options_13, E_d_law_options_12, runP, runB, runO, mSeq, mIfS, mThen, mAsB, mOp2, mBind, mVar, mC, mRet, mLift, mTup, mLst, mCons, mNil, mkSeq, frcs, app2, rdD, fIx, atI, ixN, fEq, fNe, asB, tru, truD, mTru, mNot, mAnd, mOr, fGt, fLt, fLe, fGe, fInt2, mAsg, frc, asgS, asgD_np, asgO_np, npAt, np_un, np_dat, np_own, newL, mNewL, mAppend, pushL, fTupleOf, mSeqT, mSeqL, seqT, seqL, stepS, stepC, wipeS, mOp1, app1, fIntOf, fAbs, fLen, fNeg, fMod, fMul, mulOk, fDiv, fPow, fSub, fPlus, fP1, fP2, fAdd, fAddS, fAddT, fAddL, mSetItem, isOL, asI, ownL, setL, mIf, mRetS, retD, mSkip, mCont, mBrk, mCall, appF, mCallB, appB, shaped_int, shaped_bool, PyData.eqv, BIG, ↓reduceIte, encE, shaped_lit ok_a, shaped_lit (ok_rw w), ne_rwa, shaped_lit ok_param, shaped_lit ok_value, ne_vp, selP])
  unfold L_d_law_options_14
  rw [this]
  have e : s.es.filterMap (fun e => (selP e).map kD) = (prm s).map kD := by
    unfold prm
    rw [List.map_filterMap]
  rw [e]
  rfl
theorem lo_nums {a0 : D} {s : Shp} {r : List Sg} (hr : r.length ≤ 3) {x4 x6 x8 x10 : Sl} : L_d_law_options_11 (lo a0 s r x4 x6 x8 x10) = some (.ok (.dat (cD r)), lo a0 s r x4 x6 x8 x10) := by
  have := mLc_pure (mi := mSeqT (mVar 2)) (gm := asgD 7) (mt := T_d_law_options_10) (me := E_d_law_options_9) (vs := [7]) (enc := encG) clD r (ρ := lo a0 s r x4 x6 x8 x10) (ρ0 := lo a0 s r x4 x6 x8 x10)
    (by simp [runP, runB, runO, mSeq, mIfS, mThen, mAsB, mOp2, mBind, mVar, mC, mRet, mLift, mTup, mLst, mCons, mNil, mkSeq, frcs, app2, rdD, asB, tru, truD, mTru, mNot, mAnd, mOr, fGt, fLt, fLe, fGe, fInt2, mAsg, frc, asgS, asgD_np, asgO_np, npAt, np_un, np_dat, np_own, newL, mNewL, mAppend, pushL, mSeqT, mSeqL, seqT, seqL, stepS, stepC, wipeS, mOp1, app1, fIntOf, fAbs, fNeg, fMod, fMul, mulOk, fDiv, fPow, fSub, mSetItem, isOL, asI, ownL, setL, mIf, mRetS, retD, mSkip, mCont, mBrk, mCall, appF, mCallB, appB, shaped_int, shaped_bool, BIG, ↓reduceIte, encR]) (by show r.length ≤ 1000000; omega) (fun g hg => by
      cases g with
      | c n => simp [T_d_law_options_10, E_d_law_options_9, runP, runB, runO, mSeq, mIfS, mThen, mAsB, mOp2, mBind, mVar, mC, mRet, mLift, mTup, mLst, mCons, mNil, mkSeq, frcs, app2, rdD, asB, tru, truD, mTru, mNot, mAnd, mOr, fGt, fLt, fLe, fGe, fInt2, mAsg, frc, asgS, asgD_np, asgO_np, npAt, np_un, np_dat, np_own, newL, mNewL, mAppend, pushL, mSeqT, mSeqL, seqT, seqL, stepS, stepC, wipeS, mOp1, app1, fIntOf, fAbs, fNeg, fMod, fMul, mulOk, fDiv, fPow, fSub, mSetItem, isOL, asI, ownL, setL, mIf, mRetS, retD, mSkip, mCont, mBrk, mCall, appF, mCallB, appB, shaped_int, shaped_bool, BIG, ↓reduceIte, ix_c0, ix_c1, eq_ii, clD, cl]
      | l k => simp [T_d_law_options_10, E_d_law_options_9, runP, runB, runO, mSeq, mIfS, mThen, mAsB, mOp2, mBind, mVar, mC, mRet, mLift, mTup, mLst, mCons, mNil, mkSeq, frcs, app2, rdD, asB, tru, truD, mTru, mNot, mAnd, mOr, fGt, fLt, fLe, fGe, fInt2, mAsg, frc, asgS, asgD_np, asgO_np, npAt, np_un, np_dat, np_own, newL, mNewL, mAppend, pushL, mSeqT, mSeqL, seqT, seqL, stepS, stepC, wipeS, mOp1, app1, fIntOf, fAbs, fNeg, fMod, fMul, mulOk, fDiv, fPow, fSub, mSetItem, isOL, asI, ownL, setL, mIf, mRetS, retD, mSkip, mCont, mBrk, mCall, appF, mCallB, appB, shaped_int, shaped_bool, BIG, ↓reduceIte, ix_l0, ix_l1, eq_ii, clD, cl])
  unfold L_d_law_options_11
  rw [this, clD_map]
  rfl
theorem notIn_cD {s : Shp} {r : List Sg} {k : Nat} (h : RowOk s r k) (n : Nat) : fNotInS (.int (0 + (n : Int))) (cD r) = some (.bool (!decide (n < k))) := by
  have e0 : cD r = .list (((r.filterMap cl).map fun (n : Nat) => (Sum.inl (n : Int) : Key)).map kD) := by rw [List.map_map]; rfl
  rw [e0, Int.zero_add, show PyData.int (n : Int) = kD (.inl (n : Int)) from rfl, notIn_k (fun j hj => by
    obtain ⟨m, _, rfl⟩ := List.mem_map.mp hj
    rfl) rfl]
  congr 3
  rw [Bool.eq_iff_iff, any_key, decide_eq_true_eq, ← h.cls n, List.mem_map]
  constructor
  · rintro ⟨m, hm, e⟩
    injection e with e
    have e : m = n := by omega
    rw [← e]; exact hm
  · exact fun hn => ⟨n, hn, rfl⟩
theorem least_ix {k L : Nat} (hk : k ≤ L) : ∃ ds, (List.range (L + 1)).filterMap (fun n => if n < k then none else some (PyData.int (0 + (n : Int)))) = .int (k : Int) :: ds := by
  have e : List.range (L + 1) = List.range k ++ (List.range (L - k + 1)).map (k + ·) := by
    rw [show L + 1 = k + (L - k + 1) by omega, List.range_add]
  rw [e, List.filterMap_append]
  have e1 : (List.range k).filterMap (fun n => if n < k then none else some (PyData.int (0 + (n : Int)))) = [] := by
    rw [List.filterMap_eq_nil_iff]
    intro n hn
    rw [if_pos (List.mem_range.mp hn)]
  rw [e1, List.nil_append, List.range_succ_eq_map, List.map_cons, List.filterMap_cons]
  rw [if_neg (by omega)]
  simp only [Nat.add_zero, Int.zero_add]
  exact ⟨_, rfl⟩
theorem lo_least {a0 : D} {s : Shp} {r : List Sg} {k : Nat} (h : RowOk s r k) (hr : r.length ≤ 3) {x4 x8 x10 : Sl} : ∃ ds, L_d_law_options_8 (lo a0 s r x4 (.dat (cD r)) x8 x10) = some (.ok (.dat (.list (.int (k : Int) :: ds))), lo a0 s r x4 (.dat (cD r)) x8 x10) := by
  obtain ⟨ds, ed⟩ := least_ix h.kle
  refine ⟨ds, ?_⟩
  have e1 : mOp2 fPlus (mOp1 fLen (mVar 2)) (mC (.int 1)) (lo a0 s r x4 (.dat (cD r)) x8 x10) = some (.ok (.dat (.int ((r.length : Int) + 1))), lo a0 s r x4 (.dat (cD r)) x8 x10) := by
    simp only [runP, runB, runO, mSeq, mIfS, mThen, mAsB, mOp2, mBind, mVar, mC, mRet, mLift, mTup, mLst, mCons, mNil, mkSeq, frcs, app2, rdD, asB, tru, truD, mTru, mNot, mAnd, mOr, fGt, fLt, fLe, fGe, fInt2, mAsg, frc, asgS, asgD_np, asgO_np, npAt, np_un, np_dat, np_own, newL, mNewL, mAppend, pushL, mSeqT, mSeqL, seqT, seqL, stepS, stepC, wipeS, mOp1, app1, fIntOf, fAbs, fNeg, fMod, fMul, mulOk, fDiv, fPow, fSub, mSetItem, isOL, asI, ownL, setL, mIf, mRetS, retD, mSkip, mCont, mBrk, mCall, appF, mCallB, appB, shaped_int, shaped_bool, BIG, ↓reduceIte, len_R, plus_ii, List.getElem?_cons_zero, List.getElem?_cons_succ]
  have := mLc_pure (mi := mRng1 (mOp2 fPlus (mOp1 fLen (mVar 2)) (mC (.int 1)))) (gm := asgD 9) (mt := T_d_law_options_7) (me := E_d_law_options_6) (vs := [9]) (enc := fun (i : Nat) => .int (0 + (i : Int))) (fun n => if n < k then none else some (PyData.int (0 + (n : Int)))) (List.range (r.length + 1)) (ρ := lo a0 s r x4 (.dat (cD r)) x8 x10) (ρ0 := lo a0 s r x4 (.dat (cD r)) x8 x10)
    (mRng1_at e1 rfl (by omega) (by omega)) (le_big (by rw [List.length_range]; omega)) (fun n hn => by
      have hni := notIn_cD h n
      simp only [Int.zero_add] at hni
      by_cases c : n < k
      · simp [T_d_law_options_7, E_d_law_options_6, runP, runB, runO, mSeq, mIfS, mThen, mAsB, mOp2, mBind, mVar, mC, mRet, mLift, mTup, mLst, mCons, mNil, mkSeq, frcs, app2, rdD, asB, tru, truD, mTru, mNot, mAnd, mOr, fGt, fLt, fLe, fGe, fInt2, mAsg, frc, asgS, asgD_np, asgO_np, npAt, np_un, np_dat, np_own, newL, mNewL, mAppend, pushL, mSeqT, mSeqL, seqT, seqL, stepS, stepC, wipeS, mOp1, app1, fIntOf, fAbs, fNeg, fMod, fMul, mulOk, fDiv, fPow, fSub, mSetItem, isOL, asI, ownL, setL, mIf, mRetS, retD, mSkip, mCont, mBrk, mCall, appF, mCallB, appB, shaped_int, shaped_bool, BIG, ↓reduceIte, hni, c]
      · simp [T_d_law_options_7, E_d_law_options_6, runP, runB, runO, mSeq, mIfS, mThen, mAsB, mOp2, mBind, mVar, mC, mRet, mLift, mTup, mLst, mCons, mNil, mkSeq, frcs, app2, rdD, asB, tru, truD, mTru, mNot, mAnd, mOr, fGt, fLt, fLe, fGe, fInt2, mAsg, frc, asgS, asgD_np, asgO_np, npAt, np_un, np_dat, np_own, newL, mNewL, mAppend, pushL, mSeqT, mSeqL, seqT, seqL, stepS, stepC, wipeS, mOp1, app1, fIntOf, fAbs, fNeg, fMod, fMul, mulOk, fDiv, fPow, fSub, mSetItem, isOL, asI, ownL, setL, mIf, mRetS, retD, mSkip, mCont, mBrk, mCall, appF, mCallB, appB, shaped_int, shaped_bool, BIG, ↓reduceIte, hni, c])
  unfold L_d_law_options_8
  rw [this, ed]
  rfl
theorem lo_old {a0 : D} {s : Shp} (hs : OkS s) {r : List Sg} {t : Str} (hlt : r.length < s.ps.length) (ht : s.ps[r.length]? = some t) {x6 x8 x10 : Sl} : L_d_law_options_5 (lo a0 s r (.dat (.list ((prm s).map kD))) x6 x8 x10) = some (.ok (.dat (.list ((old s r t).map encC))), lo a0 s r (.dat (.list ((prm s).map kD))) x6 x8 x10) := by
  have hps := hs.ps
  have e1 : mVar 3 (lo a0 s r (.dat (.list ((prm s).map kD))) x6 x8 x10) = some (.ok (.loc 3), lo a0 s r (.dat (.list ((prm s).map kD))) x6 x8 x10) := rfl
  have := mLc_pure (mi := mRng1 (mVar 3)) (gm := asgD 11) (mt := T_d_law_options_4) (me := E_d_law_options_3) (vs := [11]) (enc := fun (i : Nat) => .int (0 + (i : Int))) (fun i => (oldAt s r t i).map encC) (List.range r.length) (ρ := lo a0 s r (.dat (.list ((prm s).map kD))) x6 x8 x10) (ρ0 := lo a0 s r (.dat (.list ((prm s).map kD))) x6 x8 x10)
    (mRng1_at e1 rfl (by omega) rfl) (le_big (by rw [List.length_range]; omega)) (fun i hi => by
      have hi := List.mem_range.mp hi
      have hi2 : i < s.ps.length := by omega
      obtain ⟨g, hg⟩ : ∃ g, r[i]? = some g := ⟨_, List.getElem?_eq_getElem hi⟩
      have e1 := ix_at (f := PyData.str) (List.getElem?_eq_getElem hi2)
      have e2 := ix_at (f := PyData.str) ht
      have e3 := ix_at (f := encG) hg
      have e3 : fIx (encR r) (.int (i : Int)) = some (encG g) := e3
      have o1 := hs.st _ (List.getElem_mem hi2)
      have o2 := hs.st _ (List.mem_of_getElem? ht)
      have eps : s.ps[i]? = some s.ps[i] := List.getElem?_eq_getElem hi2
      have ein := in_prm (s := s) i
      by_cases ck : inKeys s i = true
      · by_cases ct : s.ps[i] = t
        · cases g with
          | c n => simp [T_d_law_options_4, E_d_law_options_3, runP, runB, runO, mSeq, mIfS, mThen, mAsB, mOp2, mBind, mVar, mC, mRet, mLift, mTup, mLst, mCons, mNil, mkSeq, frcs, app2, rdD, asB, tru, truD, mTru, mNot, mAnd, mOr, fGt, fLt, fLe, fGe, fInt2, mAsg, frc, asgS, asgD_np, asgO_np, npAt, np_un, np_dat, np_own, newL, mNewL, mAppend, pushL, mSeqT, mSeqL, seqT, seqL, stepS, stepC, wipeS, mOp1, app1, fIntOf, fAbs, fNeg, fMod, fMul, mulOk, fDiv, fPow, fSub, mSetItem, isOL, asI, ownL, setL, mIf, mRetS, retD, mSkip, mCont, mBrk, mCall, appF, mCallB, appB, shaped_int, shaped_bool, BIG, ↓reduceIte, ein, ck, ix_ps, e1, e2, e3, eq_ss o1 o2, eq_ss o2 o2, ct, eps, ix_c0, eq_ii, oldAt, hg, cl, encC]
          | l k => simp [T_d_law_options_4, E_d_law_options_3, runP, runB, runO, mSeq, mIfS, mThen, mAsB, mOp2, mBind, mVar, mC, mRet, mLift, mTup, mLst, mCons, mNil, mkSeq, frcs, app2, rdD, asB, tru, truD, mTru, mNot, mAnd, mOr, fGt, fLt, fLe, fGe, fInt2, mAsg, frc, asgS, asgD_np, asgO_np, npAt, np_un, np_dat, np_own, newL, mNewL, mAppend, pushL, mSeqT, mSeqL, seqT, seqL, stepS, stepC, wipeS, mOp1, app1, fIntOf, fAbs, fNeg, fMod, fMul, mulOk, fDiv, fPow, fSub, mSetItem, isOL, asI, ownL, setL, mIf, mRetS, retD, mSkip, mCont, mBrk, mCall, appF, mCallB, appB, shaped_int, shaped_bool, BIG, ↓reduceIte, ein, ck, ix_ps, e1, e2, e3, eq_ss o1 o2, eq_ss o2 o2, ct, eps, ix_l0, eq_ii, oldAt, hg, cl, encC]
        · have ct' : (s.ps[i] == t) = false := by simpa using ct
          simp [T_d_law_options_4, E_d_law_options_3, runP, runB, runO, mSeq, mIfS, mThen, mAsB, mOp2, mBind, mVar, mC, mRet, mLift, mTup, mLst, mCons, mNil, mkSeq, frcs, app2, rdD, asB, tru, truD, mTru, mNot, mAnd, mOr, fGt, fLt, fLe, fGe, fInt2, mAsg, frc, asgS, asgD_np, asgO_np, npAt, np_un, np_dat, np_own, newL, mNewL, mAppend, pushL, mSeqT, mSeqL, seqT, seqL, stepS, stepC, wipeS, mOp1, app1, fIntOf, fAbs, fNeg, fMod, fMul, mulOk, fDiv, fPow, fSub, mSetItem, isOL, asI, ownL, setL, mIf, mRetS, retD, mSkip, mCont, mBrk, mCall, appF, mCallB, appB, shaped_int, shaped_bool, BIG, ↓reduceIte, ein, ck, ix_ps, e1, e2, e3, eq_ss o1 o2, ct, ct', eps, oldAt]
      · have ck : inKeys s i = false := Bool.eq_false_iff.mpr ck
        simp [T_d_law_options_4, E_d_law_options_3, runP, runB, runO, mSeq, mIfS, mThen, mAsB, mOp2, mBind, mVar, mC, mRet, mLift, mTup, mLst, mCons, mNil, mkSeq, frcs, app2, rdD, asB, tru, truD, mTru, mNot, mAnd, mOr, fGt, fLt, fLe, fGe, fInt2, mAsg, frc, asgS, asgD_np, asgO_np, npAt, np_un, np_dat, np_own, newL, mNewL, mAppend, pushL, mSeqT, mSeqL, seqT, seqL, stepS, stepC, wipeS, mOp1, app1, fIntOf, fAbs, fNeg, fMod, fMul, mulOk, fDiv, fPow, fSub, mSetItem, isOL, asI, ownL, setL, mIf, mRetS, retD, mSkip, mCont, mBrk, mCall, appF, mCallB, appB, shaped_int, shaped_bool, BIG, ↓reduceIte, ein, ck, oldAt])
  unfold L_d_law_options_5
  rw [this]
  have e : (List.range r.length).filterMap (fun i => (oldAt s r t i).map encC) = (old s r t).map encC := by
    unfold old
    rw [List.map_filterMap]
  rw [e]
  rfl
theorem lo_vals {sh : List Shp} (hh : OkH sh) {s : Shp} (hs : OkS s) {r : List Sg} {t : Str} (ht : s.ps[r.length]? = some t) {x4 x6 x8 x10 : Sl} : L_d_law_options_2 (lo (encH sh) s r x4 x6 x8 x10) = some (.ok (.dat (.list ((vals sh t).map fun k => encG (.l k)))), lo (encH sh) s r x4 x6 x8 x10) := by
  have e2 := ix_at (f := PyData.str) ht
  have o2 := hs.st _ (List.mem_of_getElem? ht)
  have hv := vals_len hh t
  have := mLc_pure (mi := mSeqL (mCall f_d_law_values (mCons (mVar 0) (mCons (mOp2 fIx (mOp2 fIx (mVar 1) (mC (.int 1))) (mVar 3)) mNil)))) (gm := asgD 12) (mt := T_d_law_options_1) (me := E_d_law_options_0) (vs := [12]) (enc := kD) (fun k => some (encG (.l k))) (vals sh t) (ρ := lo (encH sh) s r x4 x6 x8 x10) (ρ0 := lo (encH sh) s r x4 x6 x8 x10)
    (by simp [runP, runB, runO, mSeq, mIfS, mThen, mAsB, mOp2, mBind, mVar, mC, mRet, mLift, mTup, mLst, mCons, mNil, mkSeq, frcs, app2, rdD, asB, tru, truD, mTru, mNot, mAnd, mOr, fGt, fLt, fLe, fGe, fInt2, mAsg, frc, asgS, asgD_np, asgO_np, npAt, np_un, np_dat, np_own, newL, mNewL, mAppend, pushL, mSeqT, mSeqL, seqT, seqL, stepS, stepC, wipeS, mOp1, app1, fIntOf, fAbs, fNeg, fMod, fMul, mulOk, fDiv, fPow, fSub, mSetItem, isOL, asI, ownL, setL, mIf, mRetS, retD, mSkip, mCont, mBrk, mCall, appF, mCallB, appB, shaped_int, shaped_bool, BIG, ↓reduceIte, ix_ps, e2, law_values_eq hh o2]) (le_big (by omega)) (fun k hk => by
      simp [T_d_law_options_1, E_d_law_options_0, runP, runB, runO, mSeq, mIfS, mThen, mAsB, mOp2, mBind, mVar, mC, mRet, mLift, mTup, mLst, mCons, mNil, mkSeq, frcs, app2, rdD, asB, tru, truD, mTru, mNot, mAnd, mOr, fGt, fLt, fLe, fGe, fInt2, mAsg, frc, asgS, asgD_np, asgO_np, npAt, np_un, np_dat, np_own, newL, mNewL, mAppend, pushL, mSeqT, mSeqL, seqT, seqL, stepS, stepC, wipeS, mOp1, app1, fIntOf, fAbs, fNeg, fMod, fMul, mulOk, fDiv, fPow, fSub, mSetItem, isOL, asI, ownL, setL, mIf, mRetS, retD, mSkip, mCont, mBrk, mCall, appF, mCallB, appB, shaped_int, shaped_bool, BIG, ↓reduceIte, encG])
  unfold L_d_law_options_2
  rw [this]
  have e : (vals sh t).filterMap (fun k => some (encG (.l k))) = (vals sh t).map fun k => encG (.l k) := by rw [List.filterMap_eq_map']
  rw [e]
  rfl
theorem plus_ll1 {xs ys : List D} (h : xs.length + ys.length ≤ 1000) : fPlus (.list xs) (.list ys) = some (.list (xs ++ ys)) := plus_ll (Nat.le_trans h (by decide))
theorem addG_mapg {α β : Type} [DecidableEq α] [DecidableEq β] {f : α → β} (inj : ∀ a b, f a = f b → a = b) (ks : List α) (k : α) : addG (ks.map f) (f k) = (addG ks k).map f := by
  unfold addG
  have e : ((ks.map f).any fun j => decide (j = f k)) = (ks.any fun j => decide (j = k)) := by
    rw [List.any_map]
    congr 1
    funext j
    show decide (f j = f k) = decide (j = k)
    rw [decide_eq_decide]
    exact ⟨inj j k, fun h => by rw [h]⟩
  rw [e]
  split
  · rfl
  · rw [List.map_append]; rfl
theorem foldG_mapg {α β : Type} [DecidableEq α] [DecidableEq β] {f : α → β} (inj : ∀ a b, f a = f b → a = b) : ∀ (ls ks : List α), (ls.map f).foldl addG (ks.map f) = (ls.foldl addG ks).map f
  | [], ks => rfl
  | l :: ls, ks => by rw [List.map_cons, List.foldl_cons, List.foldl_cons, addG_mapg inj, foldG_mapg inj ls]
theorem dedup_mapg {α β : Type} [DecidableEq α] [DecidableEq β] {f : α → β} (inj : ∀ a b, f a = f b → a = b) (ls : List α) : dedup (ls.map f) = (dedup ls).map f := foldG_mapg inj ls []
theorem sortP_ok {s : Shp} {r : List Sg} {k : Nat} {t : Str} (h : RowOk s r k) (hr : r.length ≤ 3) : fSortSetP (.list ((old s r t).map encC ++ [.tuple [.int 0, .int (k : Int)]])) = some (.list ((dedup (old s r t)).map encC ++ [encC k])) := by
  have hkl := h.kle
  have e1 : (old s r t).map encC ++ [.tuple [.int 0, .int (k : Int)]] = ((old s r t ++ [k]).map fun n : Nat => ((0 : Int), (n : Int))).map pairD := by
    rw [List.map_map, List.map_append]; rfl
  have hold : ∀ n ∈ old s r t, n < k := fun n hn => (h.cls n).mp (old_sub hn)
  have hl : (old s r t).length ≤ 3 := by
    have h2 : (old s r t).length ≤ (List.range r.length).length := List.length_filterMap_le _ _
    rw [List.length_range] at h2
    omega
  unfold fSortSetP
  rw [e1]
  simp only [pairsD_map]
  have hc : (decide (((old s r t ++ [k]).map fun n : Nat => ((0 : Int), (n : Int))).length < 64) && ((old s r t ++ [k]).map fun n : Nat => ((0 : Int), (n : Int))).all okP) = true := by
    rw [Bool.and_eq_true, decide_eq_true_eq, List.all_eq_true]
    refine ⟨by simp; omega, fun p hp => ?_⟩
    obtain ⟨n, hn, rfl⟩ := List.mem_map.mp hp
    have : n ≤ k := by
      rcases List.mem_append.mp hn with hn | hn
      · exact Nat.le_of_lt (hold n hn)
      · rw [List.mem_singleton] at hn; omega
    unfold okP
    simp; omega
  rw [if_pos hc]
  have ed : dedup ((old s r t ++ [k]).map fun n : Nat => ((0 : Int), (n : Int))) = (dedup (old s r t) ++ [k]).map fun n : Nat => ((0 : Int), (n : Int)) := by
    rw [dedup_mapg (f := fun n : Nat => ((0 : Int), (n : Int))) (fun a b h => by
      injection h with _ h
      omega)]
    congr 1
    have e : dedup (old s r t ++ [k]) = addG (dedup (old s r t)) k := by unfold dedup; rw [List.foldl_append]; rfl
    rw [e]
    unfold addG
    rw [if_neg]
    intro hc
    obtain ⟨j, h1, h2⟩ := List.any_eq_true.mp hc
    have h2 := of_decide_eq_true h2
    have := hold j ((dedup_mem _ j).mp h1)
    omega
  have es : sortP ((dedup (old s r t) ++ [k]).map fun n : Nat => ((0 : Int), (n : Int))) = (dedup (old s r t) ++ [k]).map fun n : Nat => ((0 : Int), (n : Int)) := by
    refine (sortP_eq (List.Perm.refl _) ?_).symm
    rw [List.pairwise_map]
    have hp : (dedup (old s r t) ++ [k]).Pairwise (· < ·) := List.pairwise_append.mpr ⟨(h.gw t).rise, List.pairwise_singleton _ _, fun a ha b hb => by
      rw [List.mem_singleton] at hb
      rw [hb]
      exact hold a ((dedup_mem _ a).mp ha)⟩
    refine hp.imp fun {a b} hab => ?_
    rw [lexP_iff]
    simp; omega
  rw [ed, es, List.map_map, List.map_append]
  rfl
theorem law_options_eq {sh : List Shp} (hh : OkH sh) {s : Shp} {r : List Sg} {k : Nat} (hs : OkS s) (hlt : r.length < s.ps.length) (h : RowOk s r k) : f_d_law_options [encH sh, encS s, encR r] = some (.list ((opts sh s r k).map encG)) := by
  have hps := hs.ps
  have hr3 : r.length ≤ 3 := by omega
  obtain ⟨t, ht⟩ : ∃ t, s.ps[r.length]? = some t := ⟨_, List.getElem?_eq_getElem hlt⟩
  have ek := lo_keys (a0 := encH sh) hs (r := r) (x4 := .un) (x6 := .un) (x8 := .un) (x10 := .un)
  have en := lo_nums (a0 := encH sh) (s := s) hr3 (x4 := .dat (.list ((prm s).map kD))) (x6 := .un) (x8 := .un) (x10 := .un)
  obtain ⟨ds, el⟩ := lo_least (a0 := encH sh) h hr3 (x4 := .dat (.list ((prm s).map kD))) (x8 := .un) (x10 := .un)
  have eo := lo_old (a0 := encH sh) hs hlt ht (x6 := .dat (cD r)) (x8 := .dat (.int (k : Int))) (x10 := .un)
  have ev := lo_vals hh hs ht (x4 := .dat (.list ((prm s).map kD))) (x6 := .dat (cD r)) (x8 := .dat (.int (k : Int))) (x10 := .dat (.list ((old s r t).map encC)))
  have esp := sortP_ok (t := t) h hr3
  have e0 : fIx (.list (.int (k : Int) :: ds)) (.int 0) = some (.int (k : Int)) := by
    show atI (PyData.int (k : Int) :: ds) 0 = _
    unfold atI ixN
    simp
  have hl : (old s r t).length ≤ 3 := by
    have h2 : (old s r t).length ≤ (List.range r.length).length := List.length_filterMap_le _ _
    rw [List.length_range] at h2
    omega
  have hd := old_len s r t
  have hv := vals_len hh t
  have p1 : fPlus (.list ((old s r t).map encC)) (.list [.tuple [.int 0, .int (k : Int)]]) = some (.list ((old s r t).map encC ++ [.tuple [.int 0, .int (k : Int)]])) := plus_ll1 (by simp; omega)
  have p2 : fPlus (.list ((dedup (old s r t)).map encC ++ [encC k])) (.list ((vals sh t).map fun k => encG (.l k))) = some (.list (((dedup (old s r t)).map encC ++ [encC k]) ++ ((vals sh t).map fun k => encG (.l k)))) := plus_ll1 (by simp; omega)
  have s1 : mAsg (mOp1 fLen (mVar 2)) (asgD 3) [.dat (encH sh), .dat (encS s), .dat (encR r), .un, .un, .un, .un, .un, .un, .un, .un, .un, .un] = some (.nx, lo (encH sh) s r .un .un .un .un) := mAsg_ok (mOp1_ok rfl rfl (len_R r)) rfl
  have s2 := mAsg_ok (gm := asgD 4) (ρ2 := lo (encH sh) s r (.dat (.list ((prm s).map kD))) .un .un .un) ek rfl
  have s3 := mAsg_ok (gm := asgD 6) (ρ2 := lo (encH sh) s r (.dat (.list ((prm s).map kD))) (.dat (cD r)) .un .un) en rfl
  have s4 := mAsg_ok (gm := asgD 8) (ρ2 := lo (encH sh) s r (.dat (.list ((prm s).map kD))) (.dat (cD r)) (.dat (.int (k : Int))) .un) (mOp2_ok (f := fIx) (mb := mC (.int 0)) el rfl rfl rfl e0) rfl
  have e9 : runP 3 13 m_d_law_options [encH sh, encS s, encR r] = match m_d_law_options [.dat (encH sh), .dat (encS s), .dat (encR r), .un, .un, .un, .un, .un, .un, .un, .un, .un, .un] with
    | some (.rt d, _) => some d
    | some (.nx, _) => some .none
    | _ => none := rfl
  unfold f_d_law_options
  rw [e9]
  unfold m_d_law_options
  have hni := notIn_prm (s := s) r.length
  have t5 : mAsB (mOp2 fNotInS (mVar 3) (mVar 4)) (lo (encH sh) s r (.dat (.list ((prm s).map kD))) (.dat (cD r)) (.dat (.int (k : Int))) .un) = some (.ok (!inKeys s r.length), lo (encH sh) s r (.dat (.list ((prm s).map kD))) (.dat (cD r)) (.dat (.int (k : Int))) .un) :=
    mAsB_ok (mOp2_ok rfl rfl rfl rfl hni) rfl
  rw [mSeq_ok s1, mSeq_ok s2, mSeq_ok s3, mSeq_ok s4]
  by_cases ck : inKeys s r.length = true
  · rw [ck] at t5
    have s5 : mIfS (mAsB (mOp2 fNotInS (mVar 3) (mVar 4))) (mRetS (mLst (mCons (mTup (mCons (mC (.int 0)) (mCons (mVar 8) mNil))) mNil))) mSkip (lo (encH sh) s r (.dat (.list ((prm s).map kD))) (.dat (cD r)) (.dat (.int (k : Int))) .un) = some (.nx, lo (encH sh) s r (.dat (.list ((prm s).map kD))) (.dat (cD r)) (.dat (.int (k : Int))) .un) := mIfS_ok t5
    have s6 := mAsg_ok (gm := asgD 10) (ρ2 := lo (encH sh) s r (.dat (.list ((prm s).map kD))) (.dat (cD r)) (.dat (.int (k : Int))) (.dat (.list ((old s r t).map encC)))) eo rfl
    have s7 : mRetS (mOp2 fPlus (mOp1 fSortSetP (mOp2 fPlus (mVar 10) (mLst (mCons (mTup (mCons (mC (.int 0)) (mCons (mVar 8) mNil))) mNil)))) L_d_law_options_2) (lo (encH sh) s r (.dat (.list ((prm s).map kD))) (.dat (cD r)) (.dat (.int (k : Int))) (.dat (.list ((old s r t).map encC)))) = _ :=
      mRetS_ok (mOp2_ok (mOp1_ok (mOp2_ok (a := .loc 10) (b := .dat (.list [.tuple [.int 0, .int (k : Int)]])) rfl rfl rfl rfl p1) rfl esp) ev rfl rfl p2)
    have e : ((dedup (old s r t)).map encC ++ [encC k]) ++ ((vals sh t).map fun k => encG (.l k)) = ((dedup (old s r t)).map Sg.c ++ [Sg.c k] ++ (vals sh t).map Sg.l).map encG := by
      rw [List.map_append, List.map_append, List.map_map, List.map_map]
      rfl
    have eo2 : opts sh s r k = (dedup (old s r t)).map Sg.c ++ [Sg.c k] ++ (vals sh t).map Sg.l := by
      unfold opts
      rw [if_pos ck, List.getD_eq_getElem?_getD, ht, Option.getD_some]
    rw [mSeq_ok s5, mSeq_ok s6, s7, e, eo2]
  · have ck : inKeys s r.length = false := Bool.eq_false_iff.mpr ck
    rw [ck] at t5
    have s5 : mIfS (mAsB (mOp2 fNotInS (mVar 3) (mVar 4))) (mRetS (mLst (mCons (mTup (mCons (mC (.int 0)) (mCons (mVar 8) mNil))) mNil))) mSkip (lo (encH sh) s r (.dat (.list ((prm s).map kD))) (.dat (cD r)) (.dat (.int (k : Int))) .un) = some (.rt (.list [.tuple [.int 0, .int (k : Int)]]), lo (encH sh) s r (.dat (.list ((prm s).map kD))) (.dat (cD r)) (.dat (.int (k : Int))) .un) := (mIfS_ok t5).trans (mRetS_ok (d := .list [.tuple [.int 0, .int (k : Int)]]) rfl)
    have eo2 : opts sh s r k = [.c k] := by
      unfold opts
      rw [ck]
      rfl
    rw [eo2]
    unfold mSeq
    rw [s5]
    rfl
end K10
namespace K10
open PySem L2 Dat
open Classical in
noncomputable def kk (s : Shp) (r : List Sg) : Nat := if h : ∃ k, RowOk s r k then h.choose else 0
theorem kk_ok {s : Shp} {r : List Sg} (h : ∃ k, RowOk s r k) : RowOk s r (kk s r) := by
  unfold kk
  rw [dif_pos h]
  exact h.choose_spec
noncomputable def ext (sh : List Shp) (s : Shp) (r : List Sg) : List (List Sg) := (opts sh s r (kk s r)).map fun g => r ++ [g]
noncomputable def rowsN (sh : List Shp) (s : Shp) : Nat → List (List Sg)
  | 0 => [[]]
  | j + 1 => (rowsN sh s j).flatMap (ext sh s)
theorem opts_len {sh : List Shp} (hh : OkH sh) {s : Shp} {r : List Sg} {k : Nat} (hr : r.length ≤ 3) : (opts sh s r k).length ≤ 45 := by
  unfold opts
  split
  · have h1 := old_len s r (s.ps.getD r.length "")
    have h2 := vals_len hh (s.ps.getD r.length "")
    simp only [List.length_append, List.length_map, List.length_singleton]
    omega
  · simp
theorem rowsN_ok {sh : List Shp} (hh : OkH sh) {s : Shp} (hs : OkS s) : ∀ j, ∀ r ∈ rowsN sh s j, r.length = j ∧ ∃ k, RowOk s r k
  | 0, r, h => by
    rw [show rowsN sh s 0 = [[]] from rfl, List.mem_singleton] at h
    subst h
    exact ⟨rfl, 0, RowOk.nil s⟩
  | j + 1, r, h => by
    obtain ⟨q, h1, h2⟩ := List.mem_flatMap.mp (show r ∈ (rowsN sh s j).flatMap (ext sh s) from h)
    obtain ⟨hl, hk⟩ := rowsN_ok hh hs j q h1
    obtain ⟨g, h3, rfl⟩ := List.mem_map.mp h2
    exact ⟨by rw [List.length_append, hl, List.length_singleton], (kk_ok hk).next hh h3⟩
theorem flat_len {α β : Type} {f : α → List β} {c : Nat} : ∀ {xs : List α}, (∀ x ∈ xs, (f x).length ≤ c) → (xs.flatMap f).length ≤ c * xs.length
  | [], _ => by simp
  | x :: xs, h => by
    rw [List.flatMap_cons, List.length_append, List.length_cons]
    have h1 := h x List.mem_cons_self
    have h2 := flat_len fun y hy => h y (List.mem_cons_of_mem _ hy)
    rw [Nat.mul_add]
    omega
theorem rowsN_len {sh : List Shp} (hh : OkH sh) {s : Shp} (hs : OkS s) : ∀ j, j ≤ 3 → (rowsN sh s j).length ≤ 45 ^ j
  | 0, _ => Nat.le_refl _
  | j + 1, hj => by
    have h1 := rowsN_len hh hs j (by omega)
    have h2 : ((rowsN sh s j).flatMap (ext sh s)).length ≤ 45 * (rowsN sh s j).length := flat_len fun r hr => by
      have := (rowsN_ok hh hs j r hr).1
      unfold ext
      rw [List.length_map]
      exact opts_len hh (by omega)
    show ((rowsN sh s j).flatMap (ext sh s)).length ≤ 45 ^ j * 45
    omega
theorem rowsN_small {sh : List Shp} (hh : OkH sh) {s : Shp} (hs : OkS s) {j : Nat} (hj : j ≤ 2) : (rowsN sh s j).length ≤ 2025 := by
  have h := rowsN_len hh hs j (by omega)
  have : 45 ^ j ≤ 45 ^ 2 := Nat.pow_le_pow_right (by decide) hj
  have e : 45 ^ 2 = 2025 := by decide
  omega
theorem plus_R {r : List Sg} (hr : r.length ≤ 3) (g : Sg) : fPlus (encR r) (.tuple [encG g]) = some (encR (r ++ [g])) := by
  have := plus_tt (xs := r.map encG) (ys := [encG g]) (Nat.le_trans (by simp; omega : _ ≤ 1000) (by decide))
  unfold encR
  rw [this, List.map_append]
  rfl
/-! ### choices -/
theorem ch_signs {sh : List Shp} (hh : OkH sh) {s : Shp} (hs : OkS s) {r : List Sg} (hlt : r.length < s.ps.length) (h : ∃ k, RowOk s r k) {a1 a3 a4 : D} {j7 : Sl} (h7 : np j7 = true) {acc : List (List Sg)} (ha : acc.length ≤ 100000) :
    ∃ k7, L_d_choices_1 [.dat (encH sh), .dat a1, .dat (encS s), .dat a3, .dat a4, .own (.lst (acc.map encR)), .dat (encR r), j7] = some (.nx, [.dat (encH sh), .dat a1, .dat (encS s), .dat a3, .dat a4, .own (.lst ((acc ++ ext sh s r).map encR)), .dat (encR r), k7]) ∧ np k7 = true := by
  have hps := hs.ps
  have ho := opts_len hh (s := s) (r := r) (k := kk s r) (by omega)
  have efs := first_signs_eq hh hs hlt (kk_ok h)
  obtain ⟨ρ', e, ⟨k7, rfl, n7⟩, _⟩ := mFor_fold (mi := mSeqL (mCall f_d_first_signs (mCons (mVar 0) (mCons (mVar 2) (mCons (mVar 6) mNil))))) (gm := asgD 7) (body := B_d_choices_0) (enc := encG)
    (ρ := [.dat (encH sh), .dat a1, .dat (encS s), .dat a3, .dat a4, .own (.lst (acc.map encR)), .dat (encR r), j7]) (ρ0 := [.dat (encH sh), .dat a1, .dat (encS s), .dat a3, .dat a4, .own (.lst (acc.map encR)), .dat (encR r), j7])
    (fun m (acc : List (List Sg)) ρ => (∃ k7, ρ = [.dat (encH sh), .dat a1, .dat (encS s), .dat a3, .dat a4, .own (.lst (acc.map encR)), .dat (encR r), k7] ∧ np k7 = true) ∧ acc.length ≤ 100000 + m) (fun acc g => acc ++ [r ++ [g]]) (opts sh s r (kk s r)) (b := acc)
    (by simp [runP, runB, runO, mSeq, mIfS, mThen, mAsB, mOp2, mBind, mVar, mC, mRet, mLift, mTup, mLst, mCons, mNil, mkSeq, frcs, app2, rdD, asB, tru, truD, mTru, mNot, mAnd, mOr, fGt, fLt, fLe, fGe, fInt2, mAsg, frc, asgS, asgD_np, asgO_np, npAt, np_un, np_dat, np_own, newL, mNewL, mAppend, pushL, mSeqT, mSeqL, seqT, seqL, stepS, stepC, wipeS, mOp1, app1, fIntOf, fAbs, fNeg, fMod, fMul, mulOk, fDiv, fPow, fSub, mSetItem, isOL, asI, ownL, setL, mIf, mRetS, retD, mSkip, mCont, mBrk, mCall, appF, mCallB, appB, shaped_int, shaped_bool, BIG, ↓reduceIte, efs]) (fun m g hg acc ρ hI => by
      obtain ⟨⟨k7, rfl, n7⟩, ha⟩ := hI
      have hm := (List.getElem?_eq_some_iff.mp hg).1
      have hl : acc.length < 1000000 := by omega
      refine ⟨.nx, _, ?_, .inl rfl, ⟨.dat (encG g), rfl, rfl⟩, by simp; omega⟩
      simp [B_d_choices_0, runP, runB, runO, mSeq, mIfS, mThen, mAsB, mOp2, mBind, mVar, mC, mRet, mLift, mTup, mLst, mCons, mNil, mkSeq, frcs, app2, rdD, asB, tru, truD, mTru, mNot, mAnd, mOr, fGt, fLt, fLe, fGe, fInt2, mAsg, frc, asgS, asgD_np, asgO_np, npAt, np_un, np_dat, np_own, newL, mNewL, mAppend, pushL, mSeqT, mSeqL, seqT, seqL, stepS, stepC, wipeS, mOp1, app1, fIntOf, fAbs, fNeg, fMod, fMul, mulOk, fDiv, fPow, fSub, mSetItem, isOL, asI, ownL, setL, mIf, mRetS, retD, mSkip, mCont, mBrk, mCall, appF, mCallB, appB, shaped_int, shaped_bool, BIG, ↓reduceIte, n7, plus_R (show r.length ≤ 3 by omega), hl]) ⟨⟨j7, rfl, h7⟩, by omega⟩
  have ef : ∀ (gs : List Sg) (acc : List (List Sg)), gs.foldl (fun acc g => acc ++ [r ++ [g]]) acc = acc ++ gs.map fun g => r ++ [g] := fun gs => by
    induction gs with
    | nil => intro acc; simp
    | cons g gs ih => intro acc; rw [List.foldl_cons, ih]; simp
  rw [ef] at e
  exact ⟨k7, e, n7⟩
theorem fold_ext {α β : Type} (f : α → List β) : ∀ (xs : List α) (acc : List β), xs.foldl (fun acc x => acc ++ f x) acc = acc ++ xs.flatMap f
  | [], acc => by simp
  | x :: xs, acc => by rw [List.foldl_cons, fold_ext f xs, List.flatMap_cons, List.append_assoc]
theorem ch_rows {sh : List Shp} (hh : OkH sh) {s : Shp} (hs : OkS s) {j : Nat} (hj : j < s.ps.length) {a1 a4 : D} {j6 j7 : Sl} (h6 : np j6 = true) (h7 : np j7 = true) :
    ∃ k6 k7, L_d_choices_3 [.dat (encH sh), .dat a1, .dat (encS s), .dat (.list ((rowsN sh s j).map encR)), .dat a4, .own (.lst []), j6, j7] = some (.nx, [.dat (encH sh), .dat a1, .dat (encS s), .dat (.list ((rowsN sh s j).map encR)), .dat a4, .own (.lst ((rowsN sh s (j + 1)).map encR)), k6, k7]) ∧ np k6 = true ∧ np k7 = true := by
  have hps := hs.ps
  have hn := rowsN_small hh hs (j := j) (by omega)
  obtain ⟨ρ', e, ⟨k6, k7, rfl, n6, n7⟩, _⟩ := mFor_fold (mi := mSeqL (mVar 3)) (gm := asgD 6) (body := B_d_choices_2) (enc := encR)
    (ρ := [.dat (encH sh), .dat a1, .dat (encS s), .dat (.list ((rowsN sh s j).map encR)), .dat a4, .own (.lst (([] : List (List Sg)).map encR)), j6, j7]) (ρ0 := [.dat (encH sh), .dat a1, .dat (encS s), .dat (.list ((rowsN sh s j).map encR)), .dat a4, .own (.lst (([] : List (List Sg)).map encR)), j6, j7])
    (fun m (acc : List (List Sg)) ρ => (∃ k6 k7, ρ = [.dat (encH sh), .dat a1, .dat (encS s), .dat (.list ((rowsN sh s j).map encR)), .dat a4, .own (.lst (acc.map encR)), k6, k7] ∧ np k6 = true ∧ np k7 = true) ∧ acc.length ≤ 45 * m) (fun acc r => acc ++ ext sh s r) (rowsN sh s j) (b := [])
    (by simp [runP, runB, runO, mSeq, mIfS, mThen, mAsB, mOp2, mBind, mVar, mC, mRet, mLift, mTup, mLst, mCons, mNil, mkSeq, frcs, app2, rdD, asB, tru, truD, mTru, mNot, mAnd, mOr, fGt, fLt, fLe, fGe, fInt2, mAsg, frc, asgS, asgD_np, asgO_np, npAt, np_un, np_dat, np_own, newL, mNewL, mAppend, pushL, mSeqT, mSeqL, seqT, seqL, stepS, stepC, wipeS, mOp1, app1, fIntOf, fAbs, fNeg, fMod, fMul, mulOk, fDiv, fPow, fSub, mSetItem, isOL, asI, ownL, setL, mIf, mRetS, retD, mSkip, mCont, mBrk, mCall, appF, mCallB, appB, shaped_int, shaped_bool, BIG, ↓reduceIte]) (fun m r hr acc ρ hI => by
      obtain ⟨⟨k6, k7, rfl, n6, n7⟩, ha⟩ := hI
      have hm := (List.getElem?_eq_some_iff.mp hr).1
      obtain ⟨hl, hk⟩ := rowsN_ok hh hs j r (List.mem_of_getElem? hr)
      obtain ⟨l7, e, m7⟩ := ch_signs hh hs (a1 := a1) (a3 := .list ((rowsN sh s j).map encR)) (a4 := a4) (by omega) hk n7 (acc := acc) (by omega)
      refine ⟨.nx, _, ?_, .inl rfl, ⟨.dat (encR r), l7, rfl, rfl, m7⟩, ?_⟩
      · unfold stepS B_d_choices_2
        rw [asgD_np (by simp [npAt, n6])]
        exact e
      · have := opts_len hh (s := s) (r := r) (k := kk s r) (by omega)
        unfold ext
        simp only [List.length_append, List.length_map]
        omega) ⟨⟨j6, j7, rfl, h6, h7⟩, Nat.zero_le _⟩
  rw [fold_ext, List.nil_append] at e
  exact ⟨k6, k7, e, n6, n7⟩
theorem choices_eq {sh : List Shp} (hh : OkH sh) {p : Nat} {s : Shp} (hp : sh[p]? = some s) : f_d_choices [encH sh, .int (p : Int)] = some (.tuple ((rowsN sh s s.ps.length).map encR)) := by
  have hs := hh.ok s (List.mem_of_getElem? hp)
  have hps := hs.ps
  have ei : fIx (encH sh) (.int (p : Int)) = some (encS s) := ix_at (f := encS) hp
  obtain ⟨ρ', e, ⟨k4, k5, k6, k7, rfl, n4, n5, n6, n7⟩⟩ := mFor_fold (mi := mSeqT (mOp2 fIx (mVar 2) (mC (.int 1)))) (gm := asgD 4) (body := B_d_choices_4) (enc := PyData.str)
    (ρ := [.dat (encH sh), .dat (.int (p : Int)), .dat (encS s), .dat (.list ((rowsN sh s 0).map encR)), .un, .un, .un, .un]) (ρ0 := [.dat (encH sh), .dat (.int (p : Int)), .dat (encS s), .dat (.list ((rowsN sh s 0).map encR)), .un, .un, .un, .un])
    (fun m (_ : Unit) ρ => ∃ k4 k5 k6 k7, ρ = [.dat (encH sh), .dat (.int (p : Int)), .dat (encS s), .dat (.list ((rowsN sh s m).map encR)), k4, k5, k6, k7] ∧ np k4 = true ∧ np k5 = true ∧ np k6 = true ∧ np k7 = true) (fun _ _ => ()) s.ps (b := ())
    (by simp [runP, runB, runO, mSeq, mIfS, mThen, mAsB, mOp2, mBind, mVar, mC, mRet, mLift, mTup, mLst, mCons, mNil, mkSeq, frcs, app2, rdD, asB, tru, truD, mTru, mNot, mAnd, mOr, fGt, fLt, fLe, fGe, fInt2, mAsg, frc, asgS, asgD_np, asgO_np, npAt, np_un, np_dat, np_own, newL, mNewL, mAppend, pushL, mSeqT, mSeqL, seqT, seqL, stepS, stepC, wipeS, mOp1, app1, fIntOf, fAbs, fNeg, fMod, fMul, mulOk, fDiv, fPow, fSub, mSetItem, isOL, asI, ownL, setL, mIf, mRetS, retD, mSkip, mCont, mBrk, mCall, appF, mCallB, appB, shaped_int, shaped_bool, BIG, ↓reduceIte, ix_ps]) (fun m x hx _ ρ hI => by
      obtain ⟨k4, k5, k6, k7, rfl, n4, n5, n6, n7⟩ := hI
      have hm := (List.getElem?_eq_some_iff.mp hx).1
      obtain ⟨l6, l7, e, m6, m7⟩ := ch_rows hh hs hm (a1 := .int (p : Int)) (a4 := .str x) n6 n7
      refine ⟨.nx, _, ?_, .inl rfl, ⟨.dat (.str x), .dat (.list ((rowsN sh s (m + 1)).map encR)), l6, l7, rfl, rfl, rfl, m6, m7⟩⟩
      simp [B_d_choices_4, runP, runB, runO, mSeq, mIfS, mThen, mAsB, mOp2, mBind, mVar, mC, mRet, mLift, mTup, mLst, mCons, mNil, mkSeq, frcs, app2, rdD, asB, tru, truD, mTru, mNot, mAnd, mOr, fGt, fLt, fLe, fGe, fInt2, mAsg, frc, asgS, asgD_np, asgO_np, npAt, np_un, np_dat, np_own, newL, mNewL, mAppend, pushL, mSeqT, mSeqL, seqT, seqL, stepS, stepC, wipeS, mOp1, app1, fIntOf, fAbs, fNeg, fMod, fMul, mulOk, fDiv, fPow, fSub, mSetItem, isOL, asI, ownL, setL, mIf, mRetS, retD, mSkip, mCont, mBrk, mCall, appF, mCallB, appB, shaped_int, shaped_bool, BIG, ↓reduceIte, n4, n5, e]) ⟨.un, .un, .un, .un, rfl, rfl, rfl, rfl, rfl⟩
  have e : L_d_choices_5 [.dat (encH sh), .dat (.int (p : Int)), .dat (encS s), .dat (.list [.tuple []]), .un, .un, .un, .un] = some (.nx, [.dat (encH sh), .dat (.int (p : Int)), .dat (encS s), .dat (.list ((rowsN sh s s.ps.length).map encR)), k4, k5, k6, k7]) := e
  have et : fTupleOf (.list ((rowsN sh s s.ps.length).map encR)) = some (.tuple ((rowsN sh s s.ps.length).map encR)) := rfl
  simp [f_d_choices, m_d_choices, runP, runB, runO, mSeq, mIfS, mThen, mAsB, mOp2, mBind, mVar, mC, mRet, mLift, mTup, mLst, mCons, mNil, mkSeq, frcs, app2, rdD, asB, tru, truD, mTru, mNot, mAnd, mOr, fGt, fLt, fLe, fGe, fInt2, mAsg, frc, asgS, asgD_np, asgO_np, npAt, np_un, np_dat, np_own, newL, mNewL, mAppend, pushL, mSeqT, mSeqL, seqT, seqL, stepS, stepC, wipeS, mOp1, app1, fIntOf, fAbs, fNeg, fMod, fMul, mulOk, fDiv, fPow, fSub, mSetItem, isOL, asI, ownL, setL, mIf, mRetS, retD, mSkip, mCont, mBrk, mCall, appF, mCallB, appB, shaped_int, shaped_bool, BIG, ↓reduceIte, ei, e, et]
end K10
namespace K10
open PySem L2 Dat
/-! ### the law's own rows -/
theorem lw_one {sh : List Shp} (hh : OkH sh) {s : Shp} (hs : OkS s) {r : List Sg} (hlt : r.length < s.ps.length) (h : ∃ k, RowOk s r k) {a0 a3 a4 a5 a7 a8 : D} {j1 : Sl} :
    L_d_law_2 [.dat a0, j1, .dat (encH sh), .dat a3, .dat a4, .dat a5, .dat (encS s), .dat a7, .dat a8, .dat (encR r), .un] = some (.ok (.dat (.list ((ext sh s r).map encR))), [.dat a0, j1, .dat (encH sh), .dat a3, .dat a4, .dat a5, .dat (encS s), .dat a7, .dat a8, .dat (encR r), .un]) := by
  have hps := hs.ps
  have ho := opts_len hh (s := s) (r := r) (k := kk s r) (by omega)
  have elo := law_options_eq hh hs hlt (kk_ok h)
  have := mLc_pure (mi := mSeqL (mCall f_d_law_options (mCons (mVar 2) (mCons (mVar 6) (mCons (mVar 9) mNil))))) (gm := asgD 10) (mt := T_d_law_1) (me := E_d_law_0) (vs := [10]) (enc := encG) (fun g => some (encR (r ++ [g]))) (opts sh s r (kk s r))
    (ρ := [.dat a0, j1, .dat (encH sh), .dat a3, .dat a4, .dat a5, .dat (encS s), .dat a7, .dat a8, .dat (encR r), .un]) (ρ0 := [.dat a0, j1, .dat (encH sh), .dat a3, .dat a4, .dat a5, .dat (encS s), .dat a7, .dat a8, .dat (encR r), .un])
    (by simp [runP, runB, runO, mSeq, mIfS, mThen, mAsB, mOp2, mBind, mVar, mC, mRet, mLift, mTup, mLst, mCons, mNil, mkSeq, frcs, app2, rdD, asB, tru, truD, mTru, mNot, mAnd, mOr, fGt, fLt, fLe, fGe, fInt2, mAsg, frc, asgS, asgD_np, asgO_np, npAt, np_un, np_dat, np_own, newL, mNewL, mAppend, pushL, mSeqT, mSeqL, seqT, seqL, stepS, stepC, wipeS, mOp1, app1, fIntOf, fAbs, fNeg, fMod, fMul, mulOk, fDiv, fPow, fSub, mSetItem, isOL, asI, ownL, setL, mIf, mRetS, retD, mSkip, mCont, mBrk, mCall, appF, mCallB, appB, shaped_int, shaped_bool, BIG, ↓reduceIte, elo]) (le_big (by omega)) (fun g hg => by
      simp [T_d_law_1, E_d_law_0, runP, runB, runO, mSeq, mIfS, mThen, mAsB, mOp2, mBind, mVar, mC, mRet, mLift, mTup, mLst, mCons, mNil, mkSeq, frcs, app2, rdD, asB, tru, truD, mTru, mNot, mAnd, mOr, fGt, fLt, fLe, fGe, fInt2, mAsg, frc, asgS, asgD_np, asgO_np, npAt, np_un, np_dat, np_own, newL, mNewL, mAppend, pushL, mSeqT, mSeqL, seqT, seqL, stepS, stepC, wipeS, mOp1, app1, fIntOf, fAbs, fNeg, fMod, fMul, mulOk, fDiv, fPow, fSub, mSetItem, isOL, asI, ownL, setL, mIf, mRetS, retD, mSkip, mCont, mBrk, mCall, appF, mCallB, appB, shaped_int, shaped_bool, BIG, ↓reduceIte, plus_R (show r.length ≤ 3 by omega)])
  unfold L_d_law_2
  rw [this]
  have e : (opts sh s r (kk s r)).filterMap (fun g => some (encR (r ++ [g]))) = (ext sh s r).map encR := by
    unfold ext
    rw [List.filterMap_eq_map', List.map_map]
    rfl
  rw [e]
  rfl
theorem lw_rows {sh : List Shp} (hh : OkH sh) {s : Shp} (hs : OkS s) {j : Nat} (hj : j < s.ps.length) {a0 a3 a4 a5 : D} {j1 j9 : Sl} (h9 : np j9 = true) :
    ∃ k9, L_d_law_4 [.dat a0, j1, .dat (encH sh), .dat a3, .dat a4, .dat a5, .dat (encS s), .dat (.list ((rowsN sh s j).map encR)), .dat (.list []), j9, .un] = some (.nx, [.dat a0, j1, .dat (encH sh), .dat a3, .dat a4, .dat a5, .dat (encS s), .dat (.list ((rowsN sh s j).map encR)), .dat (.list ((rowsN sh s (j + 1)).map encR)), k9, .un]) ∧ np k9 = true := by
  have hps := hs.ps
  have hn := rowsN_small hh hs (j := j) (by omega)
  obtain ⟨ρ', e, ⟨k9, rfl, n9⟩, _⟩ := mFor_fold (mi := mSeqL (mVar 7)) (gm := asgD 9) (body := B_d_law_3) (enc := encR)
    (ρ := [.dat a0, j1, .dat (encH sh), .dat a3, .dat a4, .dat a5, .dat (encS s), .dat (.list ((rowsN sh s j).map encR)), .dat (.list (([] : List (List Sg)).map encR)), j9, .un]) (ρ0 := [.dat a0, j1, .dat (encH sh), .dat a3, .dat a4, .dat a5, .dat (encS s), .dat (.list ((rowsN sh s j).map encR)), .dat (.list (([] : List (List Sg)).map encR)), j9, .un])
    (fun m (acc : List (List Sg)) ρ => (∃ k9, ρ = [.dat a0, j1, .dat (encH sh), .dat a3, .dat a4, .dat a5, .dat (encS s), .dat (.list ((rowsN sh s j).map encR)), .dat (.list (acc.map encR)), k9, .un] ∧ np k9 = true) ∧ acc.length ≤ 45 * m) (fun acc r => acc ++ ext sh s r) (rowsN sh s j) (b := [])
    (by simp [runP, runB, runO, mSeq, mIfS, mThen, mAsB, mOp2, mBind, mVar, mC, mRet, mLift, mTup, mLst, mCons, mNil, mkSeq, frcs, app2, rdD, asB, tru, truD, mTru, mNot, mAnd, mOr, fGt, fLt, fLe, fGe, fInt2, mAsg, frc, asgS, asgD_np, asgO_np, npAt, np_un, np_dat, np_own, newL, mNewL, mAppend, pushL, mSeqT, mSeqL, seqT, seqL, stepS, stepC, wipeS, mOp1, app1, fIntOf, fAbs, fNeg, fMod, fMul, mulOk, fDiv, fPow, fSub, mSetItem, isOL, asI, ownL, setL, mIf, mRetS, retD, mSkip, mCont, mBrk, mCall, appF, mCallB, appB, shaped_int, shaped_bool, BIG, ↓reduceIte]) (fun m r hr acc ρ hI => by
      obtain ⟨⟨k9, rfl, n9⟩, ha⟩ := hI
      have hm := (List.getElem?_eq_some_iff.mp hr).1
      obtain ⟨hl, hk⟩ := rowsN_ok hh hs j r (List.mem_of_getElem? hr)
      have ho := opts_len hh (s := s) (r := r) (k := kk s r) (by omega)
      have hx : (ext sh s r).length ≤ 45 := by unfold ext; rw [List.length_map]; exact ho
      have e := lw_one hh hs (a0 := a0) (a3 := a3) (a4 := a4) (a5 := a5) (a7 := .list ((rowsN sh s j).map encR)) (a8 := .list (acc.map encR)) (j1 := j1) (by omega) hk
      have p1 : fPlus (.list (acc.map encR)) (.list ((ext sh s r).map encR)) = some (.list ((acc ++ ext sh s r).map encR)) := by
        rw [plus_ll (Nat.le_trans (by rw [List.length_map, List.length_map]; omega : _ ≤ 100000) (by decide)), List.map_append]
      refine ⟨.nx, [.dat a0, j1, .dat (encH sh), .dat a3, .dat a4, .dat a5, .dat (encS s), .dat (.list ((rowsN sh s j).map encR)), .dat (.list ((acc ++ ext sh s r).map encR)), .dat (encR r), .un], ?_, .inl rfl, ⟨.dat (encR r), rfl, rfl⟩, by simp only [List.length_append]; omega⟩
      unfold stepS B_d_law_3
      rw [asgD_np (by simp [npAt, n9])]
      exact mAsg_ok (mOp2_ok (a := .loc 8) rfl e rfl rfl p1) (asgD_np rfl)) ⟨⟨j9, rfl, h9⟩, Nat.zero_le _⟩
  rw [fold_ext, List.nil_append] at e
  exact ⟨k9, e, n9⟩
theorem lw_all {sh : List Shp} (hh : OkH sh) {s : Shp} (hs : OkS s) {a0 a4 a5 : D} {j1 j3 j8 j9 : Sl} (h3 : np j3 = true) (h8 : np j8 = true) (h9 : np j9 = true) :
    ∃ k3 k8 k9, L_d_law_6 [.dat a0, j1, .dat (encH sh), j3, .dat a4, .dat a5, .dat (encS s), .dat (.list [.tuple []]), j8, j9, .un] = some (.nx, [.dat a0, j1, .dat (encH sh), k3, .dat a4, .dat a5, .dat (encS s), .dat (.list ((rowsN sh s s.ps.length).map encR)), k8, k9, .un]) ∧ np k3 = true ∧ np k8 = true ∧ np k9 = true := by
  obtain ⟨ρ', e, ⟨k3, k8, k9, rfl, n3, n8, n9⟩⟩ := mFor_fold (mi := mSeqT (mOp2 fIx (mVar 6) (mC (.int 1)))) (gm := asgD 3) (body := B_d_law_5) (enc := PyData.str)
    (ρ := [.dat a0, j1, .dat (encH sh), j3, .dat a4, .dat a5, .dat (encS s), .dat (.list ((rowsN sh s 0).map encR)), j8, j9, .un]) (ρ0 := [.dat a0, j1, .dat (encH sh), j3, .dat a4, .dat a5, .dat (encS s), .dat (.list ((rowsN sh s 0).map encR)), j8, j9, .un])
    (fun m (_ : Unit) ρ => ∃ k3 k8 k9, ρ = [.dat a0, j1, .dat (encH sh), k3, .dat a4, .dat a5, .dat (encS s), .dat (.list ((rowsN sh s m).map encR)), k8, k9, .un] ∧ np k3 = true ∧ np k8 = true ∧ np k9 = true) (fun _ _ => ()) s.ps (b := ())
    (by simp [runP, runB, runO, mSeq, mIfS, mThen, mAsB, mOp2, mBind, mVar, mC, mRet, mLift, mTup, mLst, mCons, mNil, mkSeq, frcs, app2, rdD, asB, tru, truD, mTru, mNot, mAnd, mOr, fGt, fLt, fLe, fGe, fInt2, mAsg, frc, asgS, asgD_np, asgO_np, npAt, np_un, np_dat, np_own, newL, mNewL, mAppend, pushL, mSeqT, mSeqL, seqT, seqL, stepS, stepC, wipeS, mOp1, app1, fIntOf, fAbs, fNeg, fMod, fMul, mulOk, fDiv, fPow, fSub, mSetItem, isOL, asI, ownL, setL, mIf, mRetS, retD, mSkip, mCont, mBrk, mCall, appF, mCallB, appB, shaped_int, shaped_bool, BIG, ↓reduceIte, ix_ps]) (fun m x hx _ ρ hI => by
      obtain ⟨k3, k8, k9, rfl, n3, n8, n9⟩ := hI
      have hm := (List.getElem?_eq_some_iff.mp hx).1
      obtain ⟨l9, e, m9⟩ := lw_rows hh hs hm (a0 := a0) (a3 := .str x) (a4 := a4) (a5 := a5) (j1 := j1) n9
      refine ⟨.nx, _, ?_, .inl rfl, ⟨.dat (.str x), .dat (.list ((rowsN sh s (m + 1)).map encR)), l9, rfl, rfl, rfl, m9⟩⟩
      simp [B_d_law_5, runP, runB, runO, mSeq, mIfS, mThen, mAsB, mOp2, mBind, mVar, mC, mRet, mLift, mTup, mLst, mCons, mNil, mkSeq, frcs, app2, rdD, asB, tru, truD, mTru, mNot, mAnd, mOr, fGt, fLt, fLe, fGe, fInt2, mAsg, frc, asgS, asgD_np, asgO_np, npAt, np_un, np_dat, np_own, newL, mNewL, mAppend, pushL, mSeqT, mSeqL, seqT, seqL, stepS, stepC, wipeS, mOp1, app1, fIntOf, fAbs, fNeg, fMod, fMul, mulOk, fDiv, fPow, fSub, mSetItem, isOL, asI, ownL, setL, mIf, mRetS, retD, mSkip, mCont, mBrk, mCall, appF, mCallB, appB, shaped_int, shaped_bool, BIG, ↓reduceIte, n3, n8, e]) ⟨j3, j8, j9, rfl, h3, h8, h9⟩
  exact ⟨k3, k8, k9, e, n3, n8, n9⟩
theorem shd_R {r : List Sg} (h : ∀ g ∈ r, okG g = true) : Shd 2 (encR r) := Shd.tuple fun g hg => shd_g (h g hg)
theorem shd_rows {sh : List Shp} (hh : OkH sh) {s : Shp} (hs : OkS s) (j : Nat) : Shd 3 (.tuple ((rowsN sh s j).map encR)) := Shd.tuple fun r hr => by
  obtain ⟨_, k, hk⟩ := rowsN_ok hh hs j r hr
  exact shd_R hk.ok
theorem eqv_same (d : D) (h : PyData.canLay0 d = true) : PyData.eqv d d = true := SeqAt.eqv_refl d h
theorem ne_same {n : Nat} {d : D} (h : Shd n d) (hn : n ≤ 64) : fNe d d = some (.bool false) := by
  unfold fNe
  rw [if_pos ⟨h.shaped hn, h.shaped hn⟩, eqv_same d h.1]
  rfl
end K10
namespace K10
open PySem L2 Dat
/-- a box -/
def Box (o : O) : Prop := ∃ (v n a : Int) (cs : List Int), 0 ≤ a ∧ o = .lst [.int v, .int n, .int a, .list (cs.map .int)]
def TakeGood (m : Int) (p : Option (D × O)) : Prop := ∃ (r : Int) (o' : O), p = some (.int r, o') ∧ Box o' ∧ 0 ≤ r ∧ r < m
theorem take_good {o : O} (h : Box o) {m : Int} (h0 : 0 < m) (hm : m < 1073741824) : ∀ p, f_d_law_take o [.int m] = p → TakeGood m p := by
  obtain ⟨v, n, a, cs, ha, rfl⟩ := h
  have md : ∀ x : Int, 0 ≤ x % m ∧ x % m < m := fun x => ⟨Int.emod_nonneg _ (by omega), Int.emod_lt_of_pos _ h0⟩
  intro p e
  by_cases hn : n = 0
  · subst hn
    by_cases hl : a < cs.length
    · have hi : a.toNat < cs.length := by omega
      by_cases hc : (1000000000000000000 : Int) ≤ cs[a.toNat]
      · by_cases hq : 0 < cs[a.toNat] / m
        · simp [f_d_law_take, m_d_law_take, runP, runB, runO, mSeq, mIfS, mThen, mAsB, mOp2, mBind, mVar, mC, mRet, mLift, mTup, mLst, mCons, mNil, mkSeq, frcs, app2, rdD, fIx, atI, ixN, fEq, fNe, asB, tru, truD, mTru, mNot, mAnd, mOr, fGt, fLt, fLe, fGe, fInt2, mAsg, frc, asgS, asgD_np, asgO_np, npAt, np_un, np_dat, np_own, newL, mNewL, mAppend, pushL, fTupleOf, mSeqT, mSeqL, seqT, seqL, stepS, stepC, wipeS, mOp1, app1, fIntOf, fAbs, fLen, fNeg, fMod, fMul, mulOk, fDiv, fPow, fSub, fPlus, fP1, fP2, fAdd, fAddS, fAddT, fAddL, mSetItem, isOL, asI, ownL, setL, mIf, mRetS, retD, mSkip, mCont, mBrk, mCall, appF, mCallB, appB, shaped_int, shaped_bool, PyData.eqv, BIG, ↓reduceIte, ha, hl, hi, hc, hq, h0, hm] at e
          subst e
          exact ⟨_, _, rfl, ⟨_, _, _, cs, by omega, rfl⟩, md _⟩
        · simp [f_d_law_take, m_d_law_take, runP, runB, runO, mSeq, mIfS, mThen, mAsB, mOp2, mBind, mVar, mC, mRet, mLift, mTup, mLst, mCons, mNil, mkSeq, frcs, app2, rdD, fIx, atI, ixN, fEq, fNe, asB, tru, truD, mTru, mNot, mAnd, mOr, fGt, fLt, fLe, fGe, fInt2, mAsg, frc, asgS, asgD_np, asgO_np, npAt, np_un, np_dat, np_own, newL, mNewL, mAppend, pushL, fTupleOf, mSeqT, mSeqL, seqT, seqL, stepS, stepC, wipeS, mOp1, app1, fIntOf, fAbs, fLen, fNeg, fMod, fMul, mulOk, fDiv, fPow, fSub, fPlus, fP1, fP2, fAdd, fAddS, fAddT, fAddL, mSetItem, isOL, asI, ownL, setL, mIf, mRetS, retD, mSkip, mCont, mBrk, mCall, appF, mCallB, appB, shaped_int, shaped_bool, PyData.eqv, BIG, ↓reduceIte, ha, hl, hi, hc, hq, h0, hm] at e
          subst e
          exact ⟨_, _, rfl, ⟨_, _, _, cs, by omega, rfl⟩, md _⟩
      · simp [f_d_law_take, m_d_law_take, runP, runB, runO, mSeq, mIfS, mThen, mAsB, mOp2, mBind, mVar, mC, mRet, mLift, mTup, mLst, mCons, mNil, mkSeq, frcs, app2, rdD, fIx, atI, ixN, fEq, fNe, asB, tru, truD, mTru, mNot, mAnd, mOr, fGt, fLt, fLe, fGe, fInt2, mAsg, frc, asgS, asgD_np, asgO_np, npAt, np_un, np_dat, np_own, newL, mNewL, mAppend, pushL, fTupleOf, mSeqT, mSeqL, seqT, seqL, stepS, stepC, wipeS, mOp1, app1, fIntOf, fAbs, fLen, fNeg, fMod, fMul, mulOk, fDiv, fPow, fSub, fPlus, fP1, fP2, fAdd, fAddS, fAddT, fAddL, mSetItem, isOL, asI, ownL, setL, mIf, mRetS, retD, mSkip, mCont, mBrk, mCall, appF, mCallB, appB, shaped_int, shaped_bool, PyData.eqv, BIG, ↓reduceIte, ha, hl, hi, hc, h0, hm] at e
        subst e
        exact ⟨_, _, rfl, ⟨_, _, _, cs, by omega, rfl⟩, md _⟩
    · simp [f_d_law_take, m_d_law_take, runP, runB, runO, mSeq, mIfS, mThen, mAsB, mOp2, mBind, mVar, mC, mRet, mLift, mTup, mLst, mCons, mNil, mkSeq, frcs, app2, rdD, fIx, atI, ixN, fEq, fNe, asB, tru, truD, mTru, mNot, mAnd, mOr, fGt, fLt, fLe, fGe, fInt2, mAsg, frc, asgS, asgD_np, asgO_np, npAt, np_un, np_dat, np_own, newL, mNewL, mAppend, pushL, fTupleOf, mSeqT, mSeqL, seqT, seqL, stepS, stepC, wipeS, mOp1, app1, fIntOf, fAbs, fLen, fNeg, fMod, fMul, mulOk, fDiv, fPow, fSub, fPlus, fP1, fP2, fAdd, fAddS, fAddT, fAddL, mSetItem, isOL, asI, ownL, setL, mIf, mRetS, retD, mSkip, mCont, mBrk, mCall, appF, mCallB, appB, shaped_int, shaped_bool, PyData.eqv, BIG, ↓reduceIte, ha, hl, h0, hm] at e
      subst e
      exact ⟨_, _, rfl, ⟨_, _, _, cs, by omega, rfl⟩, by omega, by omega⟩
  · by_cases hp : 0 < n
    · by_cases hq : 0 < v / m
      · simp [f_d_law_take, m_d_law_take, runP, runB, runO, mSeq, mIfS, mThen, mAsB, mOp2, mBind, mVar, mC, mRet, mLift, mTup, mLst, mCons, mNil, mkSeq, frcs, app2, rdD, fIx, atI, ixN, fEq, fNe, asB, tru, truD, mTru, mNot, mAnd, mOr, fGt, fLt, fLe, fGe, fInt2, mAsg, frc, asgS, asgD_np, asgO_np, npAt, np_un, np_dat, np_own, newL, mNewL, mAppend, pushL, fTupleOf, mSeqT, mSeqL, seqT, seqL, stepS, stepC, wipeS, mOp1, app1, fIntOf, fAbs, fLen, fNeg, fMod, fMul, mulOk, fDiv, fPow, fSub, fPlus, fP1, fP2, fAdd, fAddS, fAddT, fAddL, mSetItem, isOL, asI, ownL, setL, mIf, mRetS, retD, mSkip, mCont, mBrk, mCall, appF, mCallB, appB, shaped_int, shaped_bool, PyData.eqv, BIG, ↓reduceIte, hn, hp, hq, h0, hm] at e
        subst e
        exact ⟨_, _, rfl, ⟨_, _, _, cs, ha, rfl⟩, md _⟩
      · simp [f_d_law_take, m_d_law_take, runP, runB, runO, mSeq, mIfS, mThen, mAsB, mOp2, mBind, mVar, mC, mRet, mLift, mTup, mLst, mCons, mNil, mkSeq, frcs, app2, rdD, fIx, atI, ixN, fEq, fNe, asB, tru, truD, mTru, mNot, mAnd, mOr, fGt, fLt, fLe, fGe, fInt2, mAsg, frc, asgS, asgD_np, asgO_np, npAt, np_un, np_dat, np_own, newL, mNewL, mAppend, pushL, fTupleOf, mSeqT, mSeqL, seqT, seqL, stepS, stepC, wipeS, mOp1, app1, fIntOf, fAbs, fLen, fNeg, fMod, fMul, mulOk, fDiv, fPow, fSub, fPlus, fP1, fP2, fAdd, fAddS, fAddT, fAddL, mSetItem, isOL, asI, ownL, setL, mIf, mRetS, retD, mSkip, mCont, mBrk, mCall, appF, mCallB, appB, shaped_int, shaped_bool, PyData.eqv, BIG, ↓reduceIte, hn, hp, hq, h0, hm] at e
        subst e
        exact ⟨_, _, rfl, ⟨_, _, _, cs, ha, rfl⟩, md _⟩
    · simp [f_d_law_take, m_d_law_take, runP, runB, runO, mSeq, mIfS, mThen, mAsB, mOp2, mBind, mVar, mC, mRet, mLift, mTup, mLst, mCons, mNil, mkSeq, frcs, app2, rdD, fIx, atI, ixN, fEq, fNe, asB, tru, truD, mTru, mNot, mAnd, mOr, fGt, fLt, fLe, fGe, fInt2, mAsg, frc, asgS, asgD_np, asgO_np, npAt, np_un, np_dat, np_own, newL, mNewL, mAppend, pushL, fTupleOf, mSeqT, mSeqL, seqT, seqL, stepS, stepC, wipeS, mOp1, app1, fIntOf, fAbs, fLen, fNeg, fMod, fMul, mulOk, fDiv, fPow, fSub, fPlus, fP1, fP2, fAdd, fAddS, fAddT, fAddL, mSetItem, isOL, asI, ownL, setL, mIf, mRetS, retD, mSkip, mCont, mBrk, mCall, appF, mCallB, appB, shaped_int, shaped_bool, PyData.eqv, BIG, ↓reduceIte, hn, hp, h0, hm] at e
      subst e
      exact ⟨_, _, rfl, ⟨_, _, _, cs, ha, rfl⟩, md _⟩
theorem take_ok {o : O} (h : Box o) {m : Int} (h0 : 0 < m) (hm : m < 1073741824) : TakeGood m (f_d_law_take o [.int m]) := take_good h h0 hm _ rfl
theorem pick_ok {o : O} (h : Box o) {ds : List D} (h0 : ds ≠ []) (hm : ds.length < 1000) : ∃ d o', f_d_law_pick o [.list ds] = some (d, o') ∧ d ∈ ds ∧ Box o' := by
  have hl : 0 < ds.length := List.length_pos_iff.mpr h0
  obtain ⟨r, o', e, hb, hr0, hr⟩ := take_ok h (m := (ds.length : Int)) (by omega) (by omega)
  have hi : r.toNat < ds.length := by omega
  refine ⟨ds[r.toNat], o', ?_, List.getElem_mem hi, hb⟩
  simp [f_d_law_pick, m_d_law_pick, runP, runB, runO, mSeq, mIfS, mThen, mAsB, mOp2, mBind, mVar, mC, mRet, mLift, mTup, mLst, mCons, mNil, mkSeq, frcs, app2, rdD, fIx, atI, ixN, fEq, fNe, asB, tru, truD, mTru, mNot, mAnd, mOr, fGt, fLt, fLe, fGe, fInt2, mAsg, frc, asgS, asgD_np, asgO_np, npAt, np_un, np_dat, np_own, newL, mNewL, mAppend, pushL, fTupleOf, mSeqT, mSeqL, seqT, seqL, stepS, stepC, wipeS, mOp1, app1, fIntOf, fAbs, fLen, fNeg, fMod, fMul, mulOk, fDiv, fPow, fSub, fPlus, fP1, fP2, fAdd, fAddS, fAddT, fAddL, mSetItem, isOL, asI, ownL, setL, mIf, mRetS, retD, mSkip, mCont, mBrk, mCall, appF, mCallB, appB, shaped_int, shaped_bool, PyData.eqv, BIG, ↓reduceIte, e, hr0, hr, hi]
/-! ### what is drawn -/
def kindsK : List (Key × D) := [(.inr "t", .str "int"), (.inr "u", .str "int"), (.inr "v", .str "text")]
theorem ne_ut : ¬ (("t" : Str) = "u") := by decide +kernel
theorem ne_vt : ¬ (("t" : Str) = "v") := by decide +kernel
theorem ne_vu : ¬ (("u" : Str) = "v") := by decide +kernel
theorem kinds_t : valD kindsK (.inr "t") = some (.str "int") := by simp [valD, kindsK]
theorem kinds_u : valD kindsK (.inr "u") = some (.str "int") := by simp [valD, kindsK, ne_ut]
theorem kinds_v : valD kindsK (.inr "v") = some (.str "text") := by simp [valD, kindsK, ne_vt, ne_vu]
theorem kinds_merge : mergeD [] kindsK = kindsK := by
  simp [mergeD, kindsK, putD, ne_ut, ne_vt, ne_vu]
structure KdOk (tb kd : Str) : Prop where
  v : valD kindsK (.inr tb) = some (.str kd)
  ok : PyData.strOk kd = true
  it : kd = "int" ∨ kd = "text"
/-- the state of the drawing def -/
abbrev dr (o : O) (s2 s3 s4 s5 s6 s7 s8 s9 s10 s11 s12 : Sl) : List Sl := [.par o, .own (.dk kindsK), s2, s3, s4, s5, s6, s7, s8, s9, s10, s11, s12]
theorem dr_kind {o : O} {s2 s3 s4 s5 s6 s8 s9 s10 s11 s12 : Sl} {tb kd : Str} (h : KdOk tb kd) : mDGet 1 (mVar 7) (dr o s2 s3 s4 s5 s6 (.dat (.str tb)) s8 s9 s10 s11 s12) = some (.ok (.dat (.str kd)), dr o s2 s3 s4 s5 s6 (.dat (.str tb)) s8 s9 s10 s11 s12) :=
  mDGet_own (kvs := kindsK) rfl rfl rfl rfl h.v
theorem dr_pick {o : O} (hb : Box o) {s2 s3 s4 s5 s6 s7 s8 s9 s10 s11 s12 : Sl} {mm : M Vw} {ds : List D} (hm : mBind (mCons mm mNil) frcs (dr o s2 s3 s4 s5 s6 s7 s8 s9 s10 s11 s12) = some (.ok [.list ds], dr o s2 s3 s4 s5 s6 s7 s8 s9 s10 s11 s12)) (h0 : ds ≠ []) (hl : ds.length < 1000) :
    ∃ d o', mCallB f_d_law_pick (mCons (mVar 0) (mCons mm mNil)) (dr o s2 s3 s4 s5 s6 s7 s8 s9 s10 s11 s12) = some (.ok (.dat d), dr o' s2 s3 s4 s5 s6 s7 s8 s9 s10 s11 s12) ∧ d ∈ ds ∧ Box o' := by
  obtain ⟨d, o', e, hd, hb'⟩ := pick_ok hb h0 hl
  exact ⟨d, o', mCallB_par rfl hm e, hd, hb'⟩
theorem dr_take {o : O} (hb : Box o) {s2 s3 s4 s5 s6 s7 s8 s9 s10 s11 s12 : Sl} {m : Int} (h0 : 0 < m) (hm : m < 1000) :
    ∃ (r : Int) (o' : O), mCallB f_d_law_take (mCons (mVar 0) (mCons (mC (.int m)) mNil)) (dr o s2 s3 s4 s5 s6 s7 s8 s9 s10 s11 s12) = some (.ok (.dat (.int r)), dr o' s2 s3 s4 s5 s6 s7 s8 s9 s10 s11 s12) ∧ 0 ≤ r ∧ r < m ∧ Box o' := by
  obtain ⟨r, o', e, hb', h1, h2⟩ := take_ok hb h0 (by omega)
  exact ⟨r, o', mCallB_par rfl rfl e, h1, h2, hb'⟩
theorem mm1 {ma : M Vw} {w : Vw} {d : D} {ρ : List Sl} (h : ma ρ = some (.ok w, ρ)) (hw : frc w ρ = some (.ok d, ρ)) : mBind (mCons ma mNil) frcs ρ = some (.ok [d], ρ) := by
  have e : mCons ma mNil ρ = some (.ok [w], ρ) := by
    unfold mCons
    rw [mBind_ok h]
    rfl
  rw [mBind_ok e]
  unfold frcs
  rw [mBind_ok hw]
  rfl
/-- the places whose kind is the table's -/
theorem dr_keys {o : O} {s2 s3 s5 s6 s8 s11 s12 : Sl} {tb kd : Str} (h : KdOk tb kd) {ps : List Str} (hp : ps.length ≤ 3) (hs : ∀ x ∈ ps, PyData.strOk x = true) {s9 s10 : Sl} :
    ∃ is : List Nat, L_d_law_drawn_2 (dr o s2 s3 (.dat (.tuple (ps.map .str))) s5 s6 (.dat (.str tb)) s8 s9 s10 s11 s12) = some (.ok (.dat (.list (is.map fun i : Nat => .tuple [.str "param", .int (i : Int)]))), dr o s2 s3 (.dat (.tuple (ps.map .str))) s5 s6 (.dat (.str tb)) s8 .un .un s11 s12) ∧ is.length ≤ 3 := by
  have := mLc_pure (mi := mEnumT (mVar 4)) (gm := gmTup 2 (gmCons (asgD 9) (gmCons (asgD 10) gmNil))) (mt := T_d_law_drawn_1) (me := E_d_law_drawn_0) (vs := [9, 10]) (enc := fun i => .tuple [.int (i : Nat), (ps.map PyData.str).getD i .none]) (fun i : Nat => if ps[i]? = some kd then some (PyData.tuple [.str "param", .int (i : Int)]) else none) (List.range ps.length)
    (ρ := dr o s2 s3 (.dat (.tuple (ps.map .str))) s5 s6 (.dat (.str tb)) s8 s9 s10 s11 s12) (ρ0 := dr o s2 s3 (.dat (.tuple (ps.map .str))) s5 s6 (.dat (.str tb)) s8 s9 s10 s11 s12)
    (by rw [← enum_enc]; simp [mEnumT, runP, runB, runO, mSeq, mIfS, mThen, mAsB, mOp2, mBind, mVar, mC, mRet, mLift, mTup, mLst, mCons, mNil, mkSeq, frcs, app2, rdD, asB, tru, truD, mTru, mNot, mAnd, mOr, fGt, fLt, fLe, fGe, fInt2, mAsg, frc, asgS, asgD_np, asgO_np, npAt, np_un, np_dat, np_own, newL, mNewL, mAppend, pushL, mSeqT, mSeqL, seqT, seqL, stepS, stepC, wipeS, mOp1, app1, fIntOf, fAbs, fNeg, fMod, fMul, mulOk, fDiv, fPow, fSub, mSetItem, isOL, asI, ownL, setL, mIf, mRetS, retD, mSkip, mCont, mBrk, mCall, appF, mCallB, appB, shaped_int, shaped_bool, BIG, ↓reduceIte]) (le_big (by rw [List.length_range]; omega)) (fun i hi => by
      have hi := List.mem_range.mp hi
      have eg : ps[i]? = some ps[i] := List.getElem?_eq_getElem hi
      rw [getD_enc (f := PyData.str) eg]
      have ek := dr_kind (o := o) (s2 := s2) (s3 := s3) (s4 := .dat (.tuple (ps.map .str))) (s5 := s5) (s6 := s6) (s8 := s8) (s9 := .dat (.int (i : Int))) (s10 := .dat (.str ps[i])) (s11 := s11) (s12 := s12) h
      have o1 := hs _ (List.getElem_mem hi)
      have et : T_d_law_drawn_1 (dr o s2 s3 (.dat (.tuple (ps.map .str))) s5 s6 (.dat (.str tb)) s8 (.dat (.int (i : Int))) (.dat (.str ps[i])) s11 s12) = some (.ok (ps[i] == kd), dr o s2 s3 (.dat (.tuple (ps.map .str))) s5 s6 (.dat (.str tb)) s8 (.dat (.int (i : Int))) (.dat (.str ps[i])) s11 s12) :=
        mAsB_ok (mOp2_ok (a := .loc 10) rfl ek rfl rfl (eq_ss o1 h.ok)) rfl
      have ee : mBind E_d_law_drawn_0 frc (dr o s2 s3 (.dat (.tuple (ps.map .str))) s5 s6 (.dat (.str tb)) s8 (.dat (.int (i : Int))) (.dat (.str ps[i])) s11 s12) = some (.ok (.tuple [.str "param", .int (i : Int)]), dr o s2 s3 (.dat (.tuple (ps.map .str))) s5 s6 (.dat (.str tb)) s8 (.dat (.int (i : Int))) (.dat (.str ps[i])) s11 s12) := by
        simp [E_d_law_drawn_0, runP, runB, runO, mSeq, mIfS, mThen, mAsB, mOp2, mBind, mVar, mC, mRet, mLift, mTup, mLst, mCons, mNil, mkSeq, frcs, app2, rdD, asB, tru, truD, mTru, mNot, mAnd, mOr, fGt, fLt, fLe, fGe, fInt2, mAsg, frc, asgS, asgD_np, asgO_np, npAt, np_un, np_dat, np_own, newL, mNewL, mAppend, pushL, mSeqT, mSeqL, seqT, seqL, stepS, stepC, wipeS, mOp1, app1, fIntOf, fAbs, fNeg, fMod, fMul, mulOk, fDiv, fPow, fSub, mSetItem, isOL, asI, ownL, setL, mIf, mRetS, retD, mSkip, mCont, mBrk, mCall, appF, mCallB, appB, shaped_int, shaped_bool, BIG, ↓reduceIte]
      by_cases c : ps[i] = kd
      · rw [c] at et ee ⊢
        rw [show (kd == kd) = true from beq_self_eq_true kd] at et
        simp [stepC, gmTup, gmCons, gmNil, asgD_np, npAt, np_un, et, ee, wipeS, eg, c]
      · have c' : (ps[i] == kd) = false := by simpa using c
        rw [c'] at et
        simp [stepC, gmTup, gmCons, gmNil, asgD_np, npAt, np_un, et, wipeS, eg, c])
  refine ⟨(List.range ps.length).filter fun i => decide (ps[i]? = some kd), ?_, ?_⟩
  · unfold L_d_law_drawn_2
    rw [this]
    have e : (List.range ps.length).filterMap (fun i : Nat => if ps[i]? = some kd then some (PyData.tuple [.str "param", .int (i : Int)]) else none) = ((List.range ps.length).filter fun i => decide (ps[i]? = some kd)).map fun i : Nat => PyData.tuple [.str "param", .int (i : Int)] := by
      rw [← List.filterMap_eq_map', List.filterMap_filter]
      apply filterMap_same
      intro i _
      by_cases c : ps[i]? = some kd <;> simp [c]
    rw [e]
    rfl
  · have h2 := List.length_filter_le (fun i => decide (ps[i]? = some kd)) (List.range ps.length)
    rw [List.length_range] at h2
    omega
end K10
namespace K10
open PySem L2 Dat
theorem ok_e : PyData.strOk "" = true := by decide +kernel
theorem ok_b : PyData.strOk "b" = true := by decide +kernel
theorem ok_v0 : PyData.strOk "v0" = true := by decide +kernel
theorem ok_B : PyData.strOk "B" = true := by decide +kernel
theorem dr_table {o : O} (hb : Box o) {s2 s3 s4 s5 s6 s7 s8 s9 s10 s11 s12 : Sl} :
    ∃ tb kd o', mCallB f_d_law_pick (mCons (mVar 0) (mCons (mLst (mCons (mC (.str "t")) (mCons (mC (.str "u")) (mCons (mC (.str "v")) mNil)))) mNil)) (dr o s2 s3 s4 s5 s6 s7 s8 s9 s10 s11 s12) = some (.ok (.dat (.str tb)), dr o' s2 s3 s4 s5 s6 s7 s8 s9 s10 s11 s12) ∧ KdOk tb kd ∧ Box o' := by
  obtain ⟨d, o', e, hd, hb'⟩ := dr_pick hb (mm := mLst (mCons (mC (.str "t")) (mCons (mC (.str "u")) (mCons (mC (.str "v")) mNil)))) (ds := [.str "t", .str "u", .str "v"]) (s2 := s2) (s3 := s3) (s4 := s4) (s5 := s5) (s6 := s6) (s7 := s7) (s8 := s8) (s9 := s9) (s10 := s10) (s11 := s11) (s12 := s12) (mm1 (w := .dat (.list [.str "t", .str "u", .str "v"])) (by simp [runP, runB, runO, mSeq, mIfS, mThen, mAsB, mOp2, mBind, mVar, mC, mRet, mLift, mTup, mLst, mCons, mNil, mkSeq, frcs, app2, rdD, asB, tru, truD, mTru, mNot, mAnd, mOr, fGt, fLt, fLe, fGe, fInt2, mAsg, frc, asgS, asgD_np, asgO_np, npAt, np_un, np_dat, np_own, newL, mNewL, mAppend, pushL, mSeqT, mSeqL, seqT, seqL, stepS, stepC, wipeS, mOp1, app1, fIntOf, fAbs, fNeg, fMod, fMul, mulOk, fDiv, fPow, fSub, mSetItem, isOL, asI, ownL, setL, mIf, mRetS, retD, mSkip, mCont, mBrk, mCall, appF, mCallB, appB, shaped_int, shaped_bool, BIG, ↓reduceIte]) rfl) (by simp) (by simp)
  have h3 : d = .str "t" ∨ d = .str "u" ∨ d = .str "v" := by simpa using hd
  rcases h3 with rfl | rfl | rfl
  · exact ⟨_, _, o', e, ⟨kinds_t, ok_int, .inl rfl⟩, hb'⟩
  · exact ⟨_, _, o', e, ⟨kinds_u, ok_int, .inl rfl⟩, hb'⟩
  · exact ⟨_, _, o', e, ⟨kinds_v, ok_text, .inr rfl⟩, hb'⟩
abbrev mmI : M Vw := mLst (mCons (mC (.int 0)) (mCons (mC (.int 3)) (mCons (mOp1 fNeg (mC (.int 1))) (mCons (mOp2 fPow (mC (.int 10)) (mC (.int 17))) (mCons (mC (.int 3)) mNil)))))
abbrev mmS : M Vw := mLst (mCons (mC (.str "")) (mCons (mC (.str "b")) (mCons (mC (.str "v0")) (mCons (mC (.str "B")) (mCons (mC (.str "b")) mNil)))))
theorem dr_value {o : O} (hb : Box o) {s2 s3 s4 s5 s6 s8 s9 s10 s11 s12 : Sl} {tb kd : Str} (h : KdOk tb kd) :
    ∃ k o', mIf (mAsB (mOp2 fEq (mDGet 1 (mVar 7)) (mC (.str "int")))) (mCallB f_d_law_pick (mCons (mVar 0) (mCons mmI mNil))) (mCallB f_d_law_pick (mCons (mVar 0) (mCons mmS mNil))) (dr o s2 s3 s4 s5 s6 (.dat (.str tb)) s8 s9 s10 s11 s12) =
      some (.ok (.dat (kD k)), dr o' s2 s3 s4 s5 s6 (.dat (.str tb)) s8 s9 s10 s11 s12) ∧ okK k = true ∧ Box o' := by
  have et : mAsB (mOp2 fEq (mDGet 1 (mVar 7)) (mC (.str "int"))) (dr o s2 s3 s4 s5 s6 (.dat (.str tb)) s8 s9 s10 s11 s12) = some (.ok (kd == ("int" : Str)), dr o s2 s3 s4 s5 s6 (.dat (.str tb)) s8 s9 s10 s11 s12) :=
    mAsB_ok (mOp2_ok (b := .dat (.str "int")) (dr_kind h) rfl rfl rfl (eq_ss h.ok ok_int)) rfl
  rw [mIf_ok et]
  split
  · obtain ⟨d, o', e, hd, hb'⟩ := dr_pick hb (mm := mmI) (ds := [.int 0, .int 3, .int (-1), .int 100000000000000000, .int 3]) (s2 := s2) (s3 := s3) (s4 := s4) (s5 := s5) (s6 := s6) (s7 := .dat (.str tb)) (s8 := s8) (s9 := s9) (s10 := s10) (s11 := s11) (s12 := s12) (mm1 (w := .dat (.list [.int 0, .int 3, .int (-1), .int 100000000000000000, .int 3])) (by simp [runP, runB, runO, mSeq, mIfS, mThen, mAsB, mOp2, mBind, mVar, mC, mRet, mLift, mTup, mLst, mCons, mNil, mkSeq, frcs, app2, rdD, asB, tru, truD, mTru, mNot, mAnd, mOr, fGt, fLt, fLe, fGe, fInt2, mAsg, frc, asgS, asgD_np, asgO_np, npAt, np_un, np_dat, np_own, newL, mNewL, mAppend, pushL, mSeqT, mSeqL, seqT, seqL, stepS, stepC, wipeS, mOp1, app1, fIntOf, fAbs, fNeg, fMod, fMul, mulOk, fDiv, fPow, fSub, mSetItem, isOL, asI, ownL, setL, mIf, mRetS, retD, mSkip, mCont, mBrk, mCall, appF, mCallB, appB, shaped_int, shaped_bool, BIG, ↓reduceIte]) rfl) (by simp) (by simp)
    have h3 : ∃ i : Int, d = .int i := by
      have h3 : d = .int 0 ∨ d = .int 3 ∨ d = .int (-1) ∨ d = .int 100000000000000000 ∨ d = .int 3 := by simpa using hd
      rcases h3 with rfl | rfl | rfl | rfl | rfl <;> exact ⟨_, rfl⟩
    obtain ⟨i, rfl⟩ := h3
    exact ⟨.inl i, o', e, rfl, hb'⟩
  · obtain ⟨d, o', e, hd, hb'⟩ := dr_pick hb (mm := mmS) (ds := [.str "", .str "b", .str "v0", .str "B", .str "b"]) (s2 := s2) (s3 := s3) (s4 := s4) (s5 := s5) (s6 := s6) (s7 := .dat (.str tb)) (s8 := s8) (s9 := s9) (s10 := s10) (s11 := s11) (s12 := s12) (mm1 (w := .dat (.list [.str "", .str "b", .str "v0", .str "B", .str "b"])) (by simp [runP, runB, runO, mSeq, mIfS, mThen, mAsB, mOp2, mBind, mVar, mC, mRet, mLift, mTup, mLst, mCons, mNil, mkSeq, frcs, app2, rdD, asB, tru, truD, mTru, mNot, mAnd, mOr, fGt, fLt, fLe, fGe, fInt2, mAsg, frc, asgS, asgD_np, asgO_np, npAt, np_un, np_dat, np_own, newL, mNewL, mAppend, pushL, mSeqT, mSeqL, seqT, seqL, stepS, stepC, wipeS, mOp1, app1, fIntOf, fAbs, fNeg, fMod, fMul, mulOk, fDiv, fPow, fSub, mSetItem, isOL, asI, ownL, setL, mIf, mRetS, retD, mSkip, mCont, mBrk, mCall, appF, mCallB, appB, shaped_int, shaped_bool, BIG, ↓reduceIte]) rfl) (by simp) (by simp)
    have h3 : ∃ x : Str, d = .str x ∧ PyData.strOk x = true := by
      have h3 : d = .str "" ∨ d = .str "b" ∨ d = .str "v0" ∨ d = .str "B" ∨ d = .str "b" := by simpa using hd
      rcases h3 with rfl | rfl | rfl | rfl | rfl
      · exact ⟨_, rfl, ok_e⟩
      · exact ⟨_, rfl, ok_b⟩
      · exact ⟨_, rfl, ok_v0⟩
      · exact ⟨_, rfl, ok_B⟩
      · exact ⟨_, rfl, ok_b⟩
    obtain ⟨x, rfl, hx⟩ := h3
    exact ⟨.inr x, o', e, hx, hb'⟩
/-- the key: a place or a value -/
def KeyD (d : D) : Prop := (∃ i : Nat, d = .tuple [.str "param", .int (i : Int)]) ∨ (∃ k, okK k = true ∧ d = .tuple [.str "value", kD k])
theorem dr_key {o : O} (hb : Box o) {s2 s3 s4 s5 s6 s7 s9 s10 s12 : Sl} {is : List Nat} (hi : is.length ≤ 3) {k : Key} (hk : okK k = true) :
    ∃ d o', mIf (mAnd (mTru (mVar 8)) (mAsB (mOp2 fGt (mCallB f_d_law_take (mCons (mVar 0) (mCons (mC (.int 3)) mNil))) (mC (.int 0))))) (mCallB f_d_law_pick (mCons (mVar 0) (mCons (mVar 8) mNil))) (mTup (mCons (mC (.str "value")) (mCons (mVar 11) mNil))) (dr o s2 s3 s4 s5 s6 s7 (.dat (.list (is.map fun i : Nat => .tuple [.str "param", .int (i : Int)]))) s9 s10 (.dat (kD k)) s12) =
      some (.ok (.dat d), dr o' s2 s3 s4 s5 s6 s7 (.dat (.list (is.map fun i : Nat => .tuple [.str "param", .int (i : Int)]))) s9 s10 (.dat (kD k)) s12) ∧ KeyD d ∧ Box o' := by
  have t1 : mTru (mVar 8) (dr o s2 s3 s4 s5 s6 s7 (.dat (.list (is.map fun i : Nat => .tuple [.str "param", .int (i : Int)]))) s9 s10 (.dat (kD k)) s12) = some (.ok (!(is.map fun i : Nat => PyData.tuple [.str "param", .int (i : Int)]).isEmpty), dr o s2 s3 s4 s5 s6 s7 (.dat (.list (is.map fun i : Nat => .tuple [.str "param", .int (i : Int)]))) s9 s10 (.dat (kD k)) s12) :=
    mTru_ok (w := .loc 8) (d := .list (is.map fun i : Nat => .tuple [.str "param", .int (i : Int)])) rfl rfl rfl
  have val : ∀ o, mTup (mCons (mC (.str "value")) (mCons (mVar 11) mNil)) (dr o s2 s3 s4 s5 s6 s7 (.dat (.list (is.map fun i : Nat => .tuple [.str "param", .int (i : Int)]))) s9 s10 (.dat (kD k)) s12) = some (.ok (.dat (.tuple [.str "value", kD k])), dr o s2 s3 s4 s5 s6 s7 (.dat (.list (is.map fun i : Nat => .tuple [.str "param", .int (i : Int)]))) s9 s10 (.dat (kD k)) s12) := fun o => by
    simp [runP, runB, runO, mSeq, mIfS, mThen, mAsB, mOp2, mBind, mVar, mC, mRet, mLift, mTup, mLst, mCons, mNil, mkSeq, frcs, app2, rdD, asB, tru, truD, mTru, mNot, mAnd, mOr, fGt, fLt, fLe, fGe, fInt2, mAsg, frc, asgS, asgD_np, asgO_np, npAt, np_un, np_dat, np_own, newL, mNewL, mAppend, pushL, mSeqT, mSeqL, seqT, seqL, stepS, stepC, wipeS, mOp1, app1, fIntOf, fAbs, fNeg, fMod, fMul, mulOk, fDiv, fPow, fSub, mSetItem, isOL, asI, ownL, setL, mIf, mRetS, retD, mSkip, mCont, mBrk, mCall, appF, mCallB, appB, shaped_int, shaped_bool, BIG, ↓reduceIte]
  cases is with
  | nil =>
    have t2 : mAnd (mTru (mVar 8)) (mAsB (mOp2 fGt (mCallB f_d_law_take (mCons (mVar 0) (mCons (mC (.int 3)) mNil))) (mC (.int 0)))) (dr o s2 s3 s4 s5 s6 s7 (.dat (.list ([].map fun i : Nat => .tuple [.str "param", .int (i : Int)]))) s9 s10 (.dat (kD k)) s12) = some (.ok false, dr o s2 s3 s4 s5 s6 s7 (.dat (.list ([].map fun i : Nat => .tuple [.str "param", .int (i : Int)]))) s9 s10 (.dat (kD k)) s12) := mAnd_ok t1
    rw [mIf_ok t2]
    exact ⟨_, o, val o, .inr ⟨k, hk, rfl⟩, hb⟩
  | cons i is =>
    obtain ⟨r, o1, et, _, _, hb1⟩ := dr_take hb (m := 3) (by omega) (by omega) (s2 := s2) (s3 := s3) (s4 := s4) (s5 := s5) (s6 := s6) (s7 := s7) (s8 := .dat (.list ((i :: is).map fun i : Nat => .tuple [.str "param", .int (i : Int)]))) (s9 := s9) (s10 := s10) (s11 := .dat (kD k)) (s12 := s12)
    have t2 := (mAnd_ok (n := mAsB (mOp2 fGt (mCallB f_d_law_take (mCons (mVar 0) (mCons (mC (.int 3)) mNil))) (mC (.int 0)))) t1).trans (show _ = _ from mAsB_ok (b := decide (0 < r)) (mOp2_ok (b := .dat (.int 0)) et rfl rfl rfl rfl) rfl)
    rw [mIf_ok t2]
    split
    · obtain ⟨d, o', e, hd, hb'⟩ := dr_pick hb1 (mm := mVar 8) (ds := (i :: is).map fun i : Nat => .tuple [.str "param", .int (i : Int)]) (s2 := s2) (s3 := s3) (s4 := s4) (s5 := s5) (s6 := s6) (s7 := s7) (s8 := .dat (.list ((i :: is).map fun i : Nat => .tuple [.str "param", .int (i : Int)]))) (s9 := s9) (s10 := s10) (s11 := .dat (kD k)) (s12 := s12) (mm1 (w := .loc 8) rfl rfl) (by simp) (by rw [List.length_map]; omega)
      obtain ⟨j, _, rfl⟩ := List.mem_map.mp hd
      exact ⟨_, o', e, .inl ⟨j, rfl⟩, hb'⟩
    · exact ⟨_, o1, val o1, .inr ⟨k, hk, rfl⟩, hb1⟩
theorem dr_ent {o : O} (hb : Box o) {s2 s3 s4 s5 s6 s8 s9 s10 s11 : Sl} {tb : Str} {d : D} (hd : KeyD d) :
    ∃ e o', mCallB f_d_law_pick (mCons (mVar 0) (mCons (mLst (mCons (mTup (mCons (mC (.str "r")) (mCons (mVar 7) (mCons (mVar 12) mNil)))) (mCons (mTup (mCons (mC (.str "w")) (mCons (mVar 7) (mCons (mVar 12) mNil)))) (mCons (mTup (mCons (mC (.str "a")) (mCons (mVar 7) mNil))) mNil)))) mNil)) (dr o s2 s3 s4 s5 s6 (.dat (.str tb)) s8 s9 s10 s11 (.dat d)) =
      some (.ok (.dat (encE e)), dr o' s2 s3 s4 s5 s6 (.dat (.str tb)) s8 s9 s10 s11 (.dat d)) ∧ okE e ∧ Box o' := by
  obtain ⟨x, o', e, hx, hb'⟩ := dr_pick hb (mm := mLst (mCons (mTup (mCons (mC (.str "r")) (mCons (mVar 7) (mCons (mVar 12) mNil)))) (mCons (mTup (mCons (mC (.str "w")) (mCons (mVar 7) (mCons (mVar 12) mNil)))) (mCons (mTup (mCons (mC (.str "a")) (mCons (mVar 7) mNil))) mNil)))) (ds := [.tuple [.str "r", .str tb, d], .tuple [.str "w", .str tb, d], .tuple [.str "a", .str tb]])
    (s2 := s2) (s3 := s3) (s4 := s4) (s5 := s5) (s6 := s6) (s7 := .dat (.str tb)) (s8 := s8) (s9 := s9) (s10 := s10) (s11 := s11) (s12 := .dat d) (mm1 (w := .dat (.list [.tuple [.str "r", .str tb, d], .tuple [.str "w", .str tb, d], .tuple [.str "a", .str tb]])) (by simp [runP, runB, runO, mSeq, mIfS, mThen, mAsB, mOp2, mBind, mVar, mC, mRet, mLift, mTup, mLst, mCons, mNil, mkSeq, frcs, app2, rdD, asB, tru, truD, mTru, mNot, mAnd, mOr, fGt, fLt, fLe, fGe, fInt2, mAsg, frc, asgS, asgD_np, asgO_np, npAt, np_un, np_dat, np_own, newL, mNewL, mAppend, pushL, mSeqT, mSeqL, seqT, seqL, stepS, stepC, wipeS, mOp1, app1, fIntOf, fAbs, fNeg, fMod, fMul, mulOk, fDiv, fPow, fSub, mSetItem, isOL, asI, ownL, setL, mIf, mRetS, retD, mSkip, mCont, mBrk, mCall, appF, mCallB, appB, shaped_int, shaped_bool, BIG, ↓reduceIte]) rfl) (by simp) (by simp)
  have h3 : x = .tuple [.str "r", .str tb, d] ∨ x = .tuple [.str "w", .str tb, d] ∨ x = .tuple [.str "a", .str tb] := by simpa using hx
  rcases hd with ⟨i, rfl⟩ | ⟨k, hk, rfl⟩
  · rcases h3 with rfl | rfl | rfl
    · exact ⟨.p true tb i, o', e, trivial, hb'⟩
    · exact ⟨.p false tb i, o', e, trivial, hb'⟩
    · exact ⟨.a tb, o', e, trivial, hb'⟩
  · rcases h3 with rfl | rfl | rfl
    · exact ⟨.v true tb k, o', e, hk, hb'⟩
    · exact ⟨.v false tb k, o', e, hk, hb'⟩
    · exact ⟨.a tb, o', e, trivial, hb'⟩
/-- a turn of the loop over the entries -/
theorem dr_turn {o : O} (hb : Box o) {s2 s3 s5 s7 s8 s9 s10 s11 s12 : Sl} (h5 : np s5 = true) (h7 : np s7 = true) (h8 : np s8 = true) (h11 : np s11 = true) (h12 : np s12 = true) {ps : List Str} (hp : ps.length ≤ 3) (hs : ∀ x ∈ ps, PyData.strOk x = true) {es : List Ent} (hl : es.length ≤ 1000) (x : D) :
    ∃ e o' k5 k7 k8 k11 k12, stepS (asgD 5) B_d_law_drawn_3 x (dr o s2 s3 (.dat (.tuple (ps.map .str))) s5 (.own (.lst (es.map encE))) s7 s8 s9 s10 s11 s12) = some (.nx, dr o' s2 s3 (.dat (.tuple (ps.map .str))) k5 (.own (.lst ((es ++ [e]).map encE))) k7 k8 .un .un k11 k12) ∧
      okE e ∧ Box o' ∧ np k5 = true ∧ np k7 = true ∧ np k8 = true ∧ np k11 = true ∧ np k12 = true := by
  obtain ⟨tb, kd, o1, e1, hk, hb1⟩ := dr_table hb (s2 := s2) (s3 := s3) (s4 := .dat (.tuple (ps.map .str))) (s5 := .dat x) (s6 := .own (.lst (es.map encE))) (s7 := s7) (s8 := s8) (s9 := s9) (s10 := s10) (s11 := s11) (s12 := s12)
  obtain ⟨is, e2, hi⟩ := dr_keys (o := o1) hk hp hs (s2 := s2) (s3 := s3) (s5 := .dat x) (s6 := .own (.lst (es.map encE))) (s8 := s8) (s9 := s9) (s10 := s10) (s11 := s11) (s12 := s12)
  obtain ⟨k, o2, e3, hok, hb2⟩ := dr_value hb1 hk (s2 := s2) (s3 := s3) (s4 := .dat (.tuple (ps.map .str))) (s5 := .dat x) (s6 := .own (.lst (es.map encE))) (s8 := .dat (.list (is.map fun i : Nat => .tuple [.str "param", .int (i : Int)]))) (s9 := .un) (s10 := .un) (s11 := s11) (s12 := s12)
  obtain ⟨d, o3, e4, hd, hb3⟩ := dr_key hb2 hi hok (s2 := s2) (s3 := s3) (s4 := .dat (.tuple (ps.map .str))) (s5 := .dat x) (s6 := .own (.lst (es.map encE))) (s7 := .dat (.str tb)) (s9 := .un) (s10 := .un) (s12 := s12)
  obtain ⟨e, o4, e5, he, hb4⟩ := dr_ent hb3 hd (tb := tb) (s2 := s2) (s3 := s3) (s4 := .dat (.tuple (ps.map .str))) (s5 := .dat x) (s6 := .own (.lst (es.map encE))) (s8 := .dat (.list (is.map fun i : Nat => .tuple [.str "param", .int (i : Int)]))) (s9 := .un) (s10 := .un) (s11 := .dat (kD k))
  have a1 := mAsg_ok (gm := asgD 7) (ρ2 := dr o1 s2 s3 (.dat (.tuple (ps.map .str))) (.dat x) (.own (.lst (es.map encE))) (.dat (.str tb)) s8 s9 s10 s11 s12) e1 (asgD_np h7)
  have a2 := mAsg_ok (gm := asgD 8) (ρ2 := dr o1 s2 s3 (.dat (.tuple (ps.map .str))) (.dat x) (.own (.lst (es.map encE))) (.dat (.str tb)) (.dat (.list (is.map fun i : Nat => .tuple [.str "param", .int (i : Int)]))) .un .un s11 s12) e2 (asgD_np h8)
  have a3 := mAsg_ok (gm := asgD 11) (ρ2 := dr o2 s2 s3 (.dat (.tuple (ps.map .str))) (.dat x) (.own (.lst (es.map encE))) (.dat (.str tb)) (.dat (.list (is.map fun i : Nat => .tuple [.str "param", .int (i : Int)]))) .un .un (.dat (kD k)) s12) e3 (asgD_np h11)
  have a4 := mAsg_ok (gm := asgD 12) (ρ2 := dr o3 s2 s3 (.dat (.tuple (ps.map .str))) (.dat x) (.own (.lst (es.map encE))) (.dat (.str tb)) (.dat (.list (is.map fun i : Nat => .tuple [.str "param", .int (i : Int)]))) .un .un (.dat (kD k)) (.dat d)) e4 (asgD_np h12)
  have a5 := mAppend_own (i := 6) (ds0 := es.map encE) rfl e5 (ds := es.map encE) rfl (by rw [List.length_map]; exact Nat.lt_of_le_of_lt hl (by decide))
  refine ⟨e, o4, .dat x, .dat (.str tb), .dat (.list (is.map fun i : Nat => .tuple [.str "param", .int (i : Int)])), .dat (kD k), .dat d, ?_, he, hb4, rfl, rfl, rfl, rfl, rfl⟩
  unfold stepS
  rw [asgD_np (i := 5) (ρ := dr o s2 s3 (.dat (.tuple (ps.map .str))) s5 (.own (.lst (es.map encE))) s7 s8 s9 s10 s11 s12) h5]
  show B_d_law_drawn_3 (dr o s2 s3 (.dat (.tuple (ps.map .str))) (.dat x) (.own (.lst (es.map encE))) s7 s8 s9 s10 s11 s12) = _
  unfold B_d_law_drawn_3
  rw [mSeq_ok a1, mSeq_ok a2, mSeq_ok a3, mSeq_ok a4, a5, List.map_append]
  rfl
theorem rng1_at {o : O} {s2 s3 s4 s5 s6 s7 s8 s9 s10 s11 s12 : Sl} (hb : Box o) {m : Int} (h0 : 0 < m) (hm : m < 1000) :
    ∃ (n : Nat) (o' : O), mRng1 (mOp2 fPlus (mC (.int 1)) (mCallB f_d_law_take (mCons (mVar 0) (mCons (mC (.int m)) mNil)))) (dr o s2 s3 s4 s5 s6 s7 s8 s9 s10 s11 s12) = some (.ok ((List.range n).map fun (i : Nat) => .int (0 + (i : Int))), dr o' s2 s3 s4 s5 s6 s7 s8 s9 s10 s11 s12) ∧ (n : Int) ≤ m ∧ Box o' := by
  obtain ⟨r, o', e, h1, h2, hb'⟩ := dr_take hb h0 hm (s2 := s2) (s3 := s3) (s4 := s4) (s5 := s5) (s6 := s6) (s7 := s7) (s8 := s8) (s9 := s9) (s10 := s10) (s11 := s11) (s12 := s12)
  exact ⟨(1 + r).toNat, o', mRng1_at (mOp2_ok (a := .dat (.int 1)) rfl e rfl rfl (plus_ii 1 r)) rfl (by omega) (by omega), by omega, hb'⟩
theorem dr_ents {o : O} (hb : Box o) {s2 s3 s5 s7 s8 s9 s10 s11 s12 : Sl} (h5 : np s5 = true) (h7 : np s7 = true) (h8 : np s8 = true) (h11 : np s11 = true) (h12 : np s12 = true) {ps : List Str} (hp : ps.length ≤ 3) (hs : ∀ x ∈ ps, PyData.strOk x = true) :
    ∃ (es : List Ent) (o' : O) (k5 k7 k8 k9 k10 k11 k12 : Sl), L_d_law_drawn_4 (dr o s2 s3 (.dat (.tuple (ps.map .str))) s5 (.own (.lst [])) s7 s8 s9 s10 s11 s12) = some (.nx, dr o' s2 s3 (.dat (.tuple (ps.map .str))) k5 (.own (.lst (es.map encE))) k7 k8 k9 k10 k11 k12) ∧
      es.length ≤ 6 ∧ (∀ e ∈ es, okE e) ∧ Box o' ∧ np k5 = true ∧ np k7 = true ∧ np k8 = true ∧ np k11 = true ∧ np k12 = true := by
  obtain ⟨n, o1, er, hn, hb1⟩ := rng1_at hb (m := 6) (by omega) (by omega) (s2 := s2) (s3 := s3) (s4 := .dat (.tuple (ps.map .str))) (s5 := s5) (s6 := .own (.lst [])) (s7 := s7) (s8 := s8) (s9 := s9) (s10 := s10) (s11 := s11) (s12 := s12)
  obtain ⟨ρ', e, es, o', k5, k7, k8, k9, k10, k11, k12, rfl, hl, ho, hb', n5, n7, n8, n11, n12⟩ := mFor_fold (mi := mRng1 (mOp2 fPlus (mC (.int 1)) (mCallB f_d_law_take (mCons (mVar 0) (mCons (mC (.int 6)) mNil))))) (gm := asgD 5) (body := B_d_law_drawn_3) (enc := fun (i : Nat) => PyData.int (0 + (i : Int)))
    (fun m (_ : Unit) ρ => ∃ (es : List Ent) (o' : O) (k5 k7 k8 k9 k10 k11 k12 : Sl), ρ = dr o' s2 s3 (.dat (.tuple (ps.map .str))) k5 (.own (.lst (es.map encE))) k7 k8 k9 k10 k11 k12 ∧ es.length = m ∧ (∀ e ∈ es, okE e) ∧ Box o' ∧ np k5 = true ∧ np k7 = true ∧ np k8 = true ∧ np k11 = true ∧ np k12 = true) (fun _ _ => ()) (List.range n) (b := ()) er
    (fun m x hx _ ρ hI => by
      obtain ⟨es, o', k5, k7, k8, k9, k10, k11, k12, rfl, hl, ho, hb', n5, n7, n8, n11, n12⟩ := hI
      have hm := (List.getElem?_eq_some_iff.mp hx).1
      rw [List.length_range] at hm
      obtain ⟨e, o2, l5, l7, l8, l11, l12, es', he, hb2, m5, m7, m8, m11, m12⟩ := dr_turn hb' (s2 := s2) (s3 := s3) (s9 := k9) (s10 := k10) n5 n7 n8 n11 n12 hp hs (es := es) (by omega) (PyData.int (0 + (x : Int)))
      refine ⟨.nx, _, es', .inl rfl, es ++ [e], o2, l5, l7, l8, .un, .un, l11, l12, rfl, by rw [List.length_append, hl]; rfl, fun y hy => ?_, hb2, m5, m7, m8, m11, m12⟩
      rcases List.mem_append.mp hy with hy | hy
      · exact ho y hy
      · rw [List.mem_singleton] at hy; rw [hy]; exact he) ⟨[], o1, s5, s7, s8, s9, s10, s11, s12, rfl, rfl, fun e h => (nomatch h), hb1, h5, h7, h8, h11, h12⟩
  exact ⟨es, o', k5, k7, k8, k9, k10, k11, k12, e, by rw [hl, List.length_range]; omega, ho, hb', n5, n7, n8, n11, n12⟩
theorem stepC_yes {gm : GM} {mt : M Bool} {me : M Vw} {vs : List Nat} {d y : D} {ρ ρ1 ρ2 ρ3 : List Sl} (hg : gm d ρ = some ρ1) (ht : mt ρ1 = some (.ok true, ρ2)) (he : mBind me frc ρ2 = some (.ok y, ρ3)) : stepC gm mt me vs d ρ = some (some y, wipeS ρ3 vs) := by
  unfold stepC
  rw [hg]
  simp only [ht, he]
theorem dr_params {o : O} (hb : Box o) {s2 s3 s4 s5 s6 s7 s8 s9 s10 s11 s12 : Sl} :
    ∃ ps : List Str, ∃ o', L_d_law_drawn_7 (dr o s2 s3 s4 s5 s6 s7 s8 s9 s10 s11 s12) = some (.ok (.dat (.list (ps.map .str))), dr o' s2 s3 s4 .un s6 s7 s8 s9 s10 s11 s12) ∧ ps.length ≤ 3 ∧ (∀ x ∈ ps, PyData.strOk x = true) ∧ Box o' := by
  obtain ⟨r, o1, et, hr0, hr, hb1⟩ := dr_take hb (m := 4) (by omega) (by omega) (s2 := s2) (s3 := s3) (s4 := s4) (s5 := s5) (s6 := s6) (s7 := s7) (s8 := s8) (s9 := s9) (s10 := s10) (s11 := s11) (s12 := s12)
  have er := mRng1_at (n := r.toNat) et rfl (by omega) (by omega)
  obtain ⟨acc, ρ', e, ps, o', rfl, rfl, hl, ho, hb'⟩ := mLc_fold (mi := mRng1 (mCallB f_d_law_take (mCons (mVar 0) (mCons (mC (.int 4)) mNil)))) (gm := asgD 5) (mt := T_d_law_drawn_6) (me := E_d_law_drawn_5) (vs := [5]) (enc := fun (i : Nat) => PyData.int (0 + (i : Int)))
    (fun m acc ρ => ∃ ps : List Str, ∃ o', ρ = dr o' s2 s3 s4 .un s6 s7 s8 s9 s10 s11 s12 ∧ acc = ps.map PyData.str ∧ ps.length = m ∧ (∀ x ∈ ps, PyData.strOk x = true) ∧ Box o') (List.range r.toNat) er (le_big (by rw [List.length_range]; omega))
    (fun m x hx acc ρ hI => by
      obtain ⟨ps, o', rfl, rfl, hl, ho, hb'⟩ := hI
      obtain ⟨d, o2, e2, hd, hb2⟩ := dr_pick hb' (mm := mLst (mCons (mC (.str "int")) (mCons (mC (.str "text")) (mCons (mC (.str "int")) (mCons (mC (.str "bool")) mNil))))) (ds := [.str "int", .str "text", .str "int", .str "bool"]) (s2 := s2) (s3 := s3) (s4 := s4) (s5 := .dat (.int (0 + (x : Int)))) (s6 := s6) (s7 := s7) (s8 := s8) (s9 := s9) (s10 := s10) (s11 := s11) (s12 := s12) (mm1 (w := .dat (.list [.str "int", .str "text", .str "int", .str "bool"])) (by simp [runP, runB, runO, mSeq, mIfS, mThen, mAsB, mOp2, mBind, mVar, mC, mRet, mLift, mTup, mLst, mCons, mNil, mkSeq, frcs, app2, rdD, asB, tru, truD, mTru, mNot, mAnd, mOr, fGt, fLt, fLe, fGe, fInt2, mAsg, frc, asgS, asgD_np, asgO_np, npAt, np_un, np_dat, np_own, newL, mNewL, mAppend, pushL, mSeqT, mSeqL, seqT, seqL, stepS, stepC, wipeS, mOp1, app1, fIntOf, fAbs, fNeg, fMod, fMul, mulOk, fDiv, fPow, fSub, mSetItem, isOL, asI, ownL, setL, mIf, mRetS, retD, mSkip, mCont, mBrk, mCall, appF, mCallB, appB, shaped_int, shaped_bool, BIG, ↓reduceIte]) rfl) (by simp) (by simp)
      have h3 : ∃ x : Str, d = .str x ∧ PyData.strOk x = true := by
        have h3 : d = .str "int" ∨ d = .str "text" ∨ d = .str "int" ∨ d = .str "bool" := by simpa using hd
        rcases h3 with rfl | rfl | rfl | rfl
        · exact ⟨_, rfl, ok_int⟩
        · exact ⟨_, rfl, ok_text⟩
        · exact ⟨_, rfl, ok_int⟩
        · exact ⟨_, rfl, ok_bool⟩
      obtain ⟨z, rfl, hz⟩ := h3
      have e3 : mBind E_d_law_drawn_5 frc (dr o' s2 s3 s4 (.dat (.int (0 + (x : Int)))) s6 s7 s8 s9 s10 s11 s12) = some (.ok (.str z), dr o2 s2 s3 s4 (.dat (.int (0 + (x : Int)))) s6 s7 s8 s9 s10 s11 s12) := by
        unfold E_d_law_drawn_5
        rw [mBind_ok e2]
        rfl
      refine ⟨some (.str z), dr o2 s2 s3 s4 .un s6 s7 s8 s9 s10 s11 s12, ?_, ps ++ [z], o2, rfl, by simp, by rw [List.length_append, hl]; rfl, fun y hy => ?_, hb2⟩
      · exact stepC_yes (ρ1 := dr o' s2 s3 s4 (.dat (.int (0 + (x : Int)))) s6 s7 s8 s9 s10 s11 s12) (asgD_np rfl) rfl e3
      · rcases List.mem_append.mp hy with hy | hy
        · exact ho y hy
        · rw [List.mem_singleton] at hy; rw [hy]; exact hz) ⟨[], o1, rfl, rfl, rfl, fun x h => (nomatch h), hb1⟩
  exact ⟨ps, o', e, by rw [hl, List.length_range]; omega, ho, hb'⟩
theorem str_int {n : Nat} (hn : n < 3) : ∃ x : Str, fStrOf (.int (0 + (n : Int))) = some (.str x) ∧ x.length ≤ 1000 := by
  match n, hn with
  | 0, _ => exact ⟨_, rfl, by decide +kernel⟩
  | 1, _ => exact ⟨_, rfl, by decide +kernel⟩
  | 2, _ => exact ⟨_, rfl, by decide +kernel⟩
/-- a turn of the loop over the shapes -/
theorem dr_shape {o : O} (hb : Box o) {s3 s4 s5 s6 s7 s8 s9 s10 s11 s12 : Sl} (h3 : np s3 = true) (h4 : np s4 = true) (h6 : np s6 = true) (h7 : np s7 = true) (h8 : np s8 = true) (h11 : np s11 = true) (h12 : np s12 = true) {sh : List Shp} (hl : sh.length ≤ 3) {n : Nat} (hn : n < 3) :
    ∃ s o' k3 k4 k5 k6 k7 k8 k9 k10 k11 k12, stepS (asgD 3) B_d_law_drawn_8 (.int (0 + (n : Int))) (dr o (.own (.lst (sh.map encS))) s3 s4 s5 s6 s7 s8 s9 s10 s11 s12) = some (.nx, dr o' (.own (.lst ((sh ++ [s]).map encS))) k3 k4 k5 k6 k7 k8 k9 k10 k11 k12) ∧
      OkS s ∧ Box o' ∧ np k3 = true ∧ np k4 = true ∧ np k6 = true ∧ np k7 = true ∧ np k8 = true ∧ np k11 = true ∧ np k12 = true := by
  obtain ⟨ps, o1, e1, hp, hs, hb1⟩ := dr_params hb (s2 := .own (.lst (sh.map encS))) (s3 := .dat (.int (0 + (n : Int)))) (s4 := s4) (s5 := s5) (s6 := s6) (s7 := s7) (s8 := s8) (s9 := s9) (s10 := s10) (s11 := s11) (s12 := s12)
  obtain ⟨es, o2, k5, k7, k8, k9, k10, k11, k12, e2, hes, hoe, hb2, n5, n7, n8, n11, n12⟩ := dr_ents hb1 (s2 := .own (.lst (sh.map encS))) (s3 := .dat (.int (0 + (n : Int)))) (s5 := .un) (s9 := s9) (s10 := s10) rfl h7 h8 h11 h12 hp hs
  obtain ⟨x, ex, hx⟩ := str_int hn
  have a1 := mAsg_ok (gm := asgD 4) (ρ2 := dr o1 (.own (.lst (sh.map encS))) (.dat (.int (0 + (n : Int)))) (.dat (.tuple (ps.map .str))) .un s6 s7 s8 s9 s10 s11 s12) (mOp1_ok (f := fTupleOf) (z := .tuple (ps.map .str)) e1 rfl rfl) (asgD_np h4)
  have a2 : mNewL mNil 6 (dr o1 (.own (.lst (sh.map encS))) (.dat (.int (0 + (n : Int)))) (.dat (.tuple (ps.map .str))) .un s6 s7 s8 s9 s10 s11 s12) = some (.nx, dr o1 (.own (.lst (sh.map encS))) (.dat (.int (0 + (n : Int)))) (.dat (.tuple (ps.map .str))) .un (.own (.lst [])) s7 s8 s9 s10 s11 s12) := by
    have := asgO_np (i := 6) (o := .lst []) (ρ := dr o1 (.own (.lst (sh.map encS))) (.dat (.int (0 + (n : Int)))) (.dat (.tuple (ps.map .str))) .un s6 s7 s8 s9 s10 s11 s12) h6
    unfold mNewL mNil mRet mThen
    exact this
  have pl : fPlus (.str "p") (.str x) = some (.str ("p" ++ x)) := by
    have e : fAddS (.str "p") (.str x) = some (.str ("p" ++ x)) := by
      show (if ("p" : Str).length + x.length ≤ BIG then some (PyData.str ("p" ++ x)) else none) = _
      have hp1 : ("p" : Str).length = 1 := by decide +kernel
      rw [if_pos (Nat.le_trans (by omega : _ ≤ 2000) (by decide))]
    unfold fPlus fP2 fP1 fAdd fInt2
    simp only [e]
  have a3 : mTup (mCons (mOp2 fPlus (mC (.str "p")) (mOp1 fStrOf (mVar 3))) (mCons (mVar 4) (mCons (mOp1 fTupleOf (mVar 6)) mNil))) (dr o2 (.own (.lst (sh.map encS))) (.dat (.int (0 + (n : Int)))) (.dat (.tuple (ps.map .str))) k5 (.own (.lst (es.map encE))) k7 k8 k9 k10 k11 k12) = some (.ok (.dat (encS ⟨"p" ++ x, ps, es⟩)), dr o2 (.own (.lst (sh.map encS))) (.dat (.int (0 + (n : Int)))) (.dat (.tuple (ps.map .str))) k5 (.own (.lst (es.map encE))) k7 k8 k9 k10 k11 k12) := by
    have q1 : mOp2 fPlus (mC (.str "p")) (mOp1 fStrOf (mVar 3)) (dr o2 (.own (.lst (sh.map encS))) (.dat (.int (0 + (n : Int)))) (.dat (.tuple (ps.map .str))) k5 (.own (.lst (es.map encE))) k7 k8 k9 k10 k11 k12) = some (.ok (.dat (.str ("p" ++ x))), dr o2 (.own (.lst (sh.map encS))) (.dat (.int (0 + (n : Int)))) (.dat (.tuple (ps.map .str))) k5 (.own (.lst (es.map encE))) k7 k8 k9 k10 k11 k12) :=
      mOp2_ok (a := .dat (.str "p")) rfl (mOp1_ok (a := .loc 3) rfl rfl ex) rfl rfl pl
    have q3 : mOp1 fTupleOf (mVar 6) (dr o2 (.own (.lst (sh.map encS))) (.dat (.int (0 + (n : Int)))) (.dat (.tuple (ps.map .str))) k5 (.own (.lst (es.map encE))) k7 k8 k9 k10 k11 k12) = some (.ok (.dat (.tuple (es.map encE))), dr o2 (.own (.lst (sh.map encS))) (.dat (.int (0 + (n : Int)))) (.dat (.tuple (ps.map .str))) k5 (.own (.lst (es.map encE))) k7 k8 k9 k10 k11 k12) :=
      mOp1_ok (a := .loc 6) rfl rfl rfl
    have q : mCons (mOp2 fPlus (mC (.str "p")) (mOp1 fStrOf (mVar 3))) (mCons (mVar 4) (mCons (mOp1 fTupleOf (mVar 6)) mNil)) (dr o2 (.own (.lst (sh.map encS))) (.dat (.int (0 + (n : Int)))) (.dat (.tuple (ps.map .str))) k5 (.own (.lst (es.map encE))) k7 k8 k9 k10 k11 k12) = some (.ok [.dat (.str ("p" ++ x)), .loc 4, .dat (.tuple (es.map encE))], dr o2 (.own (.lst (sh.map encS))) (.dat (.int (0 + (n : Int)))) (.dat (.tuple (ps.map .str))) k5 (.own (.lst (es.map encE))) k7 k8 k9 k10 k11 k12) := by
      unfold mCons
      rw [mBind_ok q1]
      have r1 : mVar 4 (dr o2 (.own (.lst (sh.map encS))) (.dat (.int (0 + (n : Int)))) (.dat (.tuple (ps.map .str))) k5 (.own (.lst (es.map encE))) k7 k8 k9 k10 k11 k12) = some (.ok (.loc 4), dr o2 (.own (.lst (sh.map encS))) (.dat (.int (0 + (n : Int)))) (.dat (.tuple (ps.map .str))) k5 (.own (.lst (es.map encE))) k7 k8 k9 k10 k11 k12) := rfl
      have r2 : mBind (mVar 4) (fun a => mBind (mBind (mOp1 fTupleOf (mVar 6)) fun a => mBind mNil fun r => mRet (a :: r)) fun r => mRet (a :: r)) (dr o2 (.own (.lst (sh.map encS))) (.dat (.int (0 + (n : Int)))) (.dat (.tuple (ps.map .str))) k5 (.own (.lst (es.map encE))) k7 k8 k9 k10 k11 k12) = some (.ok [.loc 4, .dat (.tuple (es.map encE))], dr o2 (.own (.lst (sh.map encS))) (.dat (.int (0 + (n : Int)))) (.dat (.tuple (ps.map .str))) k5 (.own (.lst (es.map encE))) k7 k8 k9 k10 k11 k12) := by
        rw [mBind_ok r1, bind_assoc, mBind_ok q3]
        rfl
      rw [mBind_ok r2]
      rfl
    unfold mTup
    rw [mBind_ok q]
    rfl
  have a4 := mAppend_own (i := 2) (ds0 := sh.map encS) rfl a3 (ds := sh.map encS) rfl (by rw [List.length_map]; exact Nat.lt_of_le_of_lt hl (by decide))
  refine ⟨⟨"p" ++ x, ps, es⟩, o2, .dat (.int (0 + (n : Int))), .dat (.tuple (ps.map .str)), k5, .own (.lst (es.map encE)), k7, k8, k9, k10, k11, k12, ?_, ⟨hes, hp, hoe, hs⟩, hb2, rfl, rfl, rfl, n7, n8, n11, n12⟩
  unfold stepS
  rw [asgD_np (i := 3) (ρ := dr o (.own (.lst (sh.map encS))) s3 s4 s5 s6 s7 s8 s9 s10 s11 s12) h3]
  show B_d_law_drawn_8 (dr o (.own (.lst (sh.map encS))) (.dat (.int (0 + (n : Int)))) s4 s5 s6 s7 s8 s9 s10 s11 s12) = _
  unfold B_d_law_drawn_8
  rw [mSeq_ok a1, mSeq_ok a2, mSeq_ok e2, a4, List.map_append]
  rfl
theorem drawn_ok {o : O} (hb : Box o) : ∃ sh o', f_d_law_drawn o [] = some (encH sh, o') ∧ OkH sh := by
  obtain ⟨n, o1, er, hn, hb1⟩ := rng1_at hb (m := 3) (by omega) (by omega) (s2 := .own (.lst [])) (s3 := .un) (s4 := .un) (s5 := .un) (s6 := .un) (s7 := .un) (s8 := .un) (s9 := .un) (s10 := .un) (s11 := .un) (s12 := .un)
  obtain ⟨ρ', e, sh, o', k3, k4, k5, k6, k7, k8, k9, k10, k11, k12, rfl, hl, ho, hb', n3, n4, n6, n7, n8, n11, n12⟩ := mFor_fold (mi := mRng1 (mOp2 fPlus (mC (.int 1)) (mCallB f_d_law_take (mCons (mVar 0) (mCons (mC (.int 3)) mNil))))) (gm := asgD 3) (body := B_d_law_drawn_8) (enc := fun (i : Nat) => PyData.int (0 + (i : Int)))
    (fun m (_ : Unit) ρ => ∃ (sh : List Shp) (o' : O) (k3 k4 k5 k6 k7 k8 k9 k10 k11 k12 : Sl), ρ = dr o' (.own (.lst (sh.map encS))) k3 k4 k5 k6 k7 k8 k9 k10 k11 k12 ∧ sh.length = m ∧ (∀ s ∈ sh, OkS s) ∧ Box o' ∧ np k3 = true ∧ np k4 = true ∧ np k6 = true ∧ np k7 = true ∧ np k8 = true ∧ np k11 = true ∧ np k12 = true) (fun _ _ => ()) (List.range n) (b := ()) er
    (fun m x hx _ ρ hI => by
      obtain ⟨sh, o', k3, k4, k5, k6, k7, k8, k9, k10, k11, k12, rfl, hl, ho, hb', n3, n4, n6, n7, n8, n11, n12⟩ := hI
      have hm := (List.getElem?_eq_some_iff.mp hx).1
      have hxn := List.mem_range.mp (List.mem_of_getElem? hx)
      rw [List.length_range] at hm
      obtain ⟨s, o2, l3, l4, l5, l6, l7, l8, l9, l10, l11, l12, es', hs, hb2, m3, m4, m6, m7, m8, m11, m12⟩ := dr_shape hb' (s5 := k5) (s9 := k9) (s10 := k10) n3 n4 n6 n7 n8 n11 n12 (sh := sh) (by omega) (n := x) (by omega)
      refine ⟨.nx, _, es', .inl rfl, sh ++ [s], o2, l3, l4, l5, l6, l7, l8, l9, l10, l11, l12, rfl, by rw [List.length_append, hl]; rfl, fun y hy => ?_, hb2, m3, m4, m6, m7, m8, m11, m12⟩
      rcases List.mem_append.mp hy with hy | hy
      · exact ho y hy
      · rw [List.mem_singleton] at hy; rw [hy]; exact hs) ⟨[], o1, .un, .un, .un, .un, .un, .un, .un, .un, .un, .un, rfl, rfl, fun e h => (nomatch h), hb1, rfl, rfl, rfl, rfl, rfl, rfl, rfl⟩
  have e : L_d_law_drawn_9 (dr o (.own (.lst [])) .un .un .un .un .un .un .un .un .un .un) = _ := e
  refine ⟨sh, o', ?_, ⟨by rw [hl, List.length_range]; omega, ho⟩⟩
  have a1 : mNewDk 1 kindsK [.par o, .un, .un, .un, .un, .un, .un, .un, .un, .un, .un, .un, .un] = some (.nx, [.par o, .own (.dk kindsK), .un, .un, .un, .un, .un, .un, .un, .un, .un, .un, .un]) := by
    unfold mNewDk
    rw [kinds_merge]
    rfl
  have a2 : mNewL mNil 2 [.par o, .own (.dk kindsK), .un, .un, .un, .un, .un, .un, .un, .un, .un, .un, .un] = some (.nx, dr o (.own (.lst [])) .un .un .un .un .un .un .un .un .un .un) := rfl
  have a3 := mRetS_ok (mOp1_ok (f := fTupleOf) (a := .loc 2) (ma := mVar 2) (ρ := dr o' (.own (.lst (sh.map encS))) k3 k4 k5 k6 k7 k8 k9 k10 k11 k12) rfl rfl rfl)
  unfold f_d_law_drawn
  have e9 : runB 1 13 m_d_law_drawn o [] = match m_d_law_drawn [.par o, .un, .un, .un, .un, .un, .un, .un, .un, .un, .un, .un, .un] with
    | some (.rt d, .par o' :: _) => some (d, o')
    | some (.nx, .par o' :: _) => some (.none, o')
    | _ => none := rfl
  have e10 : m_d_law_drawn = mSeq (mNewDk 1 kindsK) (mSeq (mNewL mNil 2) (mSeq L_d_law_drawn_9 (mRetS (mOp1 fTupleOf (mVar 2))))) := rfl
  rw [e9, e10, mSeq_ok a1, mSeq_ok a2, mSeq_ok e, a3]
  rfl
end K10
namespace K10
open PySem L2 Dat
theorem box_eq (ns : List Int) (h : ns.length ≤ 63) : f_d_law_box [.list (ns.map .int)] = some [.int 0, .int 0, .int 0, .list ((ns.map fun n => if n < 0 then -n else n).map .int)] := by
  have := mLc_pure (mi := mSeqL (mVar 0)) (gm := asgD 1) (mt := T_d_law_box_1) (me := E_d_law_box_0) (vs := [1]) (enc := PyData.int) (fun n => some (PyData.int (if n < 0 then -n else n))) ns (ρ := [.dat (.list (ns.map .int)), .un]) (ρ0 := [.dat (.list (ns.map .int)), .un])
    rfl (le_big (by omega)) (fun n hn => stepC_yes (ρ1 := [.dat (.list (ns.map .int)), .dat (.int n)]) (ρ2 := [.dat (.list (ns.map .int)), .dat (.int n)]) (ρ3 := [.dat (.list (ns.map .int)), .dat (.int n)]) (asgD_np rfl) rfl rfl)
  have e : ns.filterMap (fun n => some (PyData.int (if n < 0 then -n else n))) = (ns.map fun n => if n < 0 then -n else n).map PyData.int := by
    rw [List.filterMap_eq_map', List.map_map]
    rfl
  rw [e] at this
  have e2 : L_d_law_box_2 [.dat (.list (ns.map .int)), .un] = some (.ok (.dat (.list ((ns.map fun n => if n < 0 then -n else n).map PyData.int))), [.dat (.list (ns.map .int)), .un]) := this
  have e3 : m_d_law_box [.dat (.list (ns.map .int)), .un] = some (.ok [.dat (.int 0), .dat (.int 0), .dat (.int 0), .dat (.list ((ns.map fun n => if n < 0 then -n else n).map PyData.int))], [.dat (.list (ns.map .int)), .un]) := by
    have r0 : mCons L_d_law_box_2 mNil [.dat (.list (ns.map .int)), .un] = some (.ok [.dat (.list ((ns.map fun n => if n < 0 then -n else n).map PyData.int))], [.dat (.list (ns.map .int)), .un]) := by
      unfold mCons
      rw [mBind_ok e2]
      rfl
    have rc : ∀ (i : Int) (m : M (List Vw)) (ws : List Vw), m [.dat (.list (ns.map .int)), .un] = some (.ok ws, [.dat (.list (ns.map .int)), .un]) → mCons (mC (.int i)) m [.dat (.list (ns.map .int)), .un] = some (.ok (.dat (.int i) :: ws), [.dat (.list (ns.map .int)), .un]) := fun i m ws h => by
      unfold mCons
      rw [mBind_ok (a := .dat (.int i)) (ρ1 := [.dat (.list (ns.map .int)), .un]) rfl, mBind_ok h]
      rfl
    exact rc 0 _ _ (rc 0 _ _ (rc 0 _ _ r0))
  have e4 : mBind m_d_law_box frcs [.dat (.list (ns.map .int)), .un] = some (.ok [.int 0, .int 0, .int 0, .list ((ns.map fun n => if n < 0 then -n else n).map .int)], [.dat (.list (ns.map .int)), .un]) := by
    rw [mBind_ok e3]
    rfl
  unfold f_d_law_box
  have e5 : runO 1 2 m_d_law_box [.list (ns.map .int)] = match mBind m_d_law_box frcs [.dat (.list (ns.map .int)), .un] with
    | some (.ok ys, _) => if ys.length ≤ BIG then some ys else none
    | _ => none := rfl
  rw [e5, e4]
  rfl
abbrev lw (a0 : D) (o : Sl) (sh : List Shp) (s3 s4 s5 s6 s7 s8 s9 : Sl) : List Sl := [.dat a0, o, .dat (encH sh), s3, s4, s5, s6, s7, s8, s9, .un]
theorem isTup_t (ds : List D) : fIsi isTup (.tuple ds) = some (.bool true) := rfl
theorem shd_kt (ks : List Key) (h : ∀ k ∈ ks, okK k = true) : Shd 1 (.tuple (ks.map kD)) := Shd.tuple fun k hk => shd_k (h k hk)
theorem lw_kind {sh : List Shp} (hh : OkH sh) {a0 : D} {o s3 s4 s5 s6 s7 s8 s9 : Sl} (h3 : np s3 = true) (h4 : np s4 = true) {x : Str} (hx : PyData.strOk x = true) :
    stepS (asgD 3) B_d_law_9 (.str x) (lw a0 o sh s3 s4 s5 s6 s7 s8 s9) = some (.nx, lw a0 o sh (.dat (.str x)) (.dat (.tuple ((vals sh x).map kD))) s5 s6 s7 s8 s9) := by
  have hv := vals_ok hh x
  have e1 : mCall f_d_literals (mCons (mVar 2) (mCons (mVar 3) mNil)) (lw a0 o sh (.dat (.str x)) s4 s5 s6 s7 s8 s9) = some (.ok (.dat (.tuple ((vals sh x).map kD))), lw a0 o sh (.dat (.str x)) s4 s5 s6 s7 s8 s9) := by
    simp [runP, runB, runO, mSeq, mIfS, mThen, mAsB, mOp2, mBind, mVar, mC, mRet, mLift, mTup, mLst, mCons, mNil, mkSeq, frcs, app2, rdD, asB, tru, truD, mTru, mNot, mAnd, mOr, fGt, fLt, fLe, fGe, fInt2, mAsg, frc, asgS, asgD_np, asgO_np, npAt, np_un, np_dat, np_own, newL, mNewL, mAppend, pushL, mSeqT, mSeqL, seqT, seqL, stepS, stepC, wipeS, mOp1, app1, fIntOf, fAbs, fNeg, fMod, fMul, mulOk, fDiv, fPow, fSub, mSetItem, isOL, asI, ownL, setL, mIf, mRetS, retD, mSkip, mCont, mBrk, mCall, appF, mCallB, appB, shaped_int, shaped_bool, BIG, ↓reduceIte, literals_eq hh hx]
  have a1 := mAsg_ok (gm := asgD 4) (ρ2 := lw a0 o sh (.dat (.str x)) (.dat (.tuple ((vals sh x).map kD))) s5 s6 s7 s8 s9) e1 (asgD_np h4)
  have e2 : mCall f_d_law_values (mCons (mVar 2) (mCons (mVar 3) mNil)) (lw a0 o sh (.dat (.str x)) (.dat (.tuple ((vals sh x).map kD))) s5 s6 s7 s8 s9) = some (.ok (.dat (.list ((vals sh x).map kD))), lw a0 o sh (.dat (.str x)) (.dat (.tuple ((vals sh x).map kD))) s5 s6 s7 s8 s9) := by
    simp [runP, runB, runO, mSeq, mIfS, mThen, mAsB, mOp2, mBind, mVar, mC, mRet, mLift, mTup, mLst, mCons, mNil, mkSeq, frcs, app2, rdD, asB, tru, truD, mTru, mNot, mAnd, mOr, fGt, fLt, fLe, fGe, fInt2, mAsg, frc, asgS, asgD_np, asgO_np, npAt, np_un, np_dat, np_own, newL, mNewL, mAppend, pushL, mSeqT, mSeqL, seqT, seqL, stepS, stepC, wipeS, mOp1, app1, fIntOf, fAbs, fNeg, fMod, fMul, mulOk, fDiv, fPow, fSub, mSetItem, isOL, asI, ownL, setL, mIf, mRetS, retD, mSkip, mCont, mBrk, mCall, appF, mCallB, appB, shaped_int, shaped_bool, BIG, ↓reduceIte, law_values_eq hh hx]
  have t1 : mNot (mTru (mOp1 (fIsi isTup) (mVar 4))) (lw a0 o sh (.dat (.str x)) (.dat (.tuple ((vals sh x).map kD))) s5 s6 s7 s8 s9) = some (.ok false, lw a0 o sh (.dat (.str x)) (.dat (.tuple ((vals sh x).map kD))) s5 s6 s7 s8 s9) :=
    mNot_ok (b := true) (mTru_ok (d := .bool true) (mOp1_ok (a := .loc 4) rfl rfl (isTup_t _)) rfl rfl)
  have t2 : mAsB (mOp2 fNe (mVar 4) (mOp1 fTupleOf (mCall f_d_law_values (mCons (mVar 2) (mCons (mVar 3) mNil))))) (lw a0 o sh (.dat (.str x)) (.dat (.tuple ((vals sh x).map kD))) s5 s6 s7 s8 s9) = some (.ok false, lw a0 o sh (.dat (.str x)) (.dat (.tuple ((vals sh x).map kD))) s5 s6 s7 s8 s9) :=
    mAsB_ok (mOp2_ok (a := .loc 4) rfl (mOp1_ok (f := fTupleOf) (z := .tuple ((vals sh x).map kD)) e2 rfl rfl) rfl rfl (ne_same (shd_kt _ hv) (by decide))) rfl
  unfold stepS
  rw [asgD_np (i := 3) (ρ := lw a0 o sh s3 s4 s5 s6 s7 s8 s9) h3]
  show B_d_law_9 (lw a0 o sh (.dat (.str x)) s4 s5 s6 s7 s8 s9) = _
  unfold B_d_law_9
  rw [mSeq_ok a1, mIfS_ok ((mOr_ok (n := mAsB (mOp2 fNe (mVar 4) (mOp1 fTupleOf (mCall f_d_law_values (mCons (mVar 2) (mCons (mVar 3) mNil)))))) t1).trans t2)]
  rfl
theorem lw_shape {sh : List Shp} (hh : OkH sh) {a0 : D} {o s3 s5 s6 s7 s8 s9 : Sl} {a4 : D} (h3 : np s3 = true) (h5 : np s5 = true) (h6 : np s6 = true) (h7 : np s7 = true) (h8 : np s8 = true) (h9 : np s9 = true) {p : Nat} {s : Shp} (hp : sh[p]? = some s) :
    ∃ k3 a4' k7 k8 k9, stepS (gmTup 2 (gmCons (asgD 5) (gmCons (asgD 6) gmNil))) B_d_law_7 (.tuple [.int (p : Int), encS s]) (lw a0 o sh s3 (.dat a4) s5 s6 s7 s8 s9) = some (.nx, lw a0 o sh k3 (.dat a4') (.dat (.int (p : Int))) (.dat (encS s)) k7 k8 k9) ∧ np k3 = true ∧ np k7 = true ∧ np k8 = true ∧ np k9 = true := by
  have hs := hh.ok s (List.mem_of_getElem? hp)
  have a1 : mAsg (mLst (mCons (mTup mNil) mNil)) (asgD 7) (lw a0 o sh s3 (.dat a4) (.dat (.int (p : Int))) (.dat (encS s)) s7 s8 s9) = some (.nx, lw a0 o sh s3 (.dat a4) (.dat (.int (p : Int))) (.dat (encS s)) (.dat (.list [.tuple []])) s8 s9) :=
    mAsg_ok (d := .list [.tuple []]) (ρ1 := lw a0 o sh s3 (.dat a4) (.dat (.int (p : Int))) (.dat (encS s)) s7 s8 s9) rfl (asgD_np (i := 7) (ρ := lw a0 o sh s3 (.dat a4) (.dat (.int (p : Int))) (.dat (encS s)) s7 s8 s9) h7)
  obtain ⟨k3, k8, k9, e, n3, n8, n9⟩ := lw_all hh hs (a0 := a0) (a4 := a4) (a5 := .int (p : Int)) (j1 := o) h3 h8 h9
  have e1 : mCall f_d_choices (mCons (mVar 2) (mCons (mVar 5) mNil)) (lw a0 o sh k3 (.dat a4) (.dat (.int (p : Int))) (.dat (encS s)) (.dat (.list ((rowsN sh s s.ps.length).map encR))) k8 k9) = some (.ok (.dat (.tuple ((rowsN sh s s.ps.length).map encR))), lw a0 o sh k3 (.dat a4) (.dat (.int (p : Int))) (.dat (encS s)) (.dat (.list ((rowsN sh s s.ps.length).map encR))) k8 k9) := by
    simp [runP, runB, runO, mSeq, mIfS, mThen, mAsB, mOp2, mBind, mVar, mC, mRet, mLift, mTup, mLst, mCons, mNil, mkSeq, frcs, app2, rdD, asB, tru, truD, mTru, mNot, mAnd, mOr, fGt, fLt, fLe, fGe, fInt2, mAsg, frc, asgS, asgD_np, asgO_np, npAt, np_un, np_dat, np_own, newL, mNewL, mAppend, pushL, mSeqT, mSeqL, seqT, seqL, stepS, stepC, wipeS, mOp1, app1, fIntOf, fAbs, fNeg, fMod, fMul, mulOk, fDiv, fPow, fSub, mSetItem, isOL, asI, ownL, setL, mIf, mRetS, retD, mSkip, mCont, mBrk, mCall, appF, mCallB, appB, shaped_int, shaped_bool, BIG, ↓reduceIte, choices_eq hh hp]
  have a3 := mAsg_ok (gm := asgD 4) (ρ2 := lw a0 o sh k3 (.dat (.tuple ((rowsN sh s s.ps.length).map encR))) (.dat (.int (p : Int))) (.dat (encS s)) (.dat (.list ((rowsN sh s s.ps.length).map encR))) k8 k9) e1 (asgD_np rfl)
  have t1 : mNot (mTru (mOp1 (fIsi isTup) (mVar 4))) (lw a0 o sh k3 (.dat (.tuple ((rowsN sh s s.ps.length).map encR))) (.dat (.int (p : Int))) (.dat (encS s)) (.dat (.list ((rowsN sh s s.ps.length).map encR))) k8 k9) = some (.ok false, lw a0 o sh k3 (.dat (.tuple ((rowsN sh s s.ps.length).map encR))) (.dat (.int (p : Int))) (.dat (encS s)) (.dat (.list ((rowsN sh s s.ps.length).map encR))) k8 k9) :=
    mNot_ok (b := true) (mTru_ok (d := .bool true) (mOp1_ok (a := .loc 4) rfl rfl (isTup_t _)) rfl rfl)
  have t2 : mAsB (mOp2 fNe (mVar 4) (mOp1 fTupleOf (mVar 7))) (lw a0 o sh k3 (.dat (.tuple ((rowsN sh s s.ps.length).map encR))) (.dat (.int (p : Int))) (.dat (encS s)) (.dat (.list ((rowsN sh s s.ps.length).map encR))) k8 k9) = some (.ok false, lw a0 o sh k3 (.dat (.tuple ((rowsN sh s s.ps.length).map encR))) (.dat (.int (p : Int))) (.dat (encS s)) (.dat (.list ((rowsN sh s s.ps.length).map encR))) k8 k9) :=
    mAsB_ok (mOp2_ok (a := .loc 4) rfl (mOp1_ok (f := fTupleOf) (a := .loc 7) (z := .tuple ((rowsN sh s s.ps.length).map encR)) rfl rfl rfl) rfl rfl (ne_same (shd_rows hh hs _) (by decide))) rfl
  refine ⟨k3, .tuple ((rowsN sh s s.ps.length).map encR), .dat (.list ((rowsN sh s s.ps.length).map encR)), k8, k9, ?_, n3, np_dat (.list ((rowsN sh s s.ps.length).map encR)), n8, n9⟩
  have g : gmTup 2 (gmCons (asgD 5) (gmCons (asgD 6) gmNil)) (.tuple [.int (p : Int), encS s]) (lw a0 o sh s3 (.dat a4) s5 s6 s7 s8 s9) = some (lw a0 o sh s3 (.dat a4) (.dat (.int (p : Int))) (.dat (encS s)) s7 s8 s9) := by
    simp [gmTup, gmCons, gmNil, asgD_np, npAt, h5, h6]
  unfold stepS
  rw [g]
  show B_d_law_7 _ = _
  unfold B_d_law_7
  rw [mSeq_ok a1, mSeq_ok e, mSeq_ok a3, mIfS_ok ((mOr_ok (n := mAsB (mOp2 fNe (mVar 4) (mOp1 fTupleOf (mVar 7)))) t1).trans t2)]
  rfl
theorem law_all (ns : List Int) (h : ns.length ≤ 63) : f_d_law [.list (ns.map .int)] = some (.bool true) := by
  have hb : Box (.lst [.int 0, .int 0, .int 0, .list ((ns.map fun n => if n < 0 then -n else n).map .int)]) := ⟨0, 0, 0, ns.map fun n => if n < 0 then -n else n, Int.le_refl _, rfl⟩
  obtain ⟨sh, o', ed, hh⟩ := drawn_ok hb
  generalize hbx : O.lst [.int 0, .int 0, .int 0, .list ((ns.map fun n => if n < 0 then -n else n).map .int)] = o at hb ed
  have a1 : mSetOc 1 f_d_law_box (mCons (mVar 0) mNil) [.dat (.list (ns.map .int)), .un, .un, .un, .un, .un, .un, .un, .un, .un, .un] = some (.nx, [.dat (.list (ns.map .int)), .own o, .un, .un, .un, .un, .un, .un, .un, .un, .un]) := by
    rw [← hbx]
    have e0 : mSetOc 1 f_d_law_box (mCons (mVar 0) mNil) [.dat (.list (ns.map .int)), .un, .un, .un, .un, .un, .un, .un, .un, .un, .un] = (match f_d_law_box [.list (ns.map .int)] with
      | some ys => asgO 1 (.lst ys)
      | none => fun _ => none) [.dat (.list (ns.map .int)), .un, .un, .un, .un, .un, .un, .un, .un, .un, .un] := rfl
    rw [e0, box_eq ns h]
    rfl
  have e1 : mCallB f_d_law_drawn (mCons (mVar 1) mNil) [.dat (.list (ns.map .int)), .own o, .un, .un, .un, .un, .un, .un, .un, .un, .un] = some (.ok (.dat (encH sh)), [.dat (.list (ns.map .int)), .own o', .un, .un, .un, .un, .un, .un, .un, .un, .un]) := by
    have e0 : mCallB f_d_law_drawn (mCons (mVar 1) mNil) [.dat (.list (ns.map .int)), .own o, .un, .un, .un, .un, .un, .un, .un, .un, .un] = match f_d_law_drawn o [] with
      | some (d, o') => some (.ok (.dat d), [.dat (.list (ns.map .int)), .own o', .un, .un, .un, .un, .un, .un, .un, .un, .un])
      | none => none := rfl
    rw [e0, ed]
  have a2 := mAsg_ok (gm := asgD 2) (ρ2 := lw (.list (ns.map .int)) (.own o') sh .un .un .un .un .un .un .un) e1 rfl
  have a3 : L_d_law_10 (lw (.list (ns.map .int)) (.own o') sh .un .un .un .un .un .un .un) = some (.nx, lw (.list (ns.map .int)) (.own o') sh (.dat (.str "text")) (.dat (.tuple ((vals sh "text").map kD))) .un .un .un .un .un) := by
    have s1 := lw_kind hh (a0 := .list (ns.map .int)) (o := .own o') (s3 := .un) (s4 := .un) (s5 := .un) (s6 := .un) (s7 := .un) (s8 := .un) (s9 := .un) rfl rfl ok_int
    have s2 := lw_kind hh (a0 := .list (ns.map .int)) (o := .own o') (s3 := .dat (.str "int")) (s4 := .dat (.tuple ((vals sh "int").map kD))) (s5 := .un) (s6 := .un) (s7 := .un) (s8 := .un) (s9 := .un) rfl rfl ok_text
    obtain ⟨ρ', e, h2⟩ := mFor_fold (mi := mSeqT (mTup (mCons (mC (.str "int")) (mCons (mC (.str "text")) mNil)))) (gm := asgD 3) (body := B_d_law_9) (enc := PyData.str) (ρ := lw (.list (ns.map .int)) (.own o') sh .un .un .un .un .un .un .un) (ρ0 := lw (.list (ns.map .int)) (.own o') sh .un .un .un .un .un .un .un)
      (fun m (_ : Unit) ρ => ρ = if m = 0 then lw (.list (ns.map .int)) (.own o') sh .un .un .un .un .un .un .un else if m = 1 then lw (.list (ns.map .int)) (.own o') sh (.dat (.str "int")) (.dat (.tuple ((vals sh "int").map kD))) .un .un .un .un .un else lw (.list (ns.map .int)) (.own o') sh (.dat (.str "text")) (.dat (.tuple ((vals sh "text").map kD))) .un .un .un .un .un) (fun _ _ => ()) ["int", "text"] (b := ())
      (by simp [runP, runB, runO, mSeq, mIfS, mThen, mAsB, mOp2, mBind, mVar, mC, mRet, mLift, mTup, mLst, mCons, mNil, mkSeq, frcs, app2, rdD, asB, tru, truD, mTru, mNot, mAnd, mOr, fGt, fLt, fLe, fGe, fInt2, mAsg, frc, asgS, asgD_np, asgO_np, npAt, np_un, np_dat, np_own, newL, mNewL, mAppend, pushL, mSeqT, mSeqL, seqT, seqL, stepS, stepC, wipeS, mOp1, app1, fIntOf, fAbs, fNeg, fMod, fMul, mulOk, fDiv, fPow, fSub, mSetItem, isOL, asI, ownL, setL, mIf, mRetS, retD, mSkip, mCont, mBrk, mCall, appF, mCallB, appB, shaped_int, shaped_bool, BIG, ↓reduceIte]) (fun m x hx _ ρ hI => by
        match m, hx with
        | 0, hx =>
          cases hx
          rw [hI]
          exact ⟨.nx, _, s1, .inl rfl, rfl⟩
        | 1, hx =>
          cases hx
          rw [hI]
          exact ⟨.nx, _, s2, .inl rfl, rfl⟩
        | m + 2, hx => cases hx) rfl
    rw [h2] at e
    exact e
  have a4 : ∃ ρ', L_d_law_8 (lw (.list (ns.map .int)) (.own o') sh (.dat (.str "text")) (.dat (.tuple ((vals sh "text").map kD))) .un .un .un .un .un) = some (.nx, ρ') := by
    obtain ⟨ρ', e, _⟩ := mFor_fold (mi := mEnumT (mVar 2)) (gm := gmTup 2 (gmCons (asgD 5) (gmCons (asgD 6) gmNil))) (body := B_d_law_7) (enc := fun i => .tuple [.int (i : Nat), (sh.map encS).getD i .none]) (ρ := lw (.list (ns.map .int)) (.own o') sh (.dat (.str "text")) (.dat (.tuple ((vals sh "text").map kD))) .un .un .un .un .un) (ρ0 := lw (.list (ns.map .int)) (.own o') sh (.dat (.str "text")) (.dat (.tuple ((vals sh "text").map kD))) .un .un .un .un .un)
      (fun m (_ : Unit) ρ => ∃ k3 a4 k5 k6 k7 k8 k9, ρ = lw (.list (ns.map .int)) (.own o') sh k3 (.dat a4) k5 k6 k7 k8 k9 ∧ np k3 = true ∧ np k5 = true ∧ np k6 = true ∧ np k7 = true ∧ np k8 = true ∧ np k9 = true) (fun _ _ => ()) (List.range sh.length) (b := ())
      (by rw [← enum_enc]; simp [mEnumT, runP, runB, runO, mSeq, mIfS, mThen, mAsB, mOp2, mBind, mVar, mC, mRet, mLift, mTup, mLst, mCons, mNil, mkSeq, frcs, app2, rdD, asB, tru, truD, mTru, mNot, mAnd, mOr, fGt, fLt, fLe, fGe, fInt2, mAsg, frc, asgS, asgD_np, asgO_np, npAt, np_un, np_dat, np_own, newL, mNewL, mAppend, pushL, mSeqT, mSeqL, seqT, seqL, stepS, stepC, wipeS, mOp1, app1, fIntOf, fAbs, fNeg, fMod, fMul, mulOk, fDiv, fPow, fSub, mSetItem, isOL, asI, ownL, setL, mIf, mRetS, retD, mSkip, mCont, mBrk, mCall, appF, mCallB, appB, shaped_int, shaped_bool, BIG, ↓reduceIte, encH]) (fun m x hx _ ρ hI => by
        obtain ⟨k3, a4, k5, k6, k7, k8, k9, rfl, n3, n5, n6, n7, n8, n9⟩ := hI
        have hxn := List.mem_range.mp (List.mem_of_getElem? hx)
        have hp : sh[x]? = some sh[x] := List.getElem?_eq_getElem hxn
        rw [getD_enc (f := encS) hp]
        obtain ⟨l3, a4', l7, l8, l9, e, m3, m7, m8, m9⟩ := lw_shape hh (a0 := .list (ns.map .int)) (o := .own o') (a4 := a4) n3 n5 n6 n7 n8 n9 hp
        exact ⟨.nx, _, e, .inl rfl, l3, a4', _, _, l7, l8, l9, rfl, m3, rfl, rfl, m7, m8, m9⟩) ⟨_, _, _, _, _, _, _, rfl, rfl, rfl, rfl, rfl, rfl, rfl⟩
    exact ⟨ρ', e⟩
  obtain ⟨ρ', a4⟩ := a4
  unfold f_d_law
  have e9 : runP 1 11 m_d_law [.list (ns.map .int)] = match m_d_law [.dat (.list (ns.map .int)), .un, .un, .un, .un, .un, .un, .un, .un, .un, .un] with
    | some (.rt d, _) => some d
    | some (.nx, _) => some .none
    | _ => none := rfl
  rw [e9]
  unfold m_d_law
  rw [mSeq_ok a1, mSeq_ok a2, mSeq_ok a3, mSeq_ok a4]
  rfl
end K10
namespace K10
open PySem L2 Dat
theorem walk {l : PySem.W.OpenLaw} {q : Program} {loose : List Str} {XP : (Str → Option Value) → Heap → Prop} {YP : World → Heap → Prop} {d : DefRec} {K : Params → PySem.W.Frag} (hn : l.most = some 63) (hdf : d.params.defaults = [])
    (hY : ∀ (w : World) (h : Heap), YP w h → (K w.params).In h)
    (F : ∀ (w : World) (mg : Str → Option Value) (fa : Addr) (h : Heap), (K w.params).In h → h.Ns mainGlobals mg → mg d.name = some (.ref fa) →
      ∃ fd : FuncData, (∀ (s : Shared) (u : Value), BindsTo s fd ⟨[u], []⟩ [("script", u)]) ∧ ∀ (P : Program) (base : Heap), FnOk P w (K w.params) mg base CX0 4 fa fd ["script"] (spP (K w.params) f_d_law)) :
    PySem.W.WalkO q loose XP YP l.row.toRowW d [] (fun f vs => PySem.call f vs) :=
  L2.walk_of (n := 63) (k := 4) (x := "script") (CX := fun _ => CX0) (sp := fun w => spP (K w.params) f_d_law) hn (by decide) hdf ⟨rfl, by decide, by decide⟩ hY
    (fun w mg fa h a b c => let ⟨fd, h1, h2⟩ := F w mg fa h a b c; ⟨fd, h1, fun base _ _ => h2 l.prog base⟩)
    (fun _ H a ns hl _ hS => ⟨H, [.list (ns.map .int)], .bool true, Ex.refl H, .cons (.lst hS (dps_ints ns)) .nil, law_all ns hl, fun v F' H' _ hv => by cases hv; rfl⟩) fun _ _ _ _ _ z => z
end K10
open PySem PySem.W PyProof.Rows in
set_option maxRecDepth 100000 in
set_option maxHeartbeats 0 in
theorem PySem.Challenge.cw_entablature_k10_choices_and_literals_holds : PySem.Challenge.rw_entablature_k10_choices_and_literals.Holds := by
  w_on; o_law; k_head; (case hw => w_witness2)
  k_fill
  refine K10.walk (l := PySem.Challenge.rw_entablature_k10_choices_and_literals) rfl rfl (fun w h Y => PySem.W.kIn_of Y) ?F
  case F =>
    intro w mg fa h KX G hmg
    refine' K10.all_mk KX G hmg ?n_d_law_box ?l_d_law_box ?c_d_law_box ?k_d_law_box ?n_d_law_take ?l_d_law_take ?c_d_law_take ?k_d_law_take ?n_d_law_pick ?l_d_law_pick ?c_d_law_pick ?k_d_law_pick ?n_d_law_drawn ?l_d_law_drawn ?c_d_law_drawn ?k_d_law_drawn ?n_d_literals ?l_d_literals ?c_d_literals ?k_d_literals ?n_d_named ?l_d_named ?c_d_named ?k_d_named ?n_d_first_signs ?l_d_first_signs ?c_d_first_signs ?k_d_first_signs ?n_d_choices ?l_d_choices ?c_d_choices ?k_d_choices ?n_d_law_values ?l_d_law_values ?c_d_law_values ?k_d_law_values ?n_d_law_options ?l_d_law_options ?c_d_law_options ?k_d_law_options ?n_d_law ?l_d_law ?c_d_law ?k_d_law ?z_abs ?z_enumerate ?z_int ?z_isinstance ?z_len ?z_max ?z_range ?z_set ?z_sorted ?z_str ?z_tuple
    (case n_d_law_box => k_is)
    (case l_d_law_box => k_is)
    (case c_d_law_box => k_is)
    (case k_d_law_box => k_is)
    (case n_d_law_take => k_is)
    (case l_d_law_take => k_is)
    (case c_d_law_take => k_is)
    (case k_d_law_take => k_is)
    (case n_d_law_pick => k_is)
    (case l_d_law_pick => k_is)
    (case c_d_law_pick => k_is)
    (case k_d_law_pick => k_is)
    (case n_d_law_drawn => k_is)
    (case l_d_law_drawn => k_is)
    (case c_d_law_drawn => k_is)
    (case k_d_law_drawn => k_is)
    (case n_d_literals => k_is)
    (case l_d_literals => k_is)
    (case c_d_literals => k_is)
    (case k_d_literals => k_is)
    (case n_d_named => k_is)
    (case l_d_named => k_is)
    (case c_d_named => k_is)
    (case k_d_named => k_is)
    (case n_d_first_signs => k_is)
    (case l_d_first_signs => k_is)
    (case c_d_first_signs => k_is)
    (case k_d_first_signs => k_is)
    (case n_d_choices => k_is)
    (case l_d_choices => k_is)
    (case c_d_choices => k_is)
    (case k_d_choices => k_is)
    (case n_d_law_values => k_is)
    (case l_d_law_values => k_is)
    (case c_d_law_values => k_is)
    (case k_d_law_values => k_is)
    (case n_d_law_options => k_is)
    (case l_d_law_options => k_is)
    (case c_d_law_options => k_is)
    (case k_d_law_options => k_is)
    (case n_d_law => k_is)
    (case l_d_law => k_is)
    (case c_d_law => k_is)
    (case k_d_law => k_is)
    (case z_abs => k_is)
    (case z_enumerate => k_is)
    (case z_int => k_is)
    (case z_isinstance => k_is)
    (case z_len => k_is)
    (case z_max => k_is)
    (case z_range => k_is)
    (case z_set => k_is)
    (case z_sorted => k_is)
    (case z_str => k_is)
    (case z_tuple => k_is)
#print axioms PySem.Challenge.cw_entablature_k10_choices_and_literals_holds
