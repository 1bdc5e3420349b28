import PyProof.Rows.All
import Wide.All
import OpenK.AllK
import Wide.FinOn
import HandS.ForMost
import HandS.TupAny
import HandS.TupLe
import HandS.TupMul
import HandS.Wide
import HandS.RaiseMore
import HandS.Flow
import HandS.Dict
import PyProof.ReprRoads
import KE.DataEq
import KE.LtData
import KE.DataCmp
import KE.DataMinMax
import KE.DataIsa
import HandS.Walk
import KE.GoesMore
import HandS.Defaults
import KE.SortData
import HandS.FStrTup
import PyProof.CollectIter
import PyProof.Rows.TupIter
import PyProof.WalksMore
import HandS.ExcValue
import HandS.ExcOwn
import HandS.SortInts
import PySem.Challenge.RW_limitrun_k15_values_of_expressions
set_option Elab.async false
set_option linter.all false
set_option maxRecDepth 100000
set_option maxHeartbeats 4000000
/-! The data layer: immutable data as trees (PyData), the call's own mutable lists in a memory of their own; readings over both. -/
namespace DL
open PySem PySem.Spec PyProof.Rows L2

/-- a value: data, or something that is kept as it stands (the address of an owned list, of a class ..) -/
inductive DV where
  | d (x : PyData) | raw (v : V)
  /-- a list of ints that is read alone (the script) -/
  | scr (ns : List Int)
/-- what an owned address holds -/
inductive MO where
  | lst (xs : List DV)
abbrev Mem := Addr → Option MO
def hide (H : Hp) (M : Mem) : Hp := fun a => if (M a).isSome then none else H a
def updM (M : Mem) (a : Addr) (o : MO) : Mem := fun b => if b = a then some o else M b
def delM (M : Mem) (a : Addr) : Mem := fun b => if b = a then none else M b
theorem updM_same {M : Mem} {a : Addr} {o : MO} : updM M a o a = some o := by unfold updM; rw [if_pos rfl]
theorem updM_ne {M : Mem} {a b : Addr} {o : MO} (h : b ≠ a) : updM M a o b = M b := by unfold updM; rw [if_neg h]
theorem updM_upd {M : Mem} {a : Addr} {o u : MO} : updM (updM M a o) a u = updM M a u := by
  funext b; unfold updM; split <;> rfl

def Sub (H H' : Hp) : Prop := ∀ a o, H a = some o → H' a = some o
theorem Sub.refl (H : Hp) : Sub H H := fun _ _ h => h
theorem Sub.trans {A B C : Hp} (h : Sub A B) (k : Sub B C) : Sub A C := fun a o e => k a o (h a o e)
theorem hide_sub (H : Hp) (M : Mem) : Sub (hide H M) H := fun a o e => by
  unfold hide at e
  split at e
  · cases e
  · exact e
theorem hide_of {H : Hp} {M : Mem} {a : Addr} {o : HO} (e : H a = some o) (n : M a = none) : hide H M a = some o := by
  unfold hide
  rw [n]
  exact e
theorem hide_own {H : Hp} {M : Mem} {a : Addr} {o : HO} (e : hide H M a = some o) : M a = none := by
  unfold hide at e
  cases h : M a with
  | none => rfl
  | some z => rw [h] at e; cases e

/-- a key as data -/
def keyD : Key → PyData
  | .inl i => .int i
  | .inr x => .str x
mutual
inductive RD (K : PySem.W.Frag) (H : Hp) : V → PyData → Prop
  | non : RD K H .non .none
  | bl (b : Bool) : RD K H (.bl b) (.bool b)
  | int (i : Int) : RD K H (.int i) (.int i)
  | str (x : Str) : RD K H (.str x) (.str x)
  | lst {a : Addr} {xs : List V} {ds : List PyData} : H a = some (.lst xs) → RDs K H xs ds → RD K H (.ref a) (.list ds)
  | tup {a : Addr} {xs : List V} {ds : List PyData} : SqT K H a xs → RDs K H xs ds → RD K H (.ref a) (.tuple ds)
  | dct {a : Addr} {kvs : List (Key × V)} {kds : List (PyData × PyData)} : H a = some (.dK kvs) → RKs K H kvs kds → RD K H (.ref a) (.dict kds)
inductive RKs (K : PySem.W.Frag) (H : Hp) : List (Key × V) → List (PyData × PyData) → Prop
  | nil : RKs K H [] []
  | cons {k : Key} {v : V} {kvs : List (Key × V)} {d : PyData} {kds : List (PyData × PyData)} : RD K H v d → RKs K H kvs kds → RKs K H ((k, v) :: kvs) ((keyD k, d) :: kds)
inductive RDs (K : PySem.W.Frag) (H : Hp) : List V → List PyData → Prop
  | nil : RDs K H [] []
  | cons {v : V} {vs : List V} {d : PyData} {ds : List PyData} : RD K H v d → RDs K H vs ds → RDs K H (v :: vs) (d :: ds)
end
theorem sqT_sub {K : PySem.W.Frag} {H H' : Hp} {a : Addr} {xs : List V} (e : Sub H H') (h : SqT K H a xs) : SqT K H' a xs := by
  rcases h with (h | ⟨o, h⟩) | h
  · exact .inl (.inl (e _ _ h))
  · exact .inl (.inr ⟨o, e _ _ h⟩)
  · exact .inr h
theorem sqL_sub {K : PySem.W.Frag} {H H' : Hp} {a : Addr} {xs : List V} (e : Sub H H') (h : SqL K H a xs) : SqL K H' a xs := by
  rcases h with (h | ⟨o, h⟩) | h
  · exact .inl (.inl (e _ _ h))
  · exact .inl (.inr ⟨o, e _ _ h⟩)
  · exact .inr h
mutual
theorem RD.sub {K : PySem.W.Frag} {H H' : Hp} (s : Sub H H') : ∀ {v : V} {d : PyData}, RD K H v d → RD K H' v d
  | _, _, .non => .non
  | _, _, .bl b => .bl b
  | _, _, .int b => .int b
  | _, _, .str b => .str b
  | _, _, .lst h r => .lst (s _ _ h) (RDs.sub s r)
  | _, _, .tup h r => .tup (sqT_sub s h) (RDs.sub s r)
  | _, _, .dct h r => .dct (s _ _ h) (RKs.sub s r)
theorem RKs.sub {K : PySem.W.Frag} {H H' : Hp} (s : Sub H H') : ∀ {v : List (Key × V)} {d : List (PyData × PyData)}, RKs K H v d → RKs K H' v d
  | _, _, .nil => .nil
  | _, _, .cons h r => .cons (RD.sub s h) (RKs.sub s r)
theorem RDs.sub {K : PySem.W.Frag} {H H' : Hp} (s : Sub H H') : ∀ {v : List V} {d : List PyData}, RDs K H v d → RDs K H' v d
  | _, _, .nil => .nil
  | _, _, .cons h r => .cons (RD.sub s h) (RDs.sub s r)
end
theorem RDs.len {K : PySem.W.Frag} {H : Hp} : ∀ {v : List V} {d : List PyData}, RDs K H v d → v.length = d.length
  | _, _, .nil => rfl
  | _, _, .cons _ r => congrArg (· + 1) r.len
theorem RDs.append {K : PySem.W.Frag} {H : Hp} : ∀ {v v' : List V} {d d' : List PyData}, RDs K H v d → RDs K H v' d' → RDs K H (v ++ v') (d ++ d')
  | _, _, _, _, .nil, s => s
  | _, _, _, _, .cons h r, s => .cons h (r.append s)
theorem RDs.take {K : PySem.W.Frag} {H : Hp} : ∀ {v : List V} {d : List PyData} (n : Nat), RDs K H v d → RDs K H (v.take n) (d.take n)
  | _, _, 0, _ => .nil
  | _, _, _ + 1, .nil => .nil
  | _, _, n + 1, .cons h r => .cons h (r.take n)
theorem RDs.drop {K : PySem.W.Frag} {H : Hp} : ∀ {v : List V} {d : List PyData} (n : Nat), RDs K H v d → RDs K H (v.drop n) (d.drop n)
  | _, _, 0, r => r
  | _, _, _ + 1, .nil => .nil
  | _, _, n + 1, .cons _ r => r.drop n
theorem RDs.get {K : PySem.W.Frag} {H : Hp} : ∀ {v : List V} {d : List PyData} {i : Nat} {x : PyData}, RDs K H v d → d[i]? = some x → ∃ u, v[i]? = some u ∧ RD K H u x
  | _, _, _, _, .nil, e => by simp at e
  | _, _, 0, _, .cons h _, e => by simp at e; subst e; exact ⟨_, rfl, h⟩
  | _, _, i + 1, x, .cons _ r, e => by
    obtain ⟨u, h1, h2⟩ := RDs.get (i := i) (x := x) r (by simpa using e)
    exact ⟨u, by simpa using h1, h2⟩
theorem RDs.getV {K : PySem.W.Frag} {H : Hp} : ∀ {v : List V} {d : List PyData} {i : Nat} {u : V}, RDs K H v d → v[i]? = some u → ∃ x, d[i]? = some x ∧ RD K H u x
  | _, _, _, _, .nil, e => by simp at e
  | _, _, 0, _, .cons h _, e => by simp at e; subst e; exact ⟨_, rfl, h⟩
  | _, _, i + 1, x, .cons _ r, e => by
    obtain ⟨u, h1, h2⟩ := RDs.getV (i := i) (u := x) r (by simpa using e)
    exact ⟨u, by simpa using h1, h2⟩

/-- a value stands for a data value -/
def RV (K : PySem.W.Frag) (H : Hp) (v : V) : DV → Prop
  | .d x => RD K H v x
  | .raw u => v = u
  | .scr ns => ∃ a, v = .ref a ∧ SqL K H a (ns.map V.int)
theorem RV.sub {K : PySem.W.Frag} {H H' : Hp} (s : Sub H H') {v : V} {x : DV} (h : RV K H v x) : RV K H' v x := by
  cases x with
  | d x => exact RD.sub s h
  | raw u => exact h
  | scr ns =>
    obtain ⟨a, e, q⟩ := h
    exact ⟨a, e, sqL_sub s q⟩
abbrev RVs (K : PySem.W.Frag) (H : Hp) : List V → List DV → Prop := Paired (RV K H)
theorem RVs.sub {K : PySem.W.Frag} {H H' : Hp} (s : Sub H H') : ∀ {v : List V} {x : List DV}, RVs K H v x → RVs K H' v x
  | _, _, .nil => .nil
  | _, _, .cons h r => .cons (h.sub s) (RVs.sub s r)
theorem RVs.append {K : PySem.W.Frag} {H : Hp} : ∀ {v v' : List V} {d d' : List DV}, RVs K H v d → RVs K H v' d' → RVs K H (v ++ v') (d ++ d')
  | _, _, _, _, .nil, s => s
  | _, _, _, _, .cons h r, s => .cons h (RVs.append r s)
theorem RVs.get {K : PySem.W.Frag} {H : Hp} : ∀ {v : List V} {d : List DV} {i : Nat} {x : DV}, RVs K H v d → d[i]? = some x → ∃ u, v[i]? = some u ∧ RV K H u x
  | _, _, _, _, .nil, e => by simp at e
  | _, _, 0, _, .cons h _, e => by simp at e; subst e; exact ⟨_, rfl, h⟩
  | _, _, i + 1, x, .cons _ r, e => by
    obtain ⟨u, h1, h2⟩ := RVs.get (i := i) (x := x) r (by simpa using e)
    exact ⟨u, by simpa using h1, h2⟩
theorem RVs.getV {K : PySem.W.Frag} {H : Hp} : ∀ {v : List V} {d : List DV} {i : Nat} {u : V}, RVs K H v d → v[i]? = some u → ∃ x, d[i]? = some x ∧ RV K H u x
  | _, _, _, _, .nil, e => by simp at e
  | _, _, 0, _, .cons h _, e => by simp at e; subst e; exact ⟨_, rfl, h⟩
  | _, _, i + 1, x, .cons _ r, e => by
    obtain ⟨u, h1, h2⟩ := RVs.getV (i := i) (u := x) r (by simpa using e)
    exact ⟨u, by simpa using h1, h2⟩
theorem RVs.set {K : PySem.W.Frag} {H : Hp} {u : V} {x : DV} (h : RV K H u x) : ∀ {v : List V} {d : List DV} (i : Nat), RVs K H v d → RVs K H (v.set i u) (d.set i x)
  | _, _, _, .nil => .nil
  | _, _, 0, .cons _ r => .cons h r
  | _, _, i + 1, .cons q r => .cons q (RVs.set h i r)
theorem RVs.len {K : PySem.W.Frag} {H : Hp} {v : List V} {d : List DV} (r : RVs K H v d) : v.length = d.length := Paired.length r
/-- all data -/
theorem RVs.data {K : PySem.W.Frag} {H : Hp} : ∀ {v : List V} {ds : List PyData}, RVs K H v (ds.map DV.d) → RDs K H v ds
  | [], [], _ => .nil
  | v :: vs, d :: ds, r => by
    cases r with
    | cons h t => exact .cons h (RVs.data t)
theorem RDs.vals {K : PySem.W.Frag} {H : Hp} : ∀ {v : List V} {ds : List PyData}, RDs K H v ds → RVs K H v (ds.map DV.d)
  | _, _, .nil => .nil
  | _, _, .cons h r => .cons h (RDs.vals r)

/-! ### the memory, the slots -/
def RO (K : PySem.W.Frag) (H : Hp) (H0 : Hp) (a : Addr) : MO → Prop
  | .lst xs => ∃ vs, H a = some (.lst vs) ∧ RVs K H0 vs xs
def RepM (K : PySem.W.Frag) (H : Hp) (M : Mem) : Prop := ∀ a o, M a = some o → RO K H (hide H M) a o
def Le (H : Hp) (M : Mem) (H' : Hp) (M' : Mem) : Prop := Sub (hide H M) (hide H' M')
theorem Le.refl (H : Hp) (M : Mem) : Le H M H M := Sub.refl _
theorem Le.trans {H H1 H2 : Hp} {M M1 M2 : Mem} (a : Le H M H1 M1) (b : Le H1 M1 H2 M2) : Le H M H2 M2 := Sub.trans a b
abbrev Slots := List (Option DV)
def RepS (K : PySem.W.Frag) (H0 : Hp) (σ : L2.St) (sl : Slots) : Prop := σ.length = sl.length ∧ ∀ (i : Nat) (x : DV), sl[i]? = some (some x) → ∃ v, σ[i]? = some (some v) ∧ RV K H0 v x
theorem RepS.sub {K : PySem.W.Frag} {H H' : Hp} (s : Sub H H') {σ : L2.St} {sl : Slots} (h : RepS K H σ sl) : RepS K H' σ sl :=
  ⟨h.1, fun i x e => let ⟨v, e1, r⟩ := h.2 i x e; ⟨v, e1, r.sub s⟩⟩
theorem RepS.set {K : PySem.W.Frag} {H : Hp} {σ : L2.St} {sl : Slots} (h : RepS K H σ sl) (i : Nat) {v : V} {x : DV} (r : RV K H v x) : RepS K H (σ.set i (some v)) (sl.set i (some x)) := by
  refine ⟨by simpa using h.1, fun j y e => ?_⟩
  by_cases hj : i = j
  · subst hj
    have hi : i < sl.length := by
      have := (List.getElem?_eq_some_iff.mp e).1
      simpa using this
    rw [List.getElem?_set_self hi] at e
    cases e
    exact ⟨v, by rw [List.getElem?_set_self (by rw [h.1]; exact hi)], r⟩
  · rw [List.getElem?_set_ne hj] at e
    obtain ⟨w, e1, r1⟩ := h.2 j y e
    exact ⟨w, by rw [List.getElem?_set_ne hj]; exact e1, r1⟩

theorem own_none {K : PySem.W.Frag} {H : Hp} {M : Mem} (h : RepM K H M) {p : Addr} (n : H p = none) : M p = none := by
  cases e : M p with
  | none => rfl
  | some o =>
    cases o with
    | lst xs =>
      obtain ⟨vs, q, _⟩ := h p _ e
      rw [q] at n
      cases n
/-- a new object of data -/
theorem le_new {H : Hp} {M : Mem} {p : Addr} {o : HO} (n : H p = none) : Le H M (upd H p o) M := fun a u e => by
  have e1 := hide_sub H M a u e
  refine hide_of ?_ (hide_own e)
  rw [upd_ne (ne_of_none e1 n)]
  exact e1
theorem sub_upd {H : Hp} {p : Addr} {o : HO} (n : H p = none) : Sub H (upd H p o) := fun a u e => by
  rw [upd_ne (ne_of_none e n)]
  exact e
theorem rep_new {K : PySem.W.Frag} {H : Hp} {M : Mem} {p : Addr} {o : HO} (h : RepM K H M) (n : H p = none) : RepM K (upd H p o) M := fun a u e => by
  cases u with
  | lst xs =>
    obtain ⟨vs, q, r⟩ := h a _ e
    exact ⟨vs, sub_upd n _ _ q, RVs.sub (le_new n) r⟩
theorem new_at {K : PySem.W.Frag} {H : Hp} {M : Mem} {p : Addr} {o : HO} (h : RepM K H M) (n : H p = none) : hide (upd H p o) M p = some o := hide_of upd_same (own_none h n)
/-- a new owned list -/
theorem le_own {H : Hp} {M : Mem} {p : Addr} {o : HO} {u : MO} (n : H p = none) : Le H M (upd H p o) (updM M p u) := fun a w e => by
  have e1 := hide_sub H M a w e
  have ne := ne_of_none e1 n
  refine hide_of ?_ ?_
  · rw [upd_ne ne]; exact e1
  · rw [updM_ne ne]; exact hide_own e
theorem rep_own {K : PySem.W.Frag} {H : Hp} {M : Mem} {p : Addr} {vs : List V} {xs : List DV} (h : RepM K H M) (n : H p = none) (r : RVs K (hide H M) vs xs) : RepM K (upd H p (.lst vs)) (updM M p (.lst xs)) := fun a u e => by
  by_cases ha : a = p
  · subst ha
    rw [updM_same] at e
    cases e
    exact ⟨vs, upd_same, RVs.sub (le_own n) r⟩
  · rw [updM_ne ha] at e
    cases u with
    | lst ys =>
      obtain ⟨ws, q, r'⟩ := h a _ e
      exact ⟨ws, by rw [upd_ne ha]; exact q, RVs.sub (le_own n) r'⟩
/-- an owned list is written -/
theorem le_write {H : Hp} {M : Mem} {p : Addr} {o : HO} {u w : MO} (e : M p = some w) : Le H M (upd H p o) (updM M p u) := fun a z q => by
  have ne : a ≠ p := fun c => by subst c; rw [hide_own q] at e; cases e
  refine hide_of ?_ ?_
  · rw [upd_ne ne]; exact hide_sub H M a z q
  · rw [updM_ne ne]; exact hide_own q
theorem rep_write {K : PySem.W.Frag} {H : Hp} {M : Mem} {p : Addr} {w : MO} {vs : List V} {xs : List DV} (h : RepM K H M) (e : M p = some w) (r : RVs K (hide H M) vs xs) : RepM K (upd H p (.lst vs)) (updM M p (.lst xs)) := fun a u q => by
  by_cases ha : a = p
  · subst ha
    rw [updM_same] at q
    cases q
    exact ⟨vs, upd_same, RVs.sub (le_write e) r⟩
  · rw [updM_ne ha] at q
    cases u with
    | lst ys =>
      obtain ⟨ws, q', r'⟩ := h a _ q
      exact ⟨ws, by rw [upd_ne ha]; exact q', RVs.sub (le_write e) r'⟩
/-- an owned list becomes data -/
theorem le_del {K : PySem.W.Frag} {H : Hp} {M : Mem} {p : Addr} : Le H M H (delM M p) := fun a u e => by
  refine hide_of (hide_sub H M a u e) ?_
  unfold delM
  split
  · rfl
  · exact hide_own e
theorem rep_del {K : PySem.W.Frag} {H : Hp} {M : Mem} {p : Addr} (h : RepM K H M) : RepM K H (delM M p) := fun a u e => by
  unfold delM at e
  split at e
  · cases e
  · cases u with
    | lst ys =>
      obtain ⟨ws, q', r'⟩ := h a _ e
      exact ⟨ws, q', RVs.sub (le_del (K := K)) r'⟩

/-! ### looks that do not unfold by themselves -/
@[irreducible] def optP {α : Type} (o : Option α) (k : α → Prop) : Prop := match o with
  | some x => k x
  | none => False
theorem optP_of {α : Type} {o : Option α} {k : α → Prop} {x : α} (e : o = some x) (h : k x) : optP o k := by
  subst e
  unfold optP
  exact h
theorem optP_elim {α : Type} {o : Option α} {k : α → Prop} (h : optP o k) : ∃ x, o = some x ∧ k x := by
  unfold optP at h
  cases o with
  | none => exact h.elim
  | some x => exact ⟨x, rfl, h⟩
@[irreducible] def getL (M : Mem) (p : Addr) (k : List DV → Prop) : Prop := match M p with
  | some (.lst xs) => k xs
  | none => False
theorem getL_of {M : Mem} {p : Addr} {k : List DV → Prop} {xs : List DV} (e : M p = some (.lst xs)) (h : k xs) : getL M p k := by
  unfold getL
  rw [e]
  exact h
theorem getL_elim {M : Mem} {p : Addr} {k : List DV → Prop} (h : getL M p k) : ∃ xs, M p = some (.lst xs) ∧ k xs := by
  unfold getL at h
  cases e : M p with
  | none => rw [e] at h; exact h.elim
  | some o =>
    cases o with
    | lst xs => rw [e] at h; exact ⟨xs, rfl, h⟩

/-! ### readings -/
abbrev KD := DV → Mem → Prop
abbrev TD := Slots → Mem → KD → Prop
abbrev KB := Bool → Mem → Prop
abbrev TTD := Slots → Mem → KB → Prop
abbrev KA := List DV → Mem → Prop
abbrev TAD := Slots → Mem → KA → Prop
structure EndsD where
  nx : Slots → Mem → Prop
  rt : KD
  bk : Slots → Mem → Prop := fun _ _ => False
  ct : Slots → Mem → Prop := fun _ _ => False
abbrev TSD := EndsD → Slots → Mem → Prop

/-- what is wanted behind, from the data's wish -/
def Kt (K : PySem.W.Frag) (H : Hp) (M : Mem) (R : KD) (Q : VK) : Prop := ∀ x M', R x M' → ∀ v H', Le H M H' M' → RepM K H' M' → RV K (hide H' M') v x → Q v H'
def KtB (K : PySem.W.Frag) (H : Hp) (M : Mem) (R : KB) (Q : Bool → Hp → Prop) : Prop := ∀ x M', R x M' → ∀ H', Le H M H' M' → RepM K H' M' → Q x H'
def KtA (K : PySem.W.Frag) (H : Hp) (M : Mem) (R : KA) (Q : List V → Hp → Prop) : Prop := ∀ x M', R x M' → ∀ v H', Le H M H' M' → RepM K H' M' → RVs K (hide H' M') v x → Q v H'
def KtS (K : PySem.W.Frag) (H : Hp) (M : Mem) (R : Slots → Mem → Prop) (Q : L2.St → Hp → Prop) : Prop := ∀ sl M', R sl M' → ∀ σ H', Le H M H' M' → RepM K H' M' → RepS K (hide H' M') σ sl → Q σ H'
theorem Kt.le {K : PySem.W.Frag} {H H1 : Hp} {M M1 : Mem} {R : KD} {Q : VK} (k : Kt K H M R Q) (l : Le H M H1 M1) : Kt K H1 M1 R Q := fun x M' r v H' l' => k x M' r v H' (l.trans l')
theorem KtB.le {K : PySem.W.Frag} {H H1 : Hp} {M M1 : Mem} {R : KB} {Q : Bool → Hp → Prop} (k : KtB K H M R Q) (l : Le H M H1 M1) : KtB K H1 M1 R Q := fun x M' r H' l' => k x M' r H' (l.trans l')
theorem KtA.le {K : PySem.W.Frag} {H H1 : Hp} {M M1 : Mem} {R : KA} {Q : List V → Hp → Prop} (k : KtA K H M R Q) (l : Le H M H1 M1) : KtA K H1 M1 R Q := fun x M' r v H' l' => k x M' r v H' (l.trans l')
theorem KtS.le {K : PySem.W.Frag} {H H1 : Hp} {M M1 : Mem} {R : Slots → Mem → Prop} {Q : L2.St → Hp → Prop} (k : KtS K H M R Q) (l : Le H M H1 M1) : KtS K H1 M1 R Q := fun x M' r v H' l' => k x M' r v H' (l.trans l')

def liftE (K : PySem.W.Frag) (t : TD) : TE := fun σ H Q => ∃ sl M R, RepS K (hide H M) σ sl ∧ RepM K H M ∧ t sl M R ∧ Kt K H M R Q
def liftT (K : PySem.W.Frag) (t : TTD) : TT := fun σ H Q => ∃ sl M R, RepS K (hide H M) σ sl ∧ RepM K H M ∧ t sl M R ∧ KtB K H M R Q
def liftA (K : PySem.W.Frag) (t : TAD) : TA := fun σ H Q => ∃ sl M R, RepS K (hide H M) σ sl ∧ RepM K H M ∧ t sl M R ∧ KtA K H M R Q
def liftS (K : PySem.W.Frag) (t : TSD) : TS := fun D σ H => ∃ sl M E, RepS K (hide H M) σ sl ∧ RepM K H M ∧ t E sl M ∧ KtS K H M E.nx D.nx ∧ Kt K H M E.rt D.rt ∧ KtS K H M E.bk D.bk ∧ KtS K H M E.ct D.ct
abbrev DE (X : Cx) (e : Expr) (t : TD) : Prop := PE X e (liftE X.K t)
abbrev DT (X : Cx) (e : Expr) (t : TTD) : Prop := PT X e (liftT X.K t)
abbrev DW (X : Cx) (e : Expr) (t : TTD) : Prop := PW X e (liftT X.K t)
abbrev DA (X : Cx) (es : List Expr) (t : TAD) : Prop := PA X es (liftA X.K t)
abbrev DS (X : Cx) (st : Stmt) (t : TSD) : Prop := PS X st (liftS X.K t)
abbrev DSs (X : Cx) (st : List Stmt) (t : TSD) : Prop := PSs X st (liftS X.K t)
section
variable {X : Cx} {e : Expr} {es : List Expr} {st : Stmt} {sts : List Stmt}
theorem PE.imp {t u : TE} (h : PE X e t) (i : ∀ σ H Q, u σ H Q → t σ H Q) : PE X e u := ⟨fun pins s σ H Q I q => h.run pins s σ H Q I (i σ H Q q)⟩
theorem PT.imp {t u : TT} (h : PT X e t) (i : ∀ σ H Q, u σ H Q → t σ H Q) : PT X e u := ⟨fun pins s σ H Q I q => h.run pins s σ H Q I (i σ H Q q)⟩
theorem PW.imp {t u : TT} (h : PW X e t) (i : ∀ σ H Q, u σ H Q → t σ H Q) : PW X e u := ⟨fun wh pins s σ H Q I q => h.run wh pins s σ H Q I (i σ H Q q)⟩
theorem PA.imp {t u : TA} (h : PA X es t) (i : ∀ σ H Q, u σ H Q → t σ H Q) : PA X es u := ⟨fun pos pins s σ H Q I q => h.run pos pins s σ H Q I (i σ H Q q)⟩
theorem PS.imp {t u : TS} (h : PS X st t) (i : ∀ D σ H, u D σ H → t D σ H) : PS X st u := ⟨fun pins s σ H D I q => h.run pins s σ H D I (i D σ H q)⟩
theorem PSs.imp {t u : TS} (h : PSs X sts t) (i : ∀ D σ H, u D σ H → t D σ H) : PSs X sts u := ⟨fun pins s σ H D I q => h.run pins s σ H D I (i D σ H q)⟩
end
end DL

/-! The data layer: expressions. -/
namespace DL
open PySem PySem.Spec PyProof.Rows L2
section
variable {X : Cx} {a b c e : Expr} {es : List Expr} {pos : Pos} {ta tb tc te : TD} {tA tB' : TTD}

/-! ### names and constants -/
def dVar (i : Nat) : TD := fun sl M R => match sl[i]? with
  | some (some x) => R x M
  | _ => False
def dC (x : DV) : TD := fun _ M R => R x M
theorem de_var (i : Nat) {x : Str} {pos : Pos} (hN : X.N[i]? = some x := by rfl) (hv : Vis X.env.scope x := by first | exact Or.inl rfl | exact Or.inr (Or.inl rfl) | exact Or.inr (Or.inr rfl)) (hd : (x == ("__debug__" : Str)) = false := by decide)
    (hcd : (x == ("__classdict__" : Str)) = false := by decide) : DE X (.Name x pos) (dVar i) :=
  PE.imp (pe_var hN hv hd hcd) fun σ H Q ⟨sl, M, R, hs, hm, ht, k⟩ => by
    unfold dVar at ht
    split at ht
    · rename_i x e
      obtain ⟨v, e1, r⟩ := hs.2 i x e
      exact ⟨v, e1, k x M ht v H (Le.refl _ _) hm r⟩
    · exact ht.elim
/-- an expression whose value is written down -/
theorem de_const {v : V} {x : DV} (h : PE X e (tC v)) (r : ∀ H, RV X.K H v x) : DE X e (dC x) :=
  PE.imp h fun σ H Q ⟨sl, M, R, hs, hm, ht, k⟩ => k x M ht v H (Le.refl _ _) hm (r _)
theorem de_int {i : Int} {j pos} : DE X (.Constant (.int i) j pos) (dC (.d (.int i))) := de_const pe_int fun _ => .int i
theorem de_bl {i : Bool} {j pos} : DE X (.Constant (.bool i) j pos) (dC (.d (.bool i))) := de_const pe_bl fun _ => .bl i
theorem de_non {j pos} : DE X (.Constant .none j pos) (dC (.d .none)) := de_const pe_non fun _ => .non
theorem de_str {x : Str} {j pos} : DE X (.Constant (.str x) j pos) (dC (.d (.str x))) := de_const pe_str fun _ => .str x
/-- a global constant that holds data (or any thing) -/
theorem de_glob {x : Str} {v : V} {u : Value} {d : DV} {pos : Pos} (hg : Gl X x) (hm : X.mg x = some u) (r : RelV v u) (rd : ∀ H, RV X.K H v d) (hd : (x == ("__debug__" : Str)) = false := by decide) : DE X (.Name x pos) (dC d) :=
  de_const (pe_glob hg hm r hd) rd

/-! ### two-place operations -/
abbrev G2 := DV → DV → Mem → KD → Prop
def lift2 (K : PySem.W.Frag) (g : G2) : R2 := fun x y H Q => ∃ dx dy M R, RepM K H M ∧ RV K (hide H M) x dx ∧ RV K (hide H M) y dy ∧ g dx dy M R ∧ Kt K H M R Q
abbrev OpD (X : Cx) (f : Value → Value → Sem Value) (g : G2) : Prop := OpR X f (lift2 X.K g)
def dOp (g : G2) (ta tb : TD) : TD := fun sl M R => ta sl M fun x M1 => tb sl M1 fun y M2 => g x y M2 R
theorem op_imp {g : G2} {σ : L2.St} {H : Hp} {Q : VK} (h : liftE X.K (dOp g ta tb) σ H Q) : tOp (lift2 X.K g) (liftE X.K ta) (liftE X.K tb) σ H Q := by
  obtain ⟨sl, M, R, hs, hm, ht, k⟩ := h
  exact ⟨sl, M, _, hs, hm, ht, fun x M1 h1 v H1 l1 m1 r1 => ⟨sl, M1, _, hs.sub l1, m1, h1, fun y M2 h2 u H2 l2 m2 r2 => ⟨x, y, M2, R, m2, r1.sub l2, r2, h2, k.le (l1.trans l2)⟩⟩⟩
theorem de_op {op : Operator} {g : G2} (ho : OpD X (binaryOp op) g) (ha : DE X a ta) (hb : DE X b tb) : DE X (.BinOp a op b pos) (dOp g ta tb) :=
  PE.imp (pe_op ho ha hb) fun _ _ _ h => op_imp h
theorem de_cmp {op : CmpOp} {g : G2} (ho : OpD X (compareOp op) g) (ha : DE X a ta) (hb : DE X b tb) (hm : behindInMarks op b = false) : DE X (.Compare a [op] [b] pos) (dOp g ta tb) :=
  PE.imp (pe_cmpR ho ha hb hm) fun _ _ _ h => op_imp h
/-- a value as a test: a bool -/
def dB (t : TD) : TTD := fun sl M R => t sl M fun x M1 => match x with
  | .d (.bool k) => R k M1
  | _ => False
theorem dB_imp {t : TD} {σ : L2.St} {H : Hp} {Q : Bool → Hp → Prop} (h : liftT X.K (dB t) σ H Q) : liftE X.K t σ H fun x H' => ∃ k, x = .bl k ∧ Q k H' := by
  obtain ⟨sl, M, R, hs, hm, ht, k⟩ := h
  refine ⟨sl, M, _, hs, hm, ht, fun x M1 h1 v H1 l1 m1 r1 => ?_⟩
  split at h1
  · cases r1
    exact ⟨_, rfl, k _ M1 h1 H1 l1 m1⟩
  · exact h1.elim
theorem dt_cmp {op : CmpOp} {g : G2} (ho : OpD X (compareOp op) g) (ha : DE X a ta) (hb : DE X b tb) (hm : behindInMarks op b = false) : DT X (.Compare a [op] [b] pos) (dB (dOp g ta tb)) :=
  PT.imp (pt_cmpR ho ha hb hm) fun σ H Q h => op_imp (dB_imp h)
theorem dt_val (h : DE X e te) (he : ∀ whole, isTrue e X.env whole = (do let v ← whole; standAt e.pos; holding [v] (truthy v)) := by intro _; rfl) : DT X e (dB te) :=
  PT.imp (pt_val h he) fun σ H Q h => dB_imp h

/-! ### and, or, not, if -/
def dAnd (t u : TTD) : TTD := fun sl M R => t sl M fun k M1 => if k = true then u sl M1 R else R false M1
def dOr (t u : TTD) : TTD := fun sl M R => t sl M fun k M1 => if k = true then R true M1 else u sl M1 R
def dNot (t : TTD) : TTD := fun sl M R => t sl M fun k M1 => R (!k) M1
variable {rest : List Expr}
theorem dw_and1 (h : DT X a tA) : DW X (.BoolOp .And [a] pos) tA := pw_and1 h
theorem dw_or1 (h : DT X a tA) : DW X (.BoolOp .Or [a] pos) tA := pw_or1 h
theorem dw_and (ha : DT X a tA) (hb : DW X (.BoolOp .And (b :: rest) pos) tB') : DW X (.BoolOp .And (a :: b :: rest) pos) (dAnd tA tB') :=
  PW.imp (pw_and ha hb) fun σ H Q ⟨sl, M, R, hs, hm, ht, k⟩ => ⟨sl, M, _, hs, hm, ht, fun x M1 h1 H1 l1 m1 => by
    cases x with
    | true => exact ⟨sl, M1, R, hs.sub l1, m1, h1, k.le l1⟩
    | false => exact k _ M1 h1 H1 l1 m1⟩
theorem dw_or (ha : DT X a tA) (hb : DW X (.BoolOp .Or (b :: rest) pos) tB') : DW X (.BoolOp .Or (a :: b :: rest) pos) (dOr tA tB') :=
  PW.imp (pw_or ha hb) fun σ H Q ⟨sl, M, R, hs, hm, ht, k⟩ => ⟨sl, M, _, hs, hm, ht, fun x M1 h1 H1 l1 m1 => by
    cases x with
    | false => exact ⟨sl, M1, R, hs.sub l1, m1, h1, k.le l1⟩
    | true => exact k _ M1 h1 H1 l1 m1⟩
theorem dt_not (h : DT X a tA) : DT X (.UnaryOp .Not a pos) (dNot tA) :=
  PT.imp (pt_not h) fun σ H Q ⟨sl, M, R, hs, hm, ht, k⟩ => ⟨sl, M, _, hs, hm, ht, fun x M1 h1 H1 l1 m1 => k _ M1 h1 H1 l1 m1⟩
theorem dt_w (h : DW X e tA) : DT X e tA := PW.pt h
def dIf (t : TTD) (ta tb : TD) : TD := fun sl M R => t sl M fun k M1 => if k = true then ta sl M1 R else tb sl M1 R
theorem de_if (hc : DT X c tA) (ha : DE X a ta) (hb : DE X b tb) : DE X (.IfExp c a b pos) (dIf tA ta tb) :=
  PE.imp (pe_ifExp hc ha hb) fun σ H Q ⟨sl, M, R, hs, hm, ht, k⟩ => ⟨sl, M, _, hs, hm, ht, fun x M1 h1 H1 l1 m1 => by
    cases x with
    | true => exact ⟨sl, M1, R, hs.sub l1, m1, h1, k.le l1⟩
    | false => exact ⟨sl, M1, R, hs.sub l1, m1, h1, k.le l1⟩⟩
/-- and, or, not as values (bools, but the last) -/
def dAndV (ta tb : TD) : TD := fun sl M R => ta sl M fun x M1 => match x with
  | .d (.bool k) => if k = true then tb sl M1 R else R (.d (.bool false)) M1
  | _ => False
def dOrV (ta tb : TD) : TD := fun sl M R => ta sl M fun x M1 => match x with
  | .d (.bool k) => if k = true then R (.d (.bool true)) M1 else tb sl M1 R
  | _ => False
def dNotV (ta : TD) : TD := fun sl M R => ta sl M fun x M1 => match x with
  | .d (.bool k) => R (.d (.bool (!k))) M1
  | _ => False
theorem de_one {op} (h : DE X a ta) : DE X (.BoolOp op [a] pos) ta := pe_one h
theorem de_and (ha : DE X a ta) (hb : DE X (.BoolOp .And (b :: rest) pos) tb) : DE X (.BoolOp .And (a :: b :: rest) pos) (dAndV ta tb) :=
  PE.imp (pe_and ha hb) fun σ H Q ⟨sl, M, R, hs, hm, ht, k⟩ => ⟨sl, M, _, hs, hm, ht, fun x M1 h1 v H1 l1 m1 r1 => by
    split at h1
    · rename_i kk
      cases r1
      refine ⟨_, rfl, ?_⟩
      cases kk with
      | true => exact ⟨sl, M1, R, hs.sub l1, m1, h1, k.le l1⟩
      | false => exact k _ M1 h1 _ H1 l1 m1 (.bl _)
    · exact h1.elim⟩
theorem de_or (ha : DE X a ta) (hb : DE X (.BoolOp .Or (b :: rest) pos) tb) : DE X (.BoolOp .Or (a :: b :: rest) pos) (dOrV ta tb) :=
  PE.imp (pe_or ha hb) fun σ H Q ⟨sl, M, R, hs, hm, ht, k⟩ => ⟨sl, M, _, hs, hm, ht, fun x M1 h1 v H1 l1 m1 r1 => by
    split at h1
    · rename_i kk
      cases r1
      refine ⟨_, rfl, ?_⟩
      cases kk with
      | false => exact ⟨sl, M1, R, hs.sub l1, m1, h1, k.le l1⟩
      | true => exact k _ M1 h1 _ H1 l1 m1 (.bl _)
    · exact h1.elim⟩
theorem de_not (ha : DE X a ta) : DE X (.UnaryOp .Not a pos) (dNotV ta) :=
  PE.imp (pe_not ha) fun σ H Q ⟨sl, M, R, hs, hm, ht, k⟩ => ⟨sl, M, _, hs, hm, ht, fun x M1 h1 v H1 l1 m1 r1 => by
    split at h1
    · cases r1
      exact ⟨_, rfl, k _ M1 h1 _ H1 l1 m1 (.bl _)⟩
    · exact h1.elim⟩

/-! ### operations on data -/
def g2 (f : PyData → PyData → Mem → KD → Prop) : G2
  | .d x, .d y, M, R => f x y M R
  | _, _, _, _ => False
theorem opd {f : Value → Value → Sem Value} {g : PyData → PyData → Mem → KD → Prop}
    (h : ∀ pins s σ H x y v u Q dx dy M R, Inv X pins σ H s → RelV x v → RelV y u → RepM X.K H M → RD X.K (hide H M) x dx → RD X.K (hide H M) y dy → g dx dy M R → Kt X.K H M R Q → wpAny (model X.prog X.w) X.A (f v u) (EP X pins σ Q) X.xe s) :
    OpD X f (g2 g) := by
  intro pins s σ H x y v u Q I rx ry hh
  obtain ⟨dx, dy, M, R, hm, r1, r2, hg, k⟩ := hh
  cases dx with
  | raw _ => exact hg.elim
  | scr _ => exact hg.elim
  | d dx =>
    cases dy with
    | raw _ => exact hg.elim
    | scr _ => exact hg.elim
    | d dy => exact h pins s σ H x y v u Q dx dy M R I rx ry hm r1 r2 hg k
theorem kt_same {K : PySem.W.Frag} {H : Hp} {M : Mem} {R : KD} {Q : VK} {x : DV} {v : V} (k : Kt K H M R Q) (hm : RepM K H M) (h : R x M) (r : RV K (hide H M) v x) : Q v H := k x M h v H (Le.refl _ _) hm r
/-- a new object of data -/
theorem kt_new {K : PySem.W.Frag} {H : Hp} {M : Mem} {R : KD} {Q : VK} {x : DV} {o : HO} {p : Addr} (k : Kt K H M R Q) (hm : RepM K H M) (n : H p = none) (h : R x M) (r : RV K (hide (upd H p o) M) (.ref p) x) : Q (.ref p) (upd H p o) :=
  k x M h _ _ (le_new n) (rep_new hm n) r
theorem rd_tupN {K : PySem.W.Frag} {H : Hp} {M : Mem} {p : Addr} {xs : List V} {ds : List PyData} (hm : RepM K H M) (n : H p = none) (r : RDs K (hide H M) xs ds) : RD K (hide (upd H p (.tup xs)) M) (.ref p) (.tuple ds) :=
  .tup (SqT.of (new_at hm n)) (RDs.sub (le_new n) r)
theorem rd_lstN {K : PySem.W.Frag} {H : Hp} {M : Mem} {p : Addr} {xs : List V} {ds : List PyData} (hm : RepM K H M) (n : H p = none) (r : RDs K (hide H M) xs ds) : RD K (hide (upd H p (.lst xs)) M) (.ref p) (.list ds) :=
  .lst (new_at hm n) (RDs.sub (le_new n) r)

def intOp (f : Int → Int → Int) : PyData → PyData → Mem → KD → Prop
  | .int i, .int j, M, R => R (.d (.int (f i j))) M
  | _, _, _, _ => False
def intCmp (f : Int → Int → Bool) : PyData → PyData → Mem → KD → Prop
  | .int i, .int j, M, R => R (.d (.bool (f i j))) M
  | _, _, _, _ => False
def addD : PyData → PyData → Mem → KD → Prop
  | .int i, .int j, M, R => R (.d (.int (i + j))) M
  | .str x, .str y, M, R => x.length + y.length ≤ sizeLine ∧ R (.d (.str (x ++ y))) M
  | .tuple x, .tuple y, M, R => x.length + y.length ≤ sizeLine ∧ R (.d (.tuple (x ++ y))) M
  | .list x, .list y, M, R => x.length + y.length ≤ sizeLine ∧ R (.d (.list (x ++ y))) M
  | _, _, _, _ => False
theorem od_add : OpD X (binaryOp .Add) (g2 addD) := opd fun pins s σ H x y v u Q dx dy M R I rv ru hm rx ry hg k => by
  cases rx with
  | int i =>
    cases ry with
    | int j => exact op_add pins s σ H _ _ v u Q I rv ru ⟨i, j, rfl, rfl, kt_same k hm hg (.int _)⟩
    | _ => exact hg.elim
  | str i =>
    cases ry with
    | str j => exact op_add_str pins s σ H _ _ v u Q I rv ru ⟨i, j, rfl, rfl, hg.1, kt_same k hm hg.2 (.str _)⟩
    | _ => exact hg.elim
  | tup h1 r1 =>
    cases ry with
    | tup h2 r2 =>
      rename_i a xs ds b ys es
      have l1 := r1.len
      have l2 := r2.len
      refine op_catA pins s σ H _ _ v u Q I rv ru ⟨_, _, _, _, rfl, rfl, sqT_sub (hide_sub _ _) h1, sqT_sub (hide_sub _ _) h2, by rw [l1, l2]; exact hg.1, fun z => ?_, fun _ z => ?_, fun _ _ p n => ?_⟩
      · subst z
        cases r1
        exact kt_same k hm hg.2 (.tup h2 (by simpa using r2))
      · subst z
        cases r2
        exact kt_same k hm hg.2 (.tup h1 (by simpa using r1))
      · exact kt_new k hm n hg.2 (rd_tupN hm n (r1.append r2))
    | _ => exact hg.elim
  | lst h1 r1 =>
    cases ry with
    | lst h2 r2 =>
      have l1 := r1.len
      have l2 := r2.len
      exact op_cat pins s σ H _ _ v u Q I rv ru ⟨_, _, _, _, rfl, rfl, hide_sub _ _ _ _ h1, hide_sub _ _ _ _ h2, by rw [l1, l2]; exact hg.1, fun p n => kt_new k hm n hg.2 (rd_lstN hm n (r1.append r2))⟩
    | _ => exact hg.elim
  | _ => exact hg.elim
theorem od_int {f : Value → Value → Sem Value} {g : Int → Int → Int} (h : OpR X f (rI0 fun i j => .int (g i j))) : OpD X f (g2 (intOp g)) := opd fun pins s σ H x y v u Q dx dy M R I rv ru hm rx ry hg k => by
  cases rx with
  | int i =>
    cases ry with
    | int j => exact h pins s σ H _ _ v u Q I rv ru ⟨i, j, rfl, rfl, kt_same k hm hg (.int _)⟩
    | _ => exact hg.elim
  | _ => exact hg.elim
theorem od_cmpI {f : Value → Value → Sem Value} {g : Int → Int → Bool} (h : OpR X f (rI0 fun i j => .bl (g i j))) : OpD X f (g2 (intCmp g)) := opd fun pins s σ H x y v u Q dx dy M R I rv ru hm rx ry hg k => by
  cases rx with
  | int i =>
    cases ry with
    | int j => exact h pins s σ H _ _ v u Q I rv ru ⟨i, j, rfl, rfl, kt_same k hm hg (.bl _)⟩
    | _ => exact hg.elim
  | _ => exact hg.elim
def intOpC (C : Int → Int → Prop) (f : Int → Int → Int) : PyData → PyData → Mem → KD → Prop
  | .int i, .int j, M, R => C i j ∧ R (.d (.int (f i j))) M
  | _, _, _, _ => False
theorem od_intC {f : Value → Value → Sem Value} {C : Int → Int → Prop} {g : Int → Int → Int} (h : OpR X f (rI C fun i j => .int (g i j))) : OpD X f (g2 (intOpC C g)) := opd fun pins s σ H x y v u Q dx dy M R I rv ru hm rx ry hg k => by
  cases rx with
  | int i =>
    cases ry with
    | int j => exact h pins s σ H _ _ v u Q I rv ru ⟨i, j, rfl, rfl, hg.1, kt_same k hm hg.2 (.int _)⟩
    | _ => exact hg.elim
  | _ => exact hg.elim
theorem od_sub : OpD X (binaryOp .Sub) (g2 (intOp (· - ·))) := od_int op_sub
theorem od_mod : OpD X (binaryOp .Mod) (g2 (intOpC (fun _ j => 0 < j) (· % ·))) := od_intC op_mod
theorem od_fdiv : OpD X (binaryOp .FloorDiv) (g2 (intOpC CDivW (· / ·))) := od_intC op_fdivW
theorem od_pow : OpD X (binaryOp .Pow) (g2 (intOpC CPow fun i j => i ^ j.toNat)) := od_intC op_pow
theorem od_gt : OpD X (compareOp .Gt) (g2 (intCmp fun i j => decide (j < i))) := od_cmpI op_gt
theorem od_ge : OpD X (compareOp .GtE) (g2 (intCmp fun i j => decide (j ≤ i))) := od_cmpI op_ge
theorem od_le : OpD X (compareOp .LtE) (g2 (intCmp fun i j => decide (i ≤ j))) := od_cmpI op_le

/-! ### ==, != and < of data -/
mutual
/-- no list within -/
def lstFree : PyData → Bool
  | .list _ => false
  | .tuple xs => lstFreeAll xs
  | .dict kvs => lstFreeKv kvs
  | _ => true
def lstFreeAll : List PyData → Bool
  | [] => true
  | x :: xs => lstFree x && lstFreeAll xs
def lstFreeKv : List (PyData × PyData) → Bool
  | [] => true
  | (_, v) :: r => lstFree v && lstFreeKv r
end
theorem key_reads {h : Heap} : ∀ {k : Key} {v : Value}, keyIs k v = true → Reads h v (keyD k) [] := fun {k v} e => by
  rcases keyIs_shape e with ⟨i, t, rfl, rfl⟩ | ⟨x, t, rfl, rfl⟩
  · exact Reads.int i t
  · exact Reads.str x t
section
variable {pins : List (Addr × Obj)} {σ : L2.St} {H : Hp} {s : Shared}
mutual
theorem RD.readsI (I : Inv X pins σ H s) : ∀ {v : V} {d : PyData}, RD X.K H v d → ∀ u, RelV v u → ∃ as, Reads s.heap u d as ∧ (lstFree d = true → sysModules ∉ as)
  | _, _, .non, u, r => by cases r; exact ⟨_, Reads.none, fun _ => List.not_mem_nil⟩
  | _, _, .bl b, u, r => by cases r; exact ⟨_, Reads.bool b, fun _ => List.not_mem_nil⟩
  | _, _, .int i, u, r => by obtain ⟨t, rfl⟩ := r; exact ⟨_, Reads.int i t, fun _ => List.not_mem_nil⟩
  | _, _, .str x, u, r => by obtain ⟨t, rfl⟩ := r; exact ⟨_, Reads.str x t, fun _ => List.not_mem_nil⟩
  | _, _, .lst h q, u, r => by
    cases r
    obtain ⟨its, rv, ⟨o, n, ho, hc, _, hd⟩, _⟩ := I.list (SqL.of h)
    obtain ⟨as, hr, _⟩ := RDs.readsI I q its rv
    exact ⟨_, Reads.list ho hc hd hr, fun h => (by simp [lstFree] at h)⟩
  | _, _, .tup h q, u, r => by
    cases r
    obtain ⟨its, rv, ⟨o, ho, hc, n, hd⟩, _⟩ := I.tuple h
    obtain ⟨as, hr, hn⟩ := RDs.readsI I q its rv
    exact ⟨_, Reads.tuple ho hc hd hr, fun h => hn (by simpa [lstFree] using h)⟩
  | _, _, .dct h q, u, r => by
    cases r
    obtain ⟨_, hsm, vs, rel, o, es, ep, ho, hx, hd, _, hp, _⟩ := dk_of I.hok h
    obtain ⟨as, bs, h1, h2, hn⟩ := RKs.readsI I q vs es.toList rel hp
    refine ⟨_, Reads.dict ho hx.1 hd h1 h2, fun hl => ?_⟩
    obtain ⟨n1, n2⟩ := hn (by simpa [lstFree] using hl)
    have n0 : ¬ sysModules = _ := fun e => (beq_eq_false_iff_ne.mp hsm) e.symm
    intro hm
    rcases List.mem_append.mp hm with hm | hm
    · rcases List.mem_cons.mp hm with hm | hm
      · exact n0 hm
      · exact n1 hm
    · exact n2 hm
theorem RKs.readsI (I : Inv X pins σ H s) : ∀ {kvs : List (Key × V)} {kds : List (PyData × PyData)}, RKs X.K H kvs kds → ∀ (vs : List (Key × Value)) (es : List DictEntry), KV kvs vs → Pairs (mixKind X.prog X.w) es vs →
    ∃ as bs, ReadsAll s.heap (es.map (·.key)) (kds.map (·.1)) as ∧ ReadsAll s.heap (es.map (·.val)) (kds.map (·.2)) bs ∧ (lstFreeKv kds = true → sysModules ∉ as ∧ sysModules ∉ bs)
  | _, _, .nil, vs, es, r, p => by
    cases r
    cases p
    exact ⟨[], [], .nil, .nil, fun _ => ⟨List.not_mem_nil, List.not_mem_nil⟩⟩
  | _, _, .cons h q, vs, es, r, p => by
    cases r with
    | cons r1 r2 =>
      cases p with
      | cons p1 p2 p3 =>
        obtain ⟨as, bs, h1, h2, hn⟩ := RKs.readsI I q _ _ r2 p3
        obtain ⟨cs, h3, hm⟩ := RD.readsI I h _ r1.2
        rw [← p2] at h3
        refine ⟨_, _, .cons (key_reads (by have z := p1; rw [← r1.1] at z; exact z)) h1, .cons h3 h2, fun hl => ?_⟩
        have hl' := hl
        simp only [lstFreeKv, Bool.and_eq_true] at hl'
        obtain ⟨n1, n2⟩ := hn hl'.2
        refine ⟨n1, fun hq => ?_⟩
        rcases List.mem_append.mp hq with hq | hq
        · exact hm hl'.1 hq
        · exact n2 hq
theorem RDs.readsI (I : Inv X pins σ H s) : ∀ {vs : List V} {ds : List PyData}, RDs X.K H vs ds → ∀ us, Vals vs us → ∃ as, ReadsAll s.heap us ds as ∧ (lstFreeAll ds = true → sysModules ∉ as)
  | _, _, .nil, us, r => by cases r; exact ⟨_, ReadsAll.nil, fun _ => List.not_mem_nil⟩
  | _, _, .cons h q, us, r => by
    cases r with
    | cons r1 r2 =>
      obtain ⟨as, q1, n1⟩ := RD.readsI I h _ r1
      obtain ⟨bs, q2, n2⟩ := RDs.readsI I q _ r2
      refine ⟨_, ReadsAll.cons q1 q2, fun hl => ?_⟩
      have hl' := hl
      simp only [lstFreeAll, Bool.and_eq_true] at hl'
      intro hm
      rcases List.mem_append.mp hm with hm | hm
      · exact n1 hl'.1 hm
      · exact n2 hl'.2 hm
end
end
theorem RD.readsF {pins : List (Addr × Obj)} {σ : L2.St} {H : Hp} {s : Shared} {M : Mem} (I : Inv X pins σ H s) {v : V} {u : Value} {d : PyData} (r : RD X.K (hide H M) v d) (ru : RelV v u) : ∃ as, Reads s.heap u d as ∧ (lstFree d = true → sysModules ∉ as) :=
  RD.readsI I (RD.sub (hide_sub H M) r) u ru
theorem RD.reads {pins : List (Addr × Obj)} {σ : L2.St} {H : Hp} {s : Shared} {M : Mem} (I : Inv X pins σ H s) {v : V} {u : Value} {d : PyData} (r : RD X.K (hide H M) v d) (ru : RelV v u) : ∃ as, Reads s.heap u d as :=
  let ⟨as, h, _⟩ := RD.readsF I r ru
  ⟨as, h⟩
/-- what == asks -/
structure EqOk (x y : PyData) : Prop where
  l : x.plain = true
  r : y.plain = true
  d : min x.depth y.depth ≤ 60
def eqD : PyData → PyData → Mem → KD → Prop
  | .int i, .int j, M, R => R (.d (.bool (decide (i = j)))) M
  | .str i, .str j, M, R => R (.d (.bool (decide (i = j)))) M
  | x, y, M, R => EqOk x y ∧ R (.d (.bool (PyData.eqv x y))) M
def neD : PyData → PyData → Mem → KD → Prop
  | .int i, .int j, M, R => R (.d (.bool (!decide (i = j)))) M
  | .str i, .str j, M, R => R (.d (.bool (!decide (i = j)))) M
  | x, y, M, R => EqOk x y ∧ R (.d (.bool (!PyData.eqv x y))) M
theorem eqv_int (i j : Int) : PyData.eqv (.int i) (.int j) = decide (i = j) := by
  unfold PyData.eqv
  exact Bool.beq_eq_decide_eq _ _
theorem eqv_str (i j : Str) : PyData.eqv (.str i) (.str j) = decide (i = j) := by
  unfold PyData.eqv
  exact Bool.beq_eq_decide_eq _ _
theorem eqD_all {x y : PyData} {M : Mem} {R : KD} (h : eqD x y M R) : EqOk x y ∧ R (.d (.bool (PyData.eqv x y))) M := by
  cases x <;> cases y <;> first
    | exact h
    | (rw [eqv_int]; exact ⟨⟨rfl, rfl, Nat.zero_le _⟩, h⟩)
    | (rw [eqv_str]; exact ⟨⟨rfl, rfl, Nat.zero_le _⟩, h⟩)
theorem neD_all {x y : PyData} {M : Mem} {R : KD} (h : neD x y M R) : EqOk x y ∧ R (.d (.bool (!PyData.eqv x y))) M := by
  cases x <;> cases y <;> first
    | exact h
    | (rw [eqv_int]; exact ⟨⟨rfl, rfl, Nat.zero_le _⟩, h⟩)
    | (rw [eqv_str]; exact ⟨⟨rfl, rfl, Nat.zero_le _⟩, h⟩)
theorem od_eq {k : Nat} (hr : Room k X.A) : OpD X (compareOp .Eq) (g2 eqD) := opd fun pins s σ H x y v u Q dx dy M R I rv ru hm rx ry hg k => by
  obtain ⟨as, r1⟩ := rx.reads I rv
  obtain ⟨bs, r2⟩ := ry.reads I ru
  have hu := hr.units
  have hg := eqD_all hg
  refine SeqAt.eq_plain r1 r2 hg.1.l hg.1.r (by have := hg.1.d; omega) ⟨.bl _, H, I, rfl, kt_same k hm hg.2 (.bl _)⟩
theorem od_ne {k : Nat} (hr : Room k X.A) : OpD X (compareOp .NotEq) (g2 neD) := opd fun pins s σ H x y v u Q dx dy M R I rv ru hm rx ry hg k => by
  obtain ⟨as, r1⟩ := rx.reads I rv
  obtain ⟨bs, r2⟩ := ry.reads I ru
  have hu := hr.units
  have hg := neD_all hg
  refine SeqAt.ne_plain r1 r2 hg.1.l hg.1.r (by have := hg.1.d; omega) ⟨.bl _, H, I, rfl, kt_same k hm hg.2 (.bl _)⟩
end
end DL

/-! The data layer: arguments, displays, subscripts, slices, calls. -/
namespace DL
open PySem PySem.Spec PyProof.Rows L2
section
variable {X : Cx} {a b c e : Expr} {es : List Expr} {pos : Pos} {ta tb tc te : TD} {tas : TAD}

def ltD : PyData → PyData → Mem → KD → Prop
  | .int i, .int j, M, R => R (.d (.bool (decide (i < j)))) M
  | x, y, M, R => PySem.W.alike x y = true ∧ x ≠ .none ∧ min x.depth y.depth ≤ 60 ∧ R (.d (.bool (PySem.W.dataLt x y))) M
theorem ltD_all {x y : PyData} {M : Mem} {R : KD} (h : ltD x y M R) : PySem.W.alike x y = true ∧ x ≠ .none ∧ min x.depth y.depth ≤ 60 ∧ R (.d (.bool (PySem.W.dataLt x y))) M := by
  cases x <;> cases y <;> first
    | exact h
    | (rw [PySem.W.dataLt_int]; exact ⟨rfl, by simp, Nat.zero_le _, h⟩)
theorem od_lt {k : Nat} (hr : Room k X.A) : OpD X (compareOp .Lt) (g2 ltD) := opd fun pins s σ H x y v u Q dx dy M R I rv ru hm rx ry hg k => by
  obtain ⟨as, r1⟩ := rx.reads I rv
  obtain ⟨bs, r2⟩ := ry.reads I ru
  have hu := hr.units
  have hg := ltD_all hg
  refine PySem.W.lt_data r1 r2 hg.1 hg.2.1 (by have := hg.2.2.1; omega) ⟨.bl _, H, I, rfl, kt_same k hm hg.2.2.2 (.bl _)⟩
/-- < of ints alone -/
theorem od_ltI : OpD X (compareOp .Lt) (g2 (intCmp fun i j => decide (i < j))) := od_cmpI op_lt
/-- what 'in' asks -/
structure InOk (ys : List PyData) (x : PyData) : Prop where
  l : PyData.plainAll ys = true
  r : x.plain = true
  d : min (PyData.depthAll ys) x.depth ≤ 60
/-- in, not in -/
def inD (neg : Bool) : PyData → PyData → Mem → KD → Prop
  | x, .tuple ys, M, R => InOk ys x ∧ R (.d (.bool (if neg then !(ys.any fun y => PyData.eqv y x) else ys.any fun y => PyData.eqv y x))) M
  | x, .list ys, M, R => InOk ys x ∧ R (.d (.bool (if neg then !(ys.any fun y => PyData.eqv y x) else ys.any fun y => PyData.eqv y x))) M
  | .str x, .str y, M, R => R (.d (.bool (if neg then !(!(Builtin.Str.occurrences y x 0 y.length 1).isEmpty) else !(Builtin.Str.occurrences y x 0 y.length 1).isEmpty))) M
  | _, _, _, _ => False
theorem od_in {k : Nat} (hr : Room k X.A) : OpD X (compareOp .In) (g2 (inD false)) := opd fun pins s σ H x y v u Q dx dy M R I rv ru hm rx ry hg k => by
  have hu := hr.units
  cases dy with
  | tuple ys =>
    obtain ⟨as, r1⟩ := rx.reads I rv
    obtain ⟨bs, r2⟩ := ry.reads I ru
    have hg' : InOk ys dx ∧ R (.d (.bool (ys.any fun y => PyData.eqv y dx))) M := by cases dx <;> exact hg
    exact SeqAt.in_tuple_data r2 r1 hg'.1.l hg'.1.r (by have := hg'.1.d; omega) ⟨.bl _, H, I, rfl, kt_same k hm hg'.2 (.bl _)⟩
  | list ys =>
    obtain ⟨as, r1⟩ := rx.reads I rv
    obtain ⟨bs, r2⟩ := ry.reads I ru
    have hg' : InOk ys dx ∧ R (.d (.bool (ys.any fun y => PyData.eqv y dx))) M := by cases dx <;> exact hg
    exact SeqAt.in_list_data r2 r1 hg'.1.l hg'.1.r (by have := hg'.1.d; omega) ⟨.bl _, H, I, rfl, kt_same k hm hg'.2 (.bl _)⟩
  | str ys =>
    cases dx with
    | str xs =>
      cases rx
      cases ry
      exact op_in_str pins s σ H _ _ v u Q I rv ru ⟨_, _, rfl, rfl, kt_same k hm hg (.bl _)⟩
    | _ => exact hg.elim
  | _ => cases dx <;> exact hg.elim
theorem od_notin {k : Nat} (hr : Room k X.A) : OpD X (compareOp .NotIn) (g2 (inD true)) := opd fun pins s σ H x y v u Q dx dy M R I rv ru hm rx ry hg k => by
  have hu := hr.units
  cases dy with
  | tuple ys =>
    obtain ⟨as, r1⟩ := rx.reads I rv
    obtain ⟨bs, r2⟩ := ry.reads I ru
    have hg' : InOk ys dx ∧ R (.d (.bool (!ys.any fun y => PyData.eqv y dx))) M := by cases dx <;> exact hg
    exact SeqAt.notIn_tuple_data r2 r1 hg'.1.l hg'.1.r (by have := hg'.1.d; omega) ⟨.bl _, H, I, rfl, kt_same k hm hg'.2 (.bl _)⟩
  | list ys =>
    obtain ⟨as, r1⟩ := rx.reads I rv
    obtain ⟨bs, r2⟩ := ry.reads I ru
    have hg' : InOk ys dx ∧ R (.d (.bool (!ys.any fun y => PyData.eqv y dx))) M := by cases dx <;> exact hg
    exact SeqAt.notIn_list_data r2 r1 hg'.1.l hg'.1.r (by have := hg'.1.d; omega) ⟨.bl _, H, I, rfl, kt_same k hm hg'.2 (.bl _)⟩
  | str ys =>
    cases dx with
    | str xs =>
      cases rx
      cases ry
      exact op_notin_str pins s σ H _ _ v u Q I rv ru ⟨_, _, rfl, rfl, kt_same k hm hg (.bl _)⟩
    | _ => exact hg.elim
  | _ => cases dx <;> exact hg.elim
/-- is None, is not None -/
def isND : G2
  | .d x, .d .none, M, R => R (.d (.bool (match x with | .none => true | _ => false))) M
  | _, _, _, _ => False
def notND : G2
  | .d x, .d .none, M, R => R (.d (.bool (match x with | .none => false | _ => true))) M
  | _, _, _, _ => False
theorem od_isN : OpD X (compareOp .Is) isND := by
  intro pins s σ H x y v u Q I rx ry hh
  obtain ⟨dx, dy, M, R, hm, r1, r2, hg, k⟩ := hh
  cases dx with
  | raw _ => exact hg.elim
  | scr _ => exact hg.elim
  | d dx =>
    cases dy with
    | raw _ => exact hg.elim
    | scr _ => exact hg.elim
    | d dy =>
      cases dy with
      | none =>
        cases r2
        cases r1 <;> exact op_isN pins s σ H _ _ v u Q I rx ry ⟨rfl, kt_same k hm hg (.bl _)⟩
      | _ => exact hg.elim
theorem od_notN : OpD X (compareOp .IsNot) notND := by
  intro pins s σ H x y v u Q I rx ry hh
  obtain ⟨dx, dy, M, R, hm, r1, r2, hg, k⟩ := hh
  cases dx with
  | raw _ => exact hg.elim
  | scr _ => exact hg.elim
  | d dx =>
    cases dy with
    | raw _ => exact hg.elim
    | scr _ => exact hg.elim
    | d dy =>
      cases dy with
      | none =>
        cases r2
        cases r1 <;> exact op_notN pins s σ H _ _ v u Q I rx ry ⟨rfl, kt_same k hm hg (.bl _)⟩
      | _ => exact hg.elim
/-- -x -/
def dUn (g : DV → Mem → KD → Prop) (ta : TD) : TD := fun sl M R => ta sl M fun x M1 => g x M1 R
def negD : DV → Mem → KD → Prop
  | .d (.int i), M, R => R (.d (.int (-i))) M
  | _, _, _ => False
theorem de_neg (ha : DE X a ta) : DE X (.UnaryOp .USub a pos) (dUn negD ta) :=
  PE.imp (pe_un un_neg ha) fun σ H Q ⟨sl, M, R, hs, hm, ht, k⟩ => ⟨sl, M, _, hs, hm, ht, fun x M1 h1 v H1 l1 m1 r1 => by
    cases x with
    | raw _ => exact h1.elim
    | scr _ => exact h1.elim
    | d x =>
      cases r1 with
      | int i => exact ⟨i, rfl, k _ M1 h1 _ H1 l1 m1 (.int _)⟩
      | _ => exact h1.elim⟩

/-! ### arguments -/
def dNil : TAD := fun _ M R => R [] M
def dCons (ta : TD) (tr : TAD) : TAD := fun sl M R => ta sl M fun x M1 => tr sl M1 fun xs M2 => R (x :: xs) M2
theorem da_nil : DA X [] dNil := PA.imp pa_nil fun σ H Q ⟨sl, M, R, hs, hm, ht, k⟩ => k _ M ht _ H (Le.refl _ _) hm .nil
theorem da_cons (ha : DE X e te) (hr : DA X es tas) (hs : starEach (e :: es) X.env = (false, eval e X.env) :: starEach es X.env := by rfl) : DA X (e :: es) (dCons te tas) :=
  PA.imp (pa_cons ha hr hs) fun σ H Q ⟨sl, M, R, hs, hm, ht, k⟩ => ⟨sl, M, _, hs, hm, ht, fun x M1 h1 v H1 l1 m1 r1 => ⟨sl, M1, _, hs.sub l1, m1, h1, fun xs M2 h2 vs H2 l2 m2 r2 => k _ M2 h2 _ H2 (l1.trans l2) m2 (.cons (r1.sub l2) r2)⟩⟩
def allD : List DV → Option (List PyData)
  | [] => some []
  | .d x :: r => (allD r).map (x :: ·)
  | .raw _ :: _ => none
  | .scr _ :: _ => none
theorem allD_map : ∀ {xs : List DV} {ds : List PyData}, allD xs = some ds → xs = ds.map DV.d
  | [], ds, h => by cases h; rfl
  | .d x :: r, ds, h => by
    unfold allD at h
    cases e : allD r with
    | none => rw [e] at h; cases h
    | some es =>
      rw [e] at h
      cases h
      rw [allD_map e]
      rfl
  | .raw _ :: _, ds, h => by cases h
  | .scr _ :: _, ds, h => by cases h
theorem allD_of (ds : List PyData) : allD (ds.map DV.d) = some ds := by
  induction ds with
  | nil => rfl
  | cons d ds ih => show (allD (ds.map DV.d)).map (d :: ·) = _; rw [ih]; rfl
def dTup (t : TAD) : TD := fun sl M R => t sl M fun xs M1 => optP (allD xs) fun ds => ds.length ≤ sizeLine ∧ R (.d (.tuple ds)) M1
def dLst (t : TAD) : TD := fun sl M R => t sl M fun xs M1 => optP (allD xs) fun ds => ds.length ≤ sizeLine ∧ R (.d (.list ds)) M1
/-- an owned list -/
def dLstO (t : TAD) : TD := fun sl M R => t sl M fun xs M1 => xs.length ≤ sizeLine ∧ ∀ p, M1 p = none → R (.raw (.ref p)) (updM M1 p (.lst xs))
theorem de_tup {x1} (h : DA X es tas) : DE X (.Tuple es x1 pos) (dTup tas) :=
  PE.imp (pe_tup h) fun σ H Q ⟨sl, M, R, hs, hm, ht, k⟩ => ⟨sl, M, _, hs, hm, ht, fun xs M1 h1 vs H1 l1 m1 r1 => by
    obtain ⟨ds, e, g1⟩ := optP_elim h1
    have e' := allD_map e
    subst e'
    have rd := RVs.data r1
    exact ⟨by rw [rd.len]; exact g1.1, fun p n => kt_new (k.le l1) m1 n g1.2 (rd_tupN m1 n rd)⟩⟩
theorem de_lst (h : DA X es tas) : DE X (.List es pos) (dLst tas) :=
  PE.imp (pe_lst h) fun σ H Q ⟨sl, M, R, hs, hm, ht, k⟩ => ⟨sl, M, _, hs, hm, ht, fun xs M1 h1 vs H1 l1 m1 r1 => by
    obtain ⟨ds, e, g1⟩ := optP_elim h1
    have e' := allD_map e
    subst e'
    have rd := RVs.data r1
    exact ⟨by rw [rd.len]; exact g1.1, fun p n => kt_new (k.le l1) m1 n g1.2 (rd_lstN m1 n rd)⟩⟩
theorem de_lstO (h : DA X es tas) : DE X (.List es pos) (dLstO tas) :=
  PE.imp (pe_lst h) fun σ H Q ⟨sl, M, R, hs, hm, ht, k⟩ => ⟨sl, M, _, hs, hm, ht, fun xs M1 h1 vs H1 l1 m1 r1 =>
    ⟨by rw [r1.len]; exact h1.1, fun p n => k _ _ (h1.2 p (own_none m1 n)) _ _ (l1.trans (le_own n)) (rep_own m1 n r1) rfl⟩⟩

/-! ### subscripts -/
theorem atI_rd {K : PySem.W.Frag} {H : Hp} {vs : List V} {ds : List PyData} {i : Int} {d : PyData} (r : RDs K H vs ds) (h : atI ds i = some d) : ∃ v, atI vs i = some v ∧ RD K H v d := by
  unfold atI at h ⊢
  rw [r.len]
  cases e : ixN ds.length i with
  | none => rw [e] at h; cases h
  | some j => rw [e] at h; exact r.get h
theorem atI_rv {K : PySem.W.Frag} {H : Hp} {vs : List V} {ds : List DV} {i : Int} {d : DV} (r : RVs K H vs ds) (h : atI ds i = some d) : ∃ v, atI vs i = some v ∧ RV K H v d := by
  unfold atI at h ⊢
  rw [r.len]
  cases e : ixN ds.length i with
  | none => rw [e] at h; cases h
  | some j => rw [e] at h; exact r.get h
def ixD : G2
  | .d (.tuple xs), .d (.int i), M, R => optP (atI xs i) fun v => R (.d v) M
  | .d (.list xs), .d (.int i), M, R => optP (atI xs i) fun v => R (.d v) M
  | .d (.str z), .d (.int i), M, R => z.length ≤ sizeLine ∧ optP (atI z.cps.toList i) fun c => R (.d (.str ⟨#[c]⟩)) M
  | .raw (.ref p), .d (.int i), M, R => getL M p fun xs => optP (atI xs i) fun v => R v M
  | _, _, _, _ => False
theorem ix_imp {x y : V} {H : Hp} {Q : VK} (h : lift2 X.K ixD x y H Q) : rIx X.K x y H Q := by
  obtain ⟨dx, dy, M, R, hm, r1, r2, hg, k⟩ := h
  unfold ixD at hg
  split at hg
  · cases r2
    cases r1 with
    | tup h1 r1 =>
      obtain ⟨v, ev, hg⟩ := optP_elim hg
      obtain ⟨w, ew, rw'⟩ := atI_rd r1 ev
      exact .inr (.inl ⟨_, _, _, w, rfl, rfl, sqT_sub (hide_sub _ _) h1, ew, kt_same k hm hg rw'⟩)
  · cases r2
    cases r1 with
    | lst h1 r1 =>
      obtain ⟨v, ev, hg⟩ := optP_elim hg
      obtain ⟨w, ew, rw'⟩ := atI_rd r1 ev
      exact .inl ⟨_, _, _, w, rfl, rfl, SqL.of (hide_sub _ _ _ _ h1), ew, kt_same k hm hg rw'⟩
  · cases r2
    cases r1
    obtain ⟨hz, hg⟩ := hg
    obtain ⟨c, ev, hg⟩ := optP_elim hg
    exact .inr (.inr ⟨_, _, c, rfl, rfl, hz, ev, kt_same k hm hg (.str _)⟩)
  · cases r2
    rename_i M' R' p i
    have r1' : x = .ref p := r1
    subst r1'
    obtain ⟨xs, e, hg⟩ := getL_elim hg
    obtain ⟨v, ev, hg⟩ := optP_elim hg
    obtain ⟨vs, hv, rv⟩ := hm p _ e
    obtain ⟨w, ew, rw'⟩ := atI_rv rv ev
    exact .inl ⟨p, vs, _, w, rfl, rfl, SqL.of hv, ew, kt_same k hm hg rw'⟩
  · exact hg.elim
theorem de_ix (ha : DE X a ta) (hb : DE X b tb) (hs : PlainIx b := by exact fun _ _ => rfl) : DE X (.Subscript a b pos) (dOp ixD ta tb) := by
  have h : IxR X (lift2 X.K ixD) := fun value slice pins s σ H x y v u Q I rx ry h hs => ix_seq value slice pins s σ H x y v u Q I rx ry (ix_imp h) hs
  exact PE.imp (pe_ix h ha hb hs) fun _ _ _ h => op_imp h

/-! ### slices -/
abbrev TOD := Slots → Mem → (Option Int → Mem → Prop) → Prop
def liftO (K : PySem.W.Frag) (t : TOD) : TO := fun σ H Q => ∃ sl M R, RepS K (hide H M) σ sl ∧ RepM K H M ∧ t sl M R ∧ ∀ o M', R o M' → ∀ H', Le H M H' M' → RepM K H' M' → Q o H'
abbrev DO (X : Cx) (e : Option Expr) (t : TOD) : Prop := PO X e (liftO X.K t)
def dNoPart : TOD := fun _ M R => R none M
def dPart (t : TD) : TOD := fun sl M R => t sl M fun x M1 => match x with
  | .d (.int i) => R (some i) M1
  | _ => False
theorem PO.imp {e : Option Expr} {t u : TO} (h : PO X e t) (i : ∀ σ H Q, u σ H Q → t σ H Q) : PO X e u := ⟨fun pins s σ H Q I q => h.run pins s σ H Q I (i σ H Q q)⟩
theorem do_none : DO X none dNoPart := PO.imp po_none fun σ H Q ⟨sl, M, R, hs, hm, ht, k⟩ => k _ M ht H (Le.refl _ _) hm
theorem do_some (h : DE X e te) : DO X (some e) (dPart te) := PO.imp (po_some h) fun σ H Q ⟨sl, M, R, hs, hm, ht, k⟩ => ⟨sl, M, _, hs, hm, ht, fun x M1 h1 v H1 l1 m1 r1 => by
    split at h1
    · cases r1
      exact ⟨_, rfl, k _ M1 h1 H1 l1 m1⟩
    · exact h1.elim⟩
def cutL {α : Type} (xs : List α) (lo hi : Option Int) : List α := (xs.drop (HT.sIx xs.length 0 lo)).take (HT.sIx xs.length xs.length hi - HT.sIx xs.length 0 lo)
theorem cut_rd {K : PySem.W.Frag} {H : Hp} {vs : List V} {ds : List PyData} (r : RDs K H vs ds) (lo hi : Option Int) : RDs K H (cutV vs lo hi) (cutL ds lo hi) := by
  unfold cutV cutL
  rw [r.len]
  exact (r.drop _).take _
theorem cut_all {α : Type} {xs : List α} {lo hi : Option Int} (h : HT.sIx xs.length 0 lo = 0 ∧ HT.sIx xs.length xs.length hi = xs.length) : cutL xs lo hi = xs := by
  unfold cutL
  rw [h.1, h.2, List.drop_zero, Nat.sub_zero, List.take_length]
def slD : DV → Option Int → Option Int → Mem → KD → Prop
  | .d (.tuple xs), lo, hi, M, R => R (.d (.tuple (cutL xs lo hi))) M
  | .d (.list xs), lo, hi, M, R => R (.d (.list (cutL xs lo hi))) M
  | .d (.str z), lo, hi, M, R => z.length ≤ sizeLine ∧ R (.d (.str (cutS z lo hi))) M
  | .scr ns, lo, hi, M, R => R (.d (.list ((cutL ns lo hi).map PyData.int))) M
  | _, _, _, _, _ => False
def liftSl (K : PySem.W.Frag) (g : DV → Option Int → Option Int → Mem → KD → Prop) : V → Option Int → Option Int → Hp → VK → Prop := fun x lo hi H Q => ∃ dx M R, RepM K H M ∧ RV K (hide H M) x dx ∧ g dx lo hi M R ∧ Kt K H M R Q
theorem rds_of_ints {K : PySem.W.Frag} {H : Hp} : ∀ ns : List Int, RDs K H (ns.map V.int) (ns.map PyData.int)
  | [] => .nil
  | n :: ns => .cons (.int n) (rds_of_ints ns)
theorem sl_data : SlR X (liftSl X.K slD) := by
  intro pins s σ H x v vl vu lo hi sl Q I rx hs pl pu h
  obtain ⟨dx, M, R, hm, r1, hg, k⟩ := h
  cases dx with
  | raw _ => exact hg.elim
  | scr ns =>
    obtain ⟨a, rfl, q⟩ := r1
    refine sl_list pins s σ H _ v vl vu lo hi sl Q I rx hs pl pu ⟨_, _, rfl, sqL_sub (hide_sub _ _) q, fun p n => kt_new k hm n hg (rd_lstN hm n ?_)⟩
    have e : cutV (ns.map V.int) lo hi = (cutL ns lo hi).map V.int := by
      unfold cutV cutL
      rw [List.length_map, List.map_take, List.map_drop]
    rw [e]
    exact rds_of_ints _
  | d z =>
    cases z with
    | tuple ds =>
      cases r1 with
      | tup h1 r1 =>
        refine sl_tupA pins s σ H _ v vl vu lo hi sl Q I rx hs pl pu ⟨_, _, rfl, sqT_sub (hide_sub _ _) h1, fun w => ?_, fun _ p n => kt_new k hm n hg (rd_tupN hm n (cut_rd r1 lo hi))⟩
        rw [r1.len] at w
        exact kt_same k hm hg (by rw [cut_all w]; exact .tup h1 r1)
    | list ds =>
      cases r1 with
      | lst h1 r1 =>
        exact sl_list pins s σ H _ v vl vu lo hi sl Q I rx hs pl pu ⟨_, _, rfl, SqL.of (hide_sub _ _ _ _ h1), fun p n => kt_new k hm n hg (rd_lstN hm n (cut_rd r1 lo hi))⟩
    | str z =>
      cases r1
      exact sl_str pins s σ H _ v vl vu lo hi sl Q I rx hs pl pu ⟨z, rfl, hg.1, kt_same k hm hg.2 (.str _)⟩
    | _ => exact hg.elim
def dSl (te : TD) (tl th : TOD) : TD := fun sl M R => te sl M fun x M1 => tl sl M1 fun l M2 => th sl M2 fun u M3 => slD x l u M3 R
theorem de_slice {lo hi : Option Expr} {tl th : TOD} {p2 : Pos} (he : DE X e te) (hl : DO X lo tl) (hu : DO X hi th) : DE X (.Subscript e (.Slice lo hi none p2) pos) (dSl te tl th) :=
  PE.imp (pe_slice sl_data he hl hu) fun σ H Q ⟨sl, M, R, hs, hm, ht, k⟩ => ⟨sl, M, _, hs, hm, ht, fun x M1 h1 v H1 l1 m1 r1 => ⟨sl, M1, _, hs.sub l1, m1, h1, fun o M2 h2 H2 l2 m2 => ⟨sl, M2, _, hs.sub (l1.trans l2), m2, h2, fun o' M3 h3 H3 l3 m3 =>
    ⟨x, M3, R, m3, r1.sub (l2.trans l3), h3, k.le ((l1.trans l2).trans l3)⟩⟩⟩⟩

/-! ### calls of built-ins -/
abbrev GC := List DV → Mem → KD → Prop
def liftC (K : PySem.W.Frag) (g : GC) : List V → Hp → VK → Prop := fun vs H Q => ∃ xs M R, RepM K H M ∧ RVs K (hide H M) vs xs ∧ g xs M R ∧ Kt K H M R Q
abbrev CallD (X : Cx) (f : Value) (g : GC) : Prop := CallR X f (liftC X.K g)
def dCall (g : GC) (t : TAD) : TD := fun sl M R => t sl M fun xs M1 => g xs M1 R
theorem call_imp {g : GC} {σ : L2.St} {H : Hp} {Q : VK} (h : liftE X.K (dCall g tas) σ H Q) : liftA X.K tas σ H fun vs H1 => liftC X.K g vs H1 Q := by
  obtain ⟨sl, M, R, hs, hm, ht, k⟩ := h
  exact ⟨sl, M, _, hs, hm, ht, fun xs M1 h1 vs H1 l1 m1 r1 => ⟨xs, M1, R, m1, r1, h1, k.le l1⟩⟩
theorem de_callB {x : Str} {id : String} {p : Pos} {g : GC} (hc : CallD X (.builtin id) g) (hg : Gl X x) (hm : X.mg x = none) (hv : bootBuiltins x = some (.builtin id)) (ha : DA X (e :: es) tas) (hn : x ≠ "__name__" := by decide) (hdb : (x == ("__debug__" : Str)) = false := by decide)
    (he : starEach (e :: es) X.env = (false, eval e X.env) :: starEach es X.env := by rfl) (hpl : (backTo pos (starEach es X.env)).any (·.1) = false := by rfl) : DE X (.Call (.Name x p) (e :: es) [] pos) (dCall g tas) :=
  PE.imp (pe_callB hc hg hm hv ha hn hdb he hpl) fun _ _ _ h => call_imp h
theorem de_callTy {x : Str} {T : String} {p : Pos} {g : GC} (hc : CallD X (.type T) g) (hg : Gl X x) (hm : X.mg x = none) (hv : bootBuiltins x = some (.type T)) (ha : DA X (e :: es) tas) (hn : x ≠ "__name__" := by decide) (hdb : (x == ("__debug__" : Str)) = false := by decide)
    (he : starEach (e :: es) X.env = (false, eval e X.env) :: starEach es X.env := by rfl) (hpl : (backTo pos (starEach es X.env)).any (·.1) = false := by rfl) : DE X (.Call (.Name x p) (e :: es) [] pos) (dCall g tas) :=
  PE.imp (pe_callTy hc hg hm hv ha hn hdb he hpl) fun _ _ _ h => call_imp h
/-- one argument of data -/
def g1 (f : PyData → Mem → KD → Prop) : GC
  | [.d x], M, R => f x M R
  | _, _, _ => False
theorem cad1 {f : Value} {g : PyData → Mem → KD → Prop}
    (h : ∀ pins s σ H x u Q dx M R, Inv X pins σ H s → RelV x u → RepM X.K H M → RD X.K (hide H M) x dx → g dx M R → Kt X.K H M R Q → wpAny (model X.prog X.w) X.A (call f [u]) (EP X pins σ Q) X.xe s) : CallD X f (g1 g) := by
  intro pins s σ H vs us Q I r hh
  obtain ⟨xs, M, R, hm, rv, hg, k⟩ := hh
  match xs, hg with
  | [.d x], hg =>
    cases rv with
    | cons r1 r2 =>
      cases r2
      cases r with
      | cons q1 q2 =>
        cases q2
        exact h pins s σ H _ _ Q x M R I q1 hm r1 hg k
def lenD : PyData → Mem → KD → Prop
  | .str z, M, R => z.length ≤ sizeLine ∧ R (.d (.int z.length)) M
  | .list xs, M, R => R (.d (.int xs.length)) M
  | .tuple xs, M, R => R (.d (.int xs.length)) M
  | _, _, _ => False
/-- len of data or of an owned list -/
def lenG : GC
  | [.d x], M, R => lenD x M R
  | [.raw (.ref p)], M, R => getL M p fun xs => R (.d (.int xs.length)) M
  | _, _, _ => False
theorem cd_len : CallD X (.builtin "len") lenG := by
  intro pins s σ H vs us Q I r hh
  obtain ⟨xs, M, R, hm, rv, hg, k⟩ := hh
  match xs, hg with
  | [.d x], hg =>
    cases rv with
    | cons r1 r2 =>
      cases r2
      refine call_len pins s σ H _ us Q I r ?_
      cases r1 with
      | str z => exact ⟨_, z.length, rfl, ⟨hg.1, rfl⟩, kt_same k hm hg.2 (.int _)⟩
      | lst h1 r1 => exact ⟨_, _, rfl, .inl ⟨_, SqL.of (hide_sub _ _ _ _ h1), rfl⟩, by rw [r1.len]; exact kt_same k hm hg (.int _)⟩
      | tup h1 r1 => exact ⟨_, _, rfl, .inr ⟨_, sqT_sub (hide_sub _ _) h1, rfl⟩, by rw [r1.len]; exact kt_same k hm hg (.int _)⟩
      | _ => exact hg.elim
  | [.raw (.ref p)], hg =>
    cases rv with
    | cons r1 r2 =>
      cases r2
      cases r1
      obtain ⟨xs, e, hg'⟩ := getL_elim hg
      obtain ⟨ws, hv, rw'⟩ := hm p _ e
      exact call_len pins s σ H _ us Q I r ⟨_, _, rfl, .inl ⟨_, SqL.of hv, rfl⟩, by rw [RVs.len rw']; exact kt_same k hm hg' (.int _)⟩
def absD : PyData → Mem → KD → Prop
  | .int i, M, R => R (.d (.int (if i < 0 then -i else i))) M
  | _, _, _ => False
theorem vals_one {x : V} {u : Value} (h : RelV x u) : Vals [x] [u] := .cons h .nil
theorem cd_abs : CallD X (.builtin "abs") (g1 absD) := cad1 fun pins s σ H x u Q dx M R I ru hm rx hg k => by
  cases rx with
  | int i => exact call_abs pins s σ H _ _ Q I (vals_one ru) ⟨i, rfl, kt_same k hm hg (.int _)⟩
  | _ => exact hg.elim
/-- tuple(x), list(x) -/
def tupleG : GC
  | [.d (.list xs)], M, R => R (.d (.tuple xs)) M
  | [.d (.tuple xs)], M, R => R (.d (.tuple xs)) M
  | [.raw (.ref p)], M, R => getL M p fun xs => optP (allD xs) fun ds => R (.d (.tuple ds)) M
  | _, _, _ => False
theorem cd_tuple : CallD X (.type "tuple") tupleG := by
  intro pins s σ H vs us Q I r hh
  obtain ⟨xs, M, R, hm, rv, hg, k⟩ := hh
  match xs, hg with
  | [.d (.list xs)], hg =>
    cases rv with
    | cons r1 r2 =>
      cases r2
      cases r1 with
      | lst h1 r1 => exact call_tuple_of pins s σ H _ us Q I r ⟨_, _, rfl, .inl ⟨SqL.of (hide_sub _ _ _ _ h1), fun p n => kt_new k hm n hg (rd_tupN hm n r1)⟩⟩
  | [.d (.tuple xs)], hg =>
    cases rv with
    | cons r1 r2 =>
      cases r2
      cases r1 with
      | tup h1 r1 => exact call_tuple_of pins s σ H _ us Q I r ⟨_, _, rfl, .inr ⟨sqT_sub (hide_sub _ _) h1, kt_same k hm hg (.tup h1 r1)⟩⟩
  | [.raw (.ref p)], hg =>
    cases rv with
    | cons r1 r2 =>
      cases r2
      cases r1
      obtain ⟨xs, e, hg'⟩ := getL_elim hg
      obtain ⟨ds, ed, hg2⟩ := optP_elim hg'
      have ed' := allD_map ed
      subst ed'
      obtain ⟨ws, hv, rw'⟩ := hm p _ e
      exact call_tuple_of pins s σ H _ us Q I r ⟨_, _, rfl, .inl ⟨SqL.of hv, fun p n => kt_new k hm n hg2 (rd_tupN hm n (RVs.data rw'))⟩⟩
def intsD : List PyData → Option (List Int)
  | [] => some []
  | .int i :: r => (intsD r).map (i :: ·)
  | _ :: _ => none
theorem intsD_map : ∀ {ds : List PyData} {ns : List Int}, intsD ds = some ns → ds = ns.map PyData.int
  | [], ns, h => by cases h; rfl
  | .int i :: r, ns, h => by
    unfold intsD at h
    cases e : intsD r with
    | none => rw [e] at h; cases h
    | some es => rw [e] at h; cases h; rw [intsD_map e]; rfl
  | .none :: _, ns, h => by cases h
  | .bool _ :: _, ns, h => by cases h
  | .str _ :: _, ns, h => by cases h
  | .list _ :: _, ns, h => by cases h
  | .tuple _ :: _, ns, h => by cases h
  | .dict _ :: _, ns, h => by cases h
theorem intsD_of (ns : List Int) : intsD (ns.map PyData.int) = some ns := by
  induction ns with
  | nil => rfl
  | cons d ds ih => show (intsD (ds.map PyData.int)).map (d :: ·) = _; rw [ih]; rfl
theorem rds_ints {K : PySem.W.Frag} {H : Hp} : ∀ {vs : List V} {ns : List Int}, RDs K H vs (ns.map PyData.int) → vs = ns.map V.int
  | [], [], _ => rfl
  | v :: vs, n :: ns, r => by
    cases r with
    | cons h t =>
      cases h
      rw [rds_ints t]
      rfl
/-- sum of a list of ints -/
def sumG : GC
  | [.d (.list xs)], M, R => optP (intsD xs) fun ns => R (.d (.int ns.sum)) M
  | _, _, _ => False
theorem cd_sum (hc : X.calm = true) : CallD X (.builtin "sum") sumG := by
  intro pins s σ H vs us Q I r hh
  obtain ⟨xs, M, R, hm, rv, hg, k⟩ := hh
  match xs, hg with
  | [.d (.list xs)], hg =>
    cases rv with
    | cons r1 r2 =>
      cases r2
      cases r1 with
      | lst h1 r1 =>
        obtain ⟨ns, e, hg'⟩ := optP_elim hg
        have e' := intsD_map e
        subst e'
        have ev := rds_ints r1
        subst ev
        exact cr_sum hc pins s σ H _ us Q I r ⟨_, ns, rfl, SqL.of (hide_sub _ _ _ _ h1), kt_same k hm hg' (.int _)⟩
/-- max(i, j), min(i, j); max(list), min(list) of ints -/
def maxG : GC
  | [.d (.int i), .d (.int j)], M, R => R (.d (.int (if j > i then j else i))) M
  | [.d (.list xs)], M, R => optP (intsD xs) fun ns => 0 < ns.length ∧ ∀ m, m ∈ ns → (∀ y, y ∈ ns → y ≤ m) → R (.d (.int m)) M
  | _, _, _ => False
def minG : GC
  | [.d (.int i), .d (.int j)], M, R => R (.d (.int (if j < i then j else i))) M
  | [.d (.list xs)], M, R => optP (intsD xs) fun ns => 0 < ns.length ∧ ∀ m, m ∈ ns → (∀ y, y ∈ ns → m ≤ y) → R (.d (.int m)) M
  | _, _, _ => False
theorem cd_max (hc : X.calm = true) : CallD X (.builtin "max") maxG := by
  intro pins s σ H vs us Q I r hh
  obtain ⟨xs, M, R, hm, rv, hg, k⟩ := hh
  match xs, hg with
  | [.d (.int i), .d (.int j)], hg =>
    cases rv with
    | cons r1 r2 =>
      cases r2 with
      | cons r2 r3 =>
        cases r3
        cases r1
        cases r2
        exact call_max2 hc pins s σ H _ us Q I r ⟨i, j, rfl, kt_same k hm hg (.int _)⟩
  | [.d (.list xs)], hg =>
    cases rv with
    | cons r1 r2 =>
      cases r2
      cases r1 with
      | lst h1 r1 =>
        obtain ⟨ns, e, hg'⟩ := optP_elim hg
        have e' := intsD_map e
        subst e'
        have ev := rds_ints r1
        subst ev
        exact cr_max hc pins s σ H _ us Q I r ⟨_, ns, rfl, SqL.of (hide_sub _ _ _ _ h1), hg'.1, fun m m1 m2 => kt_same k hm (hg'.2 m m1 m2) (.int _)⟩
theorem cd_min (hc : X.calm = true) : CallD X (.builtin "min") minG := by
  intro pins s σ H vs us Q I r hh
  obtain ⟨xs, M, R, hm, rv, hg, k⟩ := hh
  match xs, hg with
  | [.d (.int i), .d (.int j)], hg =>
    cases rv with
    | cons r1 r2 =>
      cases r2 with
      | cons r2 r3 =>
        cases r3
        cases r1
        cases r2
        exact call_min2 hc pins s σ H _ us Q I r ⟨i, j, rfl, kt_same k hm hg (.int _)⟩
  | [.d (.list xs)], hg =>
    cases rv with
    | cons r1 r2 =>
      cases r2
      cases r1 with
      | lst h1 r1 =>
        obtain ⟨ns, e, hg'⟩ := optP_elim hg
        have e' := intsD_map e
        subst e'
        have ev := rds_ints r1
        subst ev
        exact cr_min hc pins s σ H _ us Q I r ⟨_, ns, rfl, SqL.of (hide_sub _ _ _ _ h1), hg'.1, fun m m1 m2 => kt_same k hm (hg'.2 m m1 m2) (.int _)⟩
/-- int(x) -/
def intG : PyData → Mem → KD → Prop
  | .int i, M, R => R (.d (.int i)) M
  | .bool k, M, R => R (.d (.int (if k then 1 else 0))) M
  | _, _, _ => False
theorem cd_int : CallD X (.type "int") (g1 intG) := cad1 fun pins s σ H x u Q dx M R I ru hm rx hg k => by
  cases rx with
  | int i => exact call_int1 pins s σ H _ _ Q I (vals_one ru) (.inl ⟨i, rfl, kt_same k hm hg (.int _)⟩)
  | bl i => exact call_int1 pins s σ H _ _ Q I (vals_one ru) (.inr ⟨i, rfl, kt_same k hm hg (.int _)⟩)
  | _ => exact hg.elim

/-! ### repr: where no repr is under way -/
mutual
theorem noDict_plain : ∀ d : PyData, d.plain = true → d.hasDict = false
  | .none, _ => by simp only [PyData.hasDict]
  | .bool _, _ => by simp only [PyData.hasDict]
  | .int _, _ => by simp only [PyData.hasDict]
  | .str _, _ => by simp only [PyData.hasDict]
  | .list xs, h => by
    simp only [PyData.hasDict]
    exact noDict_plainAll xs (by simpa only [PyData.plain] using h)
  | .tuple xs, h => by
    simp only [PyData.hasDict]
    exact noDict_plainAll xs (by simpa only [PyData.plain] using h)
  | .dict _, h => by simp [PyData.plain] at h
theorem noDict_plainAll : ∀ ds : List PyData, PyData.plainAll ds = true → PyData.hasDictAll ds = false
  | [], _ => by simp only [PyData.hasDictAll]
  | x :: xs, h => by
    have h' : x.plain = true ∧ PyData.plainAll xs = true := by simpa only [PyData.plainAll, Bool.and_eq_true] using h
    simp only [PyData.hasDictAll, noDict_plain x h'.1, noDict_plainAll xs h'.2, Bool.or_self]
end
def reprD (x : PyData) (M : Mem) (R : KD) : Prop := x.showable = true ∧ x.depth ≤ 60 ∧ x.shown.length ≤ sizeLine ∧ (x.hasDict = true → lstFree x = true) ∧ R (.d (.str x.shown)) M
theorem cd_repr {k : Nat} (hr : Room k X.A) (hgd : X.A.guards = some []) : CallD X (.builtin "repr") (g1 reprD) :=
  cad1 fun pins s σ H x u Q dx M R I ru hm rx hg k => by
  obtain ⟨h1, h2, h3, h4, hg⟩ := hg
  have hu := hr.units
  cases rx with
  | non =>
    cases ru
    exact P.repr_of_none ⟨.str "None", H, I.tok _, ⟨_, rfl⟩, kt_same k hm hg (.str _)⟩
  | bl b =>
    cases ru
    exact P.repr_of_bool ⟨.str _, H, I.tok _, ⟨_, rfl⟩, kt_same k hm hg (.str _)⟩
  | int i =>
    obtain ⟨t, rfl⟩ := ru
    exact P.repr_of_int (by simpa [PyData.showable] using h1) ⟨.str _, H, I.tok _, ⟨_, rfl⟩, kt_same k hm hg (.str _)⟩
  | str z =>
    obtain ⟨t, rfl⟩ := ru
    exact P.repr_of_str (hsz := h3) ⟨.str _, H, I.tok _, ⟨_, rfl⟩, kt_same k hm hg (.str _)⟩
  | lst q1 q2 =>
    obtain ⟨as, rd, hn⟩ := RD.readsF I (.lst q1 q2) ru
    cases ru
    exact repr_of_reads' rd h1 (fun q => hn (h4 q)) hgd (by omega) (fun _ _ e => e) (fun h' u tk hk => ⟨.str _, H, I.kept hk, ⟨_, rfl⟩, kt_same k hm hg (.str _)⟩) h3
  | tup q1 q2 =>
    obtain ⟨as, rd, hn⟩ := RD.readsF I (.tup q1 q2) ru
    cases ru
    exact repr_of_reads' rd h1 (fun q => hn (h4 q)) hgd (by omega) (fun _ _ e => e) (fun h' u tk hk => ⟨.str _, H, I.kept hk, ⟨_, rfl⟩, kt_same k hm hg (.str _)⟩) h3
  | dct q1 q2 =>
    obtain ⟨as, rd, hn⟩ := RD.readsF I (.dct q1 q2) ru
    cases ru
    exact repr_of_reads' rd h1 (fun q => hn (h4 q)) hgd (by omega) (fun _ _ e => e) (fun h' u tk hk => ⟨.str _, H, I.kept hk, ⟨_, rfl⟩, kt_same k hm hg (.str _)⟩) h3
end
end DL

/-! The data layer: statements, targets, what is walked, loops, comprehensions. -/
namespace DL
open PySem PySem.Spec PyProof.Rows L2
section
variable {X : Cx} {a b c e : Expr} {es : List Expr} {pos : Pos} {ta tb tc te : TD} {tas : TAD} {tA : TTD} {st : Stmt} {sts : List Stmt} {t u : TSD}

/-! ### statements -/
def dNext : TSD := fun D sl M => D.nx sl M
@[irreducible] def dSeq (t u : TSD) : TSD := fun D sl M => t { D with nx := u D } sl M
theorem sq {t u : TSD} {D : EndsD} {sl : Slots} {M : Mem} (h : t { D with nx := u D } sl M) : dSeq t u D sl M := by
  unfold dSeq
  exact h
theorem sq_elim {t u : TSD} {D : EndsD} {sl : Slots} {M : Mem} (h : dSeq t u D sl M) : t { D with nx := u D } sl M := by
  unfold dSeq at h
  exact h
def dBreak : TSD := fun D sl M => D.bk sl M
def dCont : TSD := fun D sl M => D.ct sl M
def dDrop (te : TD) : TSD := fun D sl M => te sl M fun _ M1 => D.nx sl M1
def dRet (te : TD) : TSD := fun D sl M => te sl M D.rt
def dRetN : TSD := fun D _ M => D.rt (.d .none) M
def dIfS (t : TTD) (a b : TSD) : TSD := fun D sl M => t sl M fun k M1 => if k = true then a D sl M1 else b D sl M1
def dSet (i : Nat) (te : TD) : TSD := fun D sl M => te sl M fun x M1 => D.nx (sl.set i (some x)) M1
theorem dss_nil : DSs X [] dNext := PSs.imp pss_nil fun D σ H ⟨sl, M, E, hs, hm, ht, kn, kr, kb, kc⟩ => kn sl M ht σ H (Le.refl _ _) hm hs
theorem dss_cons (h1 : DS X st t) (h2 : DSs X sts u) : DSs X (st :: sts) (dSeq t u) :=
  PSs.imp (pss_cons h1 h2) fun D σ H ⟨sl, M, E, hs, hm, ht, kn, kr, kb, kc⟩ => ⟨sl, M, { E with nx := u E }, hs, hm, sq_elim ht, fun sl' M' h σ' H' l m r => ⟨sl', M', E, r, m, h, kn.le l, kr.le l, kb.le l, kc.le l⟩, kr, kb, kc⟩
theorem dss_one (h1 : DS X st t) : DSs X [st] t := pss_one h1
theorem ds_pass : DS X (.Pass pos) dNext := PS.imp ps_pass fun D σ H ⟨sl, M, E, hs, hm, ht, kn, kr, kb, kc⟩ => kn sl M ht σ H (Le.refl _ _) hm hs
theorem ds_break : DS X (.Break pos) dBreak := PS.imp ps_break fun D σ H ⟨sl, M, E, hs, hm, ht, kn, kr, kb, kc⟩ => kb sl M ht σ H (Le.refl _ _) hm hs
theorem ds_continue : DS X (.Continue pos) dCont := PS.imp ps_continue fun D σ H ⟨sl, M, E, hs, hm, ht, kn, kr, kb, kc⟩ => kc sl M ht σ H (Le.refl _ _) hm hs
theorem ds_expr (he : DE X e te) (hs : swapsWith e none pos.line X.env = pure false := by rfl) : DS X (.Expr e pos) (dDrop te) :=
  PS.imp (ps_expr he hs) fun D σ H ⟨sl, M, E, hs, hm, ht, kn, kr, kb, kc⟩ => ⟨sl, M, _, hs, hm, ht, fun x M1 h1 v H1 l1 m1 r1 => kn sl M1 h1 σ H1 l1 m1 (hs.sub l1)⟩
theorem ds_ret (he : DE X e te) : DS X (.Return (some e) pos) (dRet te) :=
  PS.imp (ps_ret he) fun D σ H ⟨sl, M, E, hs, hm, ht, kn, kr, kb, kc⟩ => ⟨sl, M, _, hs, hm, ht, kr⟩
theorem ds_retN : DS X (.Return none pos) dRetN :=
  PS.imp ps_retN fun D σ H ⟨sl, M, E, hs, hm, ht, kn, kr, kb, kc⟩ => kr _ M ht _ H (Le.refl _ _) hm .non
theorem ds_if {x y : List Stmt} (hc : DT X c tA) (ha : DSs X x t) (hb : DSs X y u) : DS X (.If c x y pos) (dIfS tA t u) :=
  PS.imp (ps_if hc ha hb) fun D σ H ⟨sl, M, E, hs, hm, ht, kn, kr, kb, kc⟩ => ⟨sl, M, _, hs, hm, ht, fun k M1 h1 H1 l1 m1 => by
    cases k with
    | true => exact ⟨sl, M1, E, hs.sub l1, m1, h1, kn.le l1, kr.le l1, kb.le l1, kc.le l1⟩
    | false => exact ⟨sl, M1, E, hs.sub l1, m1, h1, kn.le l1, kr.le l1, kb.le l1, kc.le l1⟩⟩
theorem ds_set {i : Nat} {x : Str} {pos' : Pos} (hN : X.N.Nodup) (hi : X.N[i]? = some x) (hx : Loc X.env.scope x) (he : DE X e te) (hs : swapsWith e (some (.Name x pos')) pos.line X.env = pure false := by rfl)
    (hf : X.fn x = true ∨ X.env.scope.names.lookup x = some .local := by first | exact .inl rfl | exact .inr rfl | assumption) : DS X (.Assign [.Name x pos'] e pos) (dSet i te) :=
  PS.imp (ps_set (i := i) hN hi hx he hs hf) fun D σ H ⟨sl, M, E, hs, hm, ht, kn, kr, kb, kc⟩ => ⟨sl, M, _, hs, hm, ht, fun x M1 h1 v H1 l1 m1 r1 => kn _ M1 h1 _ H1 l1 m1 ((hs.sub l1).set i r1)⟩
/-- the owned list of a slot becomes data -/
def dFreeze (i : Nat) (t : TSD) : TSD := fun D sl M => match sl[i]? with
  | some (some (.raw (.ref p))) => getL M p fun xs => optP (allD xs) fun ds => t D (sl.set i (some (.d (.list ds)))) (delM M p)
  | _ => False
theorem dss_freeze (i : Nat) (h : DSs X sts t) : DSs X sts (dFreeze i t) := PSs.imp h fun D σ H ⟨sl, M, E, hs, hm, ht, kn, kr, kb, kc⟩ => by
  unfold dFreeze at ht
  split at ht
  · rename_i p e
    obtain ⟨xs, ex, ht⟩ := getL_elim ht
    obtain ⟨ds, ed, ht2⟩ := optP_elim ht
    have ed' := allD_map ed
    subst ed'
    obtain ⟨v, ev, rv⟩ := hs.2 i _ e
    cases rv
    obtain ⟨vs, hv, rvs⟩ := hm p _ ex
    have l : Le H M H (delM M p) := le_del (K := X.K)
    have hp : delM M p p = none := by unfold delM; rw [if_pos rfl]
    have rd : RD X.K (hide H (delM M p)) (.ref p) (.list ds) := .lst (hide_of hv hp) (RDs.sub l (RVs.data rvs))
    have hs' : RepS X.K (hide H (delM M p)) σ (sl.set i (some (.d (.list ds)))) := by
      have h1 := (hs.sub l).set i (v := .ref p) (x := .d (.list ds)) rd
      have e2 : σ.set i (some (.ref p)) = σ := by
        apply List.ext_getElem?
        intro j
        by_cases hj : i = j
        · subst hj
          rw [List.getElem?_set_self ((List.getElem?_eq_some_iff.mp ev).1), ev]
        · rw [List.getElem?_set_ne hj]
      rw [e2] at h1
      exact h1
    exact ⟨_, _, E, hs', rep_del hm, ht2, kn.le l, kr.le l, kb.le l, kc.le l⟩
  · exact ht.elim

/-! ### targets -/
abbrev TGD := DV → Slots → Mem → (Slots → Mem → Prop) → Prop
abbrev TGsD := List DV → Slots → Mem → (Slots → Mem → Prop) → Prop
def KtG (K : PySem.W.Frag) (H : Hp) (M : Mem) (ss : List Nat) (σ : L2.St) (R : Slots → Mem → Prop) (Q : L2.St → Hp → Prop) : Prop :=
  ∀ sl' M', R sl' M' → ∀ σ' H', Le H M H' M' → RepM K H' M' → RepS K (hide H' M') σ' sl' → σ'.length = σ.length → (∀ j, j ∉ ss → σ'[j]? = σ[j]?) → Q σ' H'
def liftG (K : PySem.W.Frag) (ss : List Nat) (g : TGD) : TG := fun v σ H Q => ∃ x sl M R, RepS K (hide H M) σ sl ∧ RepM K H M ∧ RV K (hide H M) v x ∧ g x sl M R ∧ KtG K H M ss σ R Q
def liftGs (K : PySem.W.Frag) (ss : List Nat) (g : TGsD) : TGs := fun vs σ H Q => ∃ xs sl M R, RepS K (hide H M) σ sl ∧ RepM K H M ∧ RVs K (hide H M) vs xs ∧ g xs sl M R ∧ KtG K H M ss σ R Q
abbrev DG (X : Cx) (tg : Expr) (ss : List Nat) (g : TGD) : Prop := PG X tg (liftG X.K ss g)
abbrev DGs (X : Cx) (tgs : List Expr) (ss : List Nat) (g : TGsD) : Prop := PGs X tgs (liftGs X.K ss g)
theorem PG.imp {tg : Expr} {t u : TG} (h : PG X tg t) (i : ∀ v σ H Q, u v σ H Q → t v σ H Q) : PG X tg u := ⟨fun pins s σ H v w Q I r q => h.run pins s σ H v w Q I r (i v σ H Q q)⟩
theorem PGs.imp {tg : List Expr} {t u : TGs} (h : PGs X tg t) (i : ∀ v σ H Q, u v σ H Q → t v σ H Q) : PGs X tg u := ⟨fun pins s σ H v w Q I r q => h.run pins s σ H v w Q I r (i v σ H Q q)⟩
def dgName (i : Nat) : TGD := fun x sl M R => R (sl.set i (some x)) M
theorem dg_name {i : Nat} {x : Str} (hN : X.N.Nodup) (hi : X.N[i]? = some x) (hx : Loc X.env.scope x) (hf : X.fn x = true ∨ X.env.scope.names.lookup x = some .local := by first | exact .inl rfl | exact .inr rfl | assumption) : DG X (.Name x pos) [i] (dgName i) :=
  PG.imp (pg_name (i := i) hN hi hx hf) fun v σ H Q ⟨x, sl, M, R, hs, hm, rv, hg, k⟩ => k _ M hg _ H (Le.refl _ _) hm (hs.set i rv) (by simp) (fun j hj => by
    rw [List.getElem?_set_ne]
    intro z
    exact hj (by simp [z]))
def dgNil : TGsD := fun xs sl M R => match xs with
  | [] => R sl M
  | _ :: _ => False
def dgCons (g : TGD) (t : TGsD) : TGsD := fun xs sl M R => match xs with
  | x :: r => g x sl M fun sl' M' => t r sl' M' R
  | [] => False
theorem dgs_nil : DGs X [] [] dgNil := PGs.imp pgs_nil fun v σ H Q ⟨xs, sl, M, R, hs, hm, rv, hg, k⟩ => by
  cases rv with
  | nil => exact ⟨rfl, k _ M hg _ H (Le.refl _ _) hm hs rfl fun _ _ => rfl⟩
  | cons _ _ => exact hg.elim
theorem dgs_cons {e : Expr} {es : List Expr} {s1 s2 : List Nat} {g : TGD} {t : TGsD} (h1 : DG X e s1 g) (h2 : DGs X es s2 t)
    (hs : (assignEach (e :: es) X.env).map (·.2) = assign e X.env :: (assignEach es X.env).map (·.2) := by rfl) : DGs X (e :: es) (s1 ++ s2) (dgCons g t) :=
  PGs.imp (pgs_cons h1 h2 hs) fun v σ H Q ⟨xs, sl, M, R, hs, hm, rv, hg, k⟩ => by
    cases rv with
    | nil => exact hg.elim
    | cons r1 r2 =>
      refine ⟨_, _, rfl, _, sl, M, _, hs, hm, r1, hg, fun sl' M' h σ' H' l m r len fr => ⟨_, sl', M', R, r, m, RVs.sub l r2, h, fun sl2 M2 h2 σ2 H2 l2 m2 r2 len2 fr2 => k sl2 M2 h2 σ2 H2 (l.trans l2) m2 r2 (len2.trans len) fun j hj => ?_⟩⟩
      rw [fr2 j (fun z => hj (List.mem_append_right _ z)), fr j (fun z => hj (List.mem_append_left _ z))]
def dgTup (n : Nat) (t : TGsD) : TGD := fun x sl M R => match x with
  | .d (.tuple ds) => ds.length = n ∧ t (ds.map DV.d) sl M R
  | _ => False
theorem dg_tup {es : List Expr} {k : Nat} {ss : List Nat} {t : TGsD} {n : Nat} (hc : X.calm = true) (h : DGs X es ss t)
    (hn : (assignEach es X.env).length = n := by rfl) (hst : (assignEach es X.env).findIdx? (·.1) = none := by rfl) : DG X (.Tuple es k pos) ss (dgTup n t) :=
  PG.imp (pg_tup hc h hn hst) fun v σ H Q ⟨x, sl, M, R, hs, hm, rv, hg, k⟩ => by
    unfold dgTup at hg
    split at hg
    · cases rv with
      | tup h1 r1 => exact ⟨_, _, rfl, sqT_sub (hide_sub _ _) h1, by rw [r1.len]; exact hg.1, _, sl, M, R, hs, hm, RDs.vals r1, hg.2, k⟩
    · exact hg.elim
/-- target = value -/
def dAsg (te : TD) (g : TGD) : TSD := fun D sl M => te sl M fun x M1 => g x sl M1 D.nx
theorem ds_asg {tg e : Expr} {ss : List Nat} {g : TGD} (he : DE X e te) (hg : DG X tg ss g) (hs : swapsWithSole [tg] e pos.line X.env = pure false := by rfl) (hw : swappedStores [tg] e X.env = pure none := by rfl)
    (h1 : (assignEach [tg] X.env).map (·.2) = [assign tg X.env] := by rfl) : DS X (.Assign [tg] e pos) (dAsg te g) :=
  PS.imp (ps_asg he hg hs hw h1) fun D σ H ⟨sl, M, E, hs, hm, ht, kn, kr, kb, kc⟩ => ⟨sl, M, _, hs, hm, ht, fun x M1 h1 v H1 l1 m1 r1 => ⟨x, sl, M1, _, hs.sub l1, m1, r1, h1, fun sl' M' h σ' H' l m r _ _ => kn _ _ h _ _ (l1.trans l) m r⟩⟩
/-- a, b = x, y -/
def dPar (i j : Nat) (ta : TAD) : TSD := fun D sl M => ta sl M fun xs M1 => match xs with
  | [x, y] => D.nx ((sl.set i (some x)).set j (some y)) M1
  | _ => False
theorem ds_par {i j : Nat} {x y : Str} {a b : Expr} {ta : TAD} {px py pt : Pos} {kt k2 pt2} (hc : X.calm = true) (hN : X.N.Nodup) (hi : X.N[i]? = some x) (hj : X.N[j]? = some y) (hij : i ≠ j)
    (hx : X.env.scope.names.lookup x = some .local) (hy : X.env.scope.names.lookup y = some .local) (ha : DA X [a, b] ta)
    (hw : swappedStores [.Tuple [.Name x px, .Name y py] kt pt] (.Tuple [a, b] k2 pt2) X.env = pure (some [x, y]))
    (hs : swapsWithSole [.Tuple [.Name x px, .Name y py] kt pt] (.Tuple [a, b] k2 pt2) pos.line X.env = pure false := by rfl) :
    DS X (.Assign [.Tuple [.Name x px, .Name y py] kt pt] (.Tuple [a, b] k2 pt2) pos) (dPar i j ta) :=
  PS.imp (ps_par hc hN hi hj hij hx hy ha hw hs) fun D σ H ⟨sl, M, E, hs, hm, ht, kn, kr, kb, kc⟩ => ⟨sl, M, _, hs, hm, ht, fun xs M1 h1 vs H1 l1 m1 r1 => by
    match xs, h1 with
    | [x, y], h1 =>
      cases r1 with
      | cons r1 r2 =>
        cases r2 with
        | cons r2 r3 =>
          cases r3
          exact ⟨_, _, rfl, kn _ M1 h1 _ H1 l1 m1 (((hs.sub l1).set i r1).set j r2)⟩⟩
/-- x op= e of ints -/
def dAug (i : Nat) (te : TD) (f : Int → Int → Int) : TSD := fun D sl M => match sl[i]? with
  | some (some (.d (.int n))) => te sl M fun y M1 => match y with
    | .d (.int m) => D.nx (sl.set i (some (.d (.int (f n m))))) M1
    | _ => False
  | _ => False
theorem ds_aug {i : Nat} {x : Str} {op : Operator} {f : Int → Int → Int} {pos' : Pos} (hN : X.N.Nodup) (hi : X.N[i]? = some x) (hx : Loc X.env.scope x) (he : DE X e te) (ho : PIp X op (ipI f))
    (hf : X.fn x = true ∨ X.env.scope.names.lookup x = some .local := by first | exact .inl rfl | exact .inr rfl | assumption) : DS X (.AugAssign (.Name x pos') op e pos) (dAug i te f) :=
  PS.imp (ps_aug (i := i) hN hi hx he ho hf) fun D σ H ⟨sl, M, E, hs, hm, ht, kn, kr, kb, kc⟩ => by
    unfold dAug at ht
    split at ht
    · rename_i n en
      obtain ⟨v, ev, rv⟩ := hs.2 i _ en
      cases rv
      refine ⟨_, ev, sl, M, _, hs, hm, ht, fun y M1 h1 w H1 l1 m1 r1 => ?_⟩
      split at h1
      · cases r1
        exact ⟨_, _, rfl, rfl, kn _ M1 h1 _ H1 l1 m1 ((hs.sub l1).set i (x := .d _) (.int _))⟩
      · exact h1.elim
    · exact ht.elim
/-- o[i] = e, o an owned list -/
def dStore (te to ti : TD) : TSD := fun D sl M => te sl M fun x M1 => to sl M1 fun o M2 => ti sl M2 fun i M3 => match o, i with
  | .raw (.ref p), .d (.int k) => getL M3 p fun xs => optP (ixN xs.length k) fun j => D.nx sl (updM M3 p (.lst (xs.set j x)))
  | _, _ => False
theorem ds_store {o i : Expr} {to ti : TD} {pos' : Pos} (he : DE X e te) (ho : DE X o to) (hi : DE X i ti)
    (ha : ∀ v, assign (.Subscript o i pos') X.env v = (do
      let ov ← holding [v] (eval o X.env)
      let iv ← holding [v, ov] (eval i X.env)
      standAt pos'
      holding [v, ov, iv] (setItem ov iv v)
      release [v, ov, iv] []) := by intro _; rfl) (hs : swapsWithSole [.Subscript o i pos'] e pos.line X.env = pure false := by rfl) (hw : swappedStores [.Subscript o i pos'] e X.env = pure none := by rfl)
    (h1 : (assignEach [.Subscript o i pos'] X.env).map (·.2) = [assign (.Subscript o i pos') X.env] := by rfl) : DS X (.Assign [.Subscript o i pos'] e pos) (dStore te to ti) :=
  PS.imp (ps_asg he (pg_sub ho hi set_list ha) hs hw h1) fun D σ H ⟨sl, M, E, hs, hm, ht, kn, kr, kb, kc⟩ => ⟨sl, M, _, hs, hm, ht, fun x M1 h1 v H1 l1 m1 r1 => ⟨sl, M1, _, hs.sub l1, m1, h1, fun o M2 h2 ov H2 l2 m2 r2 => ⟨sl, M2, _, hs.sub (l1.trans l2), m2, h2, fun i M3 h3 iv H3 l3 m3 r3 => by
    have l12 := l1.trans l2
    have l := l12.trans l3
    split at h3
    · rename_i p k
      obtain ⟨xs, ex, h3⟩ := getL_elim h3
      obtain ⟨j, ej, h3⟩ := optP_elim h3
      have r2' : ov = .ref p := r2
      subst r2'
      cases r3
      obtain ⟨vs, hv, rvs⟩ := m3 p _ ex
      exact ⟨p, vs, k, j, rfl, rfl, hv, by rw [RVs.len rvs]; exact ej, kn _ _ h3 _ _ (l.trans (le_write ex)) (rep_write m3 ex (RVs.set (r1.sub (l2.trans l3)) j rvs)) (hs.sub (l.trans (le_write ex)))⟩
    · exact h3.elim⟩⟩⟩
/-- o.append(e), o an owned list -/
def dAppend (to te : TD) : TSD := fun D sl M => to sl M fun o M1 => match o with
  | .raw (.ref p) => getL M1 p fun _ => te sl M1 fun x M2 => getL M2 p fun xs => xs.length < sizeLine ∧ D.nx sl (updM M2 p (.lst (xs ++ [x])))
  | _ => False
theorem ds_append {o : Expr} {to : TD} {apos cpos : Pos} (ho : DE X o to) (he : DE X e te)
    (h : ∀ {t1 : TE} {t2 : TA}, PE X o t1 → PA X [e] t2 → PS X (.Expr (.Call (.Attribute o "append" apos) [e] [] cpos) pos) (tDrop (tBM X.K "list" rAppend t1 t2)) := by
      intro t1 t2 q1 q2; exact ps_expr (pe_bm PySem.F.plainAttrs_list PySem.F.slot_list_append PySem.F.type_list_append mt_append q1 q2)) (hs : starEach [e] X.env = (false, eval e X.env) :: starEach [] X.env := by rfl) :
    DS X (.Expr (.Call (.Attribute o "append" apos) [e] [] cpos) pos) (dAppend to te) :=
  PS.imp (h ho (pa_cons he pa_nil hs)) fun D σ H ⟨sl, M, E, hs, hm, ht, kn, kr, kb, kc⟩ => ⟨sl, M, _, hs, hm, ht, fun o M1 h1 ov H1 l1 m1 r1 => by
    split at h1
    · rename_i p
      obtain ⟨ys, ey, h1⟩ := getL_elim h1
      have r1' : ov = .ref p := r1
      subst r1'
      obtain ⟨ws, hw, rws⟩ := m1 p _ ey
      refine ⟨.inl ⟨rfl, ws, SqL.of hw⟩, sl, M1, _, hs.sub l1, m1, h1, fun x M2 h2 xv H2 l2 m2 r2 => ?_⟩
      obtain ⟨xs, ex, h2⟩ := getL_elim h2
      obtain ⟨vs, hv, rvs⟩ := m2 p _ ex
      have l := l1.trans l2
      exact ⟨p, vs, xv, rfl, rfl, hv, by rw [RVs.len rvs]; exact h2.1, kn _ _ h2.2 _ _ (l.trans (le_write ex)) (rep_write m2 ex (RVs.append rvs (.cons r2 .nil))) (hs.sub (l.trans (le_write ex)))⟩
    · exact h1.elim⟩

/-! ### what is walked -/
abbrev TID := Slots → Mem → (List DV → Mem → Prop) → Prop
def ItOk (K : PySem.W.Frag) (H : Hp) (M : Mem) (J : It) (items : List DV) : Prop := ∀ H1 M1, Le H M H1 M1 → RepM K H1 M1 →
  (∀ i, i < items.length → J.go i H1 ∧ ∀ v H2, J.yld i H1 v H2 → Le H1 M1 H2 M1 ∧ RepM K H2 M1 ∧ ∃ x, items[i]? = some x ∧ RV K (hide H2 M1) v x) ∧ J.stop items.length H1
def liftI (K : PySem.W.Frag) (wi : TID) : TI := fun σ H R => ∃ sl M RR, RepS K (hide H M) σ sl ∧ RepM K H M ∧ wi sl M RR ∧ ∀ items M', RR items M' → ∀ J H', Le H M H' M' → RepM K H' M' → ItOk K H' M' J items → R J H'
abbrev DI (X : Cx) (tg iter : Expr) (wi : TID) : Prop := PI X tg iter (liftI X.K wi)
theorem PI.imp {tg iter : Expr} {t u : TI} (h : PI X tg iter t) (i : ∀ σ H Q, u σ H Q → t σ H Q) : PI X tg iter u := ⟨fun pins s σ H Q I q => h.run pins s σ H Q I (i σ H Q q)⟩
/-- a list of data, a tuple, a text -/
def diSeq (te : TD) : TID := fun sl M R => te sl M fun x M1 => match x with
  | .d (.list xs) => R (xs.map DV.d) M1
  | .d (.tuple xs) => R (xs.map DV.d) M1
  | .d (.str z) => R (z.cps.toList.map fun c => DV.d (.str ⟨#[c]⟩)) M1
  | _ => False
def iSeq (K : PySem.W.Frag) (te : TE) : TI := fun σ H R => te σ H fun x H1 => (∃ a, x = .ref a ∧ (∃ xs, SqL K H1 a xs) ∧ R (Itl K a) H1) ∨ (∃ a, x = .ref a ∧ (∃ xs, SqT K H1 a xs) ∧ R (Itt K a) H1) ∨ ∃ z, x = .str z ∧ R (Its z) H1
theorem pi_seq {tg l : Expr} {tl : TE} (hl : PE X l tl) : PI X tg l (iSeq X.K tl) := by
  refine ⟨fun pins s σ H R I h => thn (hl.run pins s σ H _ I h) fun v s1 ⟨x, H1, I1, r1, q1⟩ => ?_⟩
  have new : ∀ b ∈ [s1.heap.objs.size], FpOk X pins H1 b := fun b hb => by
    obtain rfl : b = s1.heap.objs.size := by simpa using hb
    exact I1.fpOk (Nat.le_refl _) (I1.hok.fresh (Nat.le_refl _))
  rcases q1 with ⟨a, ea, ⟨xs, hq⟩, q⟩ | ⟨a, ea, ⟨xs, hq⟩, q⟩ | ⟨z, ez, q⟩
  · subst ea
    cases r1
    obtain ⟨its, rv, p, hz⟩ := I1.list hq
    exact wpAny_pyIter_list p.isList ⟨_, _, _, _, H1, rfl, I1.kept (t' := s1.toks) fun b o e => Heap.get?_push_of_some _ e, turn_list a _, ⟨_, Heap.get?_push_size _ rfl, rfl, rfl⟩, new, q⟩
  · subst ea
    cases r1
    obtain ⟨its, rv, p, hz⟩ := I1.tuple hq
    exact wpAny_pyIter_tuple (show s1.heap.IsTuple a its.toArray from p) ⟨_, _, _, _, H1, rfl, I1.kept (t' := s1.toks) fun b o e => Heap.get?_push_of_some _ e, turn_tuple a _, ⟨_, Heap.get?_push_size _ rfl, rfl, rfl⟩, new, q⟩
  · subst ez
    obtain ⟨t, rfl⟩ := r1
    cases ha : z.cps.all (· < 128)
    · exact wpAny_pyIter_wide ha (pi_one (tk := s1.toks) I1 _ (turn_str _ z t "str_iterator" (.inr rfl)) ⟨_, Heap.get?_push_size _ rfl, rfl, rfl⟩ q)
    · exact wpAny_pyIter_ascii ha (pi_one (tk := s1.toks) I1 _ (turn_str _ z t "str_ascii_iterator" (.inl rfl)) ⟨_, Heap.get?_push_size _ rfl, rfl, rfl⟩ q)
theorem it_list {K : PySem.W.Frag} {H : Hp} {M : Mem} {a : Addr} {xs : List V} {ds : List PyData} (h : hide H M a = some (.lst xs)) (r : RDs K (hide H M) xs ds) : ItOk K H M (Itl K a) (ds.map DV.d) := fun H1 M1 l m => by
  have h1 : SqL K H1 a xs := SqL.of (hide_sub _ _ _ _ (l _ _ h))
  have len := r.len
  refine ⟨fun i hi => ?_, ⟨xs, h1, by rw [List.length_map]; omega⟩⟩
  rw [List.length_map] at hi
  refine ⟨⟨xs, xs[i], h1, by rw [List.getElem?_eq_getElem (by omega)]⟩, fun v H2 y => ?_⟩
  obtain ⟨rfl, y⟩ := y
  obtain ⟨d, ed, rd⟩ := r.getV (y xs h1)
  exact ⟨Le.refl _ _, m, .d d, by rw [List.getElem?_map, ed]; rfl, RD.sub l rd⟩
theorem it_tup {K : PySem.W.Frag} {H : Hp} {M : Mem} {a : Addr} {xs : List V} {ds : List PyData} (h : SqT K (hide H M) a xs) (r : RDs K (hide H M) xs ds) : ItOk K H M (Itt K a) (ds.map DV.d) := fun H1 M1 l m => by
  have h1 : SqT K H1 a xs := sqT_sub (hide_sub _ _) (sqT_sub l h)
  have len := r.len
  refine ⟨fun i hi => ?_, ⟨xs, h1, by rw [List.length_map]; omega⟩⟩
  rw [List.length_map] at hi
  refine ⟨⟨xs, xs[i], h1, by rw [List.getElem?_eq_getElem (by omega)]⟩, fun v H2 y => ?_⟩
  obtain ⟨rfl, y⟩ := y
  obtain ⟨d, ed, rd⟩ := r.getV (y xs h1)
  exact ⟨Le.refl _ _, m, .d d, by rw [List.getElem?_map, ed]; rfl, RD.sub l rd⟩
theorem it_str {K : PySem.W.Frag} {H : Hp} {M : Mem} {z : Str} : ItOk K H M (Its z) (z.cps.toList.map fun c => DV.d (.str ⟨#[c]⟩)) := fun H1 M1 l m => by
  refine ⟨fun i hi => ?_, ?_⟩
  · rw [List.length_map, Array.length_toList] at hi
    refine ⟨hi, fun v H2 y => ?_⟩
    obtain ⟨rfl, c, ec, rfl⟩ := y
    refine ⟨Le.refl _ _, m, .d (.str ⟨#[c]⟩), ?_, .str _⟩
    rw [List.getElem?_map, Array.getElem?_toList, ec]
    rfl
  · show z.cps.size ≤ _
    rw [List.length_map, Array.length_toList]
    exact Nat.le_refl _
theorem di_seq {tg l : Expr} (hl : DE X l te) : DI X tg l (diSeq te) :=
  PI.imp (pi_seq hl) fun σ H R ⟨sl, M, RR, hs, hm, ht, k⟩ => ⟨sl, M, _, hs, hm, ht, fun x M1 h1 v H1 l1 m1 r1 => by
    split at h1
    · cases r1 with
      | lst q1 q2 => exact .inl ⟨_, rfl, ⟨_, SqL.of (hide_sub _ _ _ _ q1)⟩, k _ M1 h1 _ H1 l1 m1 (it_list q1 q2)⟩
    · cases r1 with
      | tup q1 q2 => exact .inr (.inl ⟨_, rfl, ⟨_, sqT_sub (hide_sub _ _) q1⟩, k _ M1 h1 _ H1 l1 m1 (it_tup q1 q2)⟩)
    · cases r1
      exact .inr (.inr ⟨_, rfl, k _ M1 h1 _ H1 l1 m1 it_str⟩)
    · exact h1.elim⟩
/-- range(n), range(a, b) -/
def rangeL (lo : Int) (n : Nat) : List DV := (List.range n).map fun (i : Nat) => DV.d (.int (lo + (i : Int)))
theorem it_range {K : PySem.W.Frag} {H : Hp} {M : Mem} {lo : Int} {n : Nat} : ItOk K H M (Itr lo n) (rangeL lo n) := fun H1 M1 l m => by
  have hl : (rangeL lo n).length = n := by unfold rangeL; rw [List.length_map, List.length_range]
  refine ⟨fun i hi => ?_, ?_⟩
  · rw [hl] at hi
    refine ⟨hi, fun v H2 y => ?_⟩
    obtain ⟨rfl, rfl⟩ := y
    refine ⟨Le.refl _ _, m, .d (.int (lo + (i : Int))), ?_, .int _⟩
    unfold rangeL
    rw [List.getElem?_map, List.getElem?_range hi]
    rfl
  · rw [hl]
    exact Nat.le_refl n
def diRange1 (ta : TAD) : TID := fun sl M R => ta sl M fun xs M1 => match xs with
  | [.d (.int j)] => (-(2 ^ 62) ≤ j ∧ j < 2 ^ 62) ∧ R (rangeL 0 j.toNat) M1
  | _ => False
def diRange2 (ta : TAD) : TID := fun sl M R => ta sl M fun xs M1 => match xs with
  | [.d (.int i), .d (.int j)] => (-(2 ^ 62) ≤ i ∧ i < 2 ^ 62 ∧ -(2 ^ 62) ≤ j ∧ j < 2 ^ 62) ∧ R (rangeL i (j - i).toNat) M1
  | _ => False
theorem di_range1 {tg a : Expr} {p pos : Pos} (hg : Gl X "range") (hm : X.mg "range" = none) (ha : DA X [a] tas) (hs : starEach [a] X.env = [(false, eval a X.env)] := by rfl) : DI X tg (.Call (.Name "range" p) [a] [] pos) (diRange1 tas) :=
  PI.imp (pi_range1 hg hm ha hs) fun σ H R ⟨sl, M, RR, hs, hm, ht, k⟩ => ⟨sl, M, _, hs, hm, ht, fun x M1 h1 v H1 l1 m1 r1 => by
    split at h1
    · cases r1 with
      | cons r1 r2 =>
        cases r2
        cases r1
        exact ⟨_, rfl, h1.1.1, h1.1.2, k _ M1 h1.2 _ H1 l1 m1 it_range⟩
    · exact h1.elim⟩
theorem di_range2 {tg a b : Expr} {p pos : Pos} (hg : Gl X "range") (hm : X.mg "range" = none) (ha : DA X [a, b] tas) (hs : starEach [a, b] X.env = [(false, eval a X.env), (false, eval b X.env)] := by rfl) (hs2 : starEach [b] X.env = [(false, eval b X.env)] := by rfl) : DI X tg (.Call (.Name "range" p) [a, b] [] pos) (diRange2 tas) :=
  PI.imp (pi_range2 hg hm ha hs hs2) fun σ H R ⟨sl, M, RR, hs, hm, ht, k⟩ => ⟨sl, M, _, hs, hm, ht, fun x M1 h1 v H1 l1 m1 r1 => by
    split at h1
    · cases r1 with
      | cons r1 r2 =>
        cases r2 with
        | cons r2 r3 =>
          cases r3
          cases r1
          cases r2
          exact ⟨_, _, rfl, h1.1, k _ M1 h1.2 _ H1 l1 m1 it_range⟩
    · exact h1.elim⟩

/-! ### for, while -/
def dFor (wi : TID) (g : TGD) (tb : TSD) : TSD := fun D sl M => wi sl M fun items M1 => ∃ W : Nat → Slots → Mem → Prop, W 0 sl M1 ∧
  (∀ i x sl' M', items[i]? = some x → W i sl' M' → g x sl' M' fun sl2 M2 => tb { D with nx := W (i + 1), ct := W (i + 1), bk := D.nx } sl2 M2) ∧ ∀ sl' M', W items.length sl' M' → D.nx sl' M'
theorem ds_for {tg iter : Expr} {body : List Stmt} {wi : TID} {ss : List Nat} {g : TGD} {tb : TSD} (hp : PassesOwn (model X.prog X.w) X.A X.env X.xe) (hc : X.calm = true) (hi : DI X tg iter wi) (hg : DG X tg ss g) (hb : DSs X body tb)
    (hs : ∀ x, foldedSetIterable iter X.env x = pure x := by intro _; rfl) : DS X (.For tg iter body [] pos) (dFor wi g tb) :=
  PS.imp (ps_for hp hc hi hg hb hs) fun D σ H ⟨sl, M, E, hs, hm, ht, kn, kr, kb, kc⟩ => ⟨sl, M, _, hs, hm, ht, fun items M1 h1 J H1 l1 m1 it => by
    obtain ⟨W, w0, step, fin⟩ := h1
    refine ⟨fun i m σ' H' => m = items.length - i ∧ i ≤ items.length ∧ ∃ sl' M', RepS X.K (hide H' M') σ' sl' ∧ RepM X.K H' M' ∧ Le H1 M1 H' M' ∧ W i sl' M', ⟨_, rfl, Nat.zero_le _, sl, M1, hs.sub l1, m1, Le.refl _ _, w0⟩, ?_⟩
    rintro i m σ' H' ⟨rfl, hi, sl', M', rs, rm, le, w⟩
    obtain ⟨go, stop⟩ := it H' M' le rm
    by_cases hlt : i < items.length
    · obtain ⟨g1, y1⟩ := go i hlt
      refine .inr ⟨g1, fun σ2 H2 => ∃ sl2 M2, RepS X.K (hide H2 M2) σ2 sl2 ∧ RepM X.K H2 M2 ∧ Le H1 M1 H2 M2 ∧ W (i + 1) sl2 M2, fun σ2 H2 h => ⟨_, by omega, rfl, hlt, h⟩, fun v H2 y => ?_⟩
      obtain ⟨ly, my, x, ex, rx⟩ := y1 v H2 y
      have hstep := step i x sl' M' ex w
      refine ⟨x, sl', M', _, rs.sub ly, my, rx, hstep, fun sl2 M2 h2 σ2 H3 l3 m3 r3 _ _ => ?_⟩
      have lt := le.trans (ly.trans l3)
      exact ⟨sl2, M2, _, r3, m3, h2, fun sl4 M4 h4 σ4 H4 l4 m4 r4 => ⟨sl4, M4, r4, m4, lt.trans l4, h4⟩, kr.le (l1.trans lt), fun sl4 M4 h4 σ4 H4 l4 m4 r4 => kn sl4 M4 h4 σ4 H4 ((l1.trans lt).trans l4) m4 r4, fun sl4 M4 h4 σ4 H4 l4 m4 r4 => ⟨sl4, M4, r4, m4, lt.trans l4, h4⟩⟩
    · have e : i = items.length := by omega
      subst e
      exact .inl ⟨stop, kn sl' M' (fin sl' M' w) σ' H' (l1.trans le) rm rs⟩⟩
def dWhile (c : TTD) (tb : TSD) : TSD := fun D sl M => ∃ W : Nat → Slots → Mem → Prop, (∃ m, W m sl M) ∧ ∀ m sl M, W m sl M →
  c sl M fun k M1 => if k = true then tb { D with nx := fun sl' M' => ∃ m', m' < m ∧ W m' sl' M', ct := fun sl' M' => ∃ m', m' < m ∧ W m' sl' M', bk := D.nx } sl M1 else D.nx sl M1
theorem ds_while {body : List Stmt} {tb : TSD} (hp : PassesOwn (model X.prog X.w) X.A X.env X.xe) (hc : DT X c tA) (hb : DSs X body tb) : DS X (.While c body [] pos) (dWhile tA tb) :=
  PS.imp (ps_while hp hc hb) fun D σ H ⟨sl, M, E, hs, hm, ⟨W, ⟨m0, w0⟩, step⟩, kn, kr, kb, kc⟩ => by
    refine ⟨fun m σ' H' => ∃ sl' M', RepS X.K (hide H' M') σ' sl' ∧ RepM X.K H' M' ∧ Le H M H' M' ∧ W m sl' M', ⟨m0, sl, M, hs, hm, Le.refl _ _, w0⟩, ?_⟩
    rintro m σ' H' ⟨sl', M', rs, rm, le, w⟩
    refine ⟨sl', M', _, rs, rm, step m sl' M' w, fun k M1 h1 H1 l1 m1 => ?_⟩
    have lt := le.trans l1
    cases k with
    | true =>
      exact ⟨_, fun σ2 H2 h => h, sl', M1, _, rs.sub l1, m1, h1, fun sl4 M4 ⟨m', hm', h4⟩ σ4 H4 l4 m4 r4 => ⟨m', hm', sl4, M4, r4, m4, lt.trans l4, h4⟩, kr.le lt, fun sl4 M4 h4 σ4 H4 l4 m4 r4 => kn sl4 M4 h4 σ4 H4 (lt.trans l4) m4 r4, fun sl4 M4 ⟨m', hm', h4⟩ σ4 H4 l4 m4 r4 => ⟨m', hm', sl4, M4, r4, m4, lt.trans l4, h4⟩⟩
    | false => exact kn sl' M1 h1 σ' H1 lt m1 (rs.sub l1)
end
end DL

/-! The data layer: comprehensions; defs and their calls (where no repr is under way); the end of a law. -/
namespace DL
open PySem PySem.Spec PyProof.Rows L2

/-! ### comprehensions -/
def wipeD (sl : Slots) : List Nat → Slots
  | [] => sl
  | v :: vs => (wipeD sl vs).set v none
theorem RepS.none {K : PySem.W.Frag} {H : Hp} {σ : L2.St} {sl : Slots} (h : RepS K H σ sl) (i : Nat) : RepS K H (σ.set i none) (sl.set i none) := by
  refine ⟨by simpa using h.1, fun j y e => ?_⟩
  by_cases hj : i = j
  · subst hj
    have hi : i < sl.length := by
      have := (List.getElem?_eq_some_iff.mp e).1
      simpa using this
    rw [List.getElem?_set_self hi] at e
    cases e
  · rw [List.getElem?_set_ne hj] at e
    obtain ⟨w, e1, r1⟩ := h.2 j y e
    exact ⟨w, by rw [List.getElem?_set_ne hj]; exact e1, r1⟩
theorem RepS.wipe {K : PySem.W.Frag} {H : Hp} {σ : L2.St} {sl : Slots} (h : RepS K H σ sl) : ∀ vs : List Nat, RepS K H (L2.wipe σ vs) (wipeD sl vs)
  | [] => h
  | v :: vs => (h.wipe vs).none v
theorem wipe_get {σ σ' : L2.St} (hl : σ'.length = σ.length) : ∀ {vs : List Nat}, (∀ (j : Nat), j ∉ vs → σ'[j]? = σ[j]?) → ∀ (j : Nat), (L2.wipe σ' vs)[j]? = (L2.wipe σ vs)[j]?
  | [], h, j => h j (by simp)
  | v :: vs, h, j => by
    unfold L2.wipe
    by_cases hj : v = j
    · subst hj
      by_cases hv : v < σ.length
      · rw [List.getElem?_set_self (by rw [wipe_length]; omega), List.getElem?_set_self (by rw [wipe_length]; omega)]
      · rw [List.getElem?_eq_none (by rw [List.length_set, wipe_length]; omega), List.getElem?_eq_none (by rw [List.length_set, wipe_length]; omega)]
    · rw [List.getElem?_set_ne hj, List.getElem?_set_ne hj]
      by_cases hm : j ∈ vs
      · -- both forgotten: by the entries ahead
        have key : ∀ (τ : L2.St) (ws : List Nat), j ∈ ws → (L2.wipe τ ws)[j]? = if j < τ.length then some none else none := by
          intro τ ws
          induction ws with
          | nil => intro z; cases z
          | cons w ws ih =>
            intro z
            unfold L2.wipe
            by_cases hw : w = j
            · subst hw
              by_cases hx : w < τ.length
              · rw [List.getElem?_set_self (by rw [wipe_length]; omega), if_pos hx]
              · rw [List.getElem?_eq_none (by rw [List.length_set, wipe_length]; omega), if_neg hx]
            · rw [List.getElem?_set_ne hw]
              exact ih (by rcases List.mem_cons.mp z with q | q; exact absurd q.symm hw; exact q)
        rw [key σ' vs hm, key σ vs hm, hl]
      · have keep : ∀ (τ : L2.St) (ws : List Nat), j ∉ ws → (L2.wipe τ ws)[j]? = τ[j]? := by
          intro τ ws
          induction ws with
          | nil => intro _; rfl
          | cons w ws ih =>
            intro z
            unfold L2.wipe
            rw [List.getElem?_set_ne (fun q => z (by simp [q]))]
            exact ih fun q => z (List.mem_cons_of_mem _ q)
        rw [keep σ' vs hm, keep σ vs hm]
        exact h j (fun z => by rcases List.mem_cons.mp z with q | q; exact hj q.symm; exact hm q)
theorem wipe_wipe (σ : L2.St) (vs : List Nat) : L2.wipe (L2.wipe σ vs) vs = L2.wipe σ vs := by
  apply List.ext_getElem?
  intro j
  by_cases hm : j ∈ vs
  · have key : ∀ (τ : L2.St) (ws : List Nat), j ∈ ws → (L2.wipe τ ws)[j]? = if j < τ.length then some none else none := by
      intro τ ws
      induction ws with
      | nil => intro z; cases z
      | cons w ws ih =>
        intro z
        unfold L2.wipe
        by_cases hw : w = j
        · subst hw
          by_cases hx : w < τ.length
          · rw [List.getElem?_set_self (by rw [wipe_length]; omega), if_pos hx]
          · rw [List.getElem?_eq_none (by rw [List.length_set, wipe_length]; omega), if_neg hx]
        · rw [List.getElem?_set_ne hw]
          exact ih (by rcases List.mem_cons.mp z with q | q; exact absurd q.symm hw; exact q)
    rw [key _ vs hm, key _ vs hm, wipe_length]
  · have keep : ∀ (τ : L2.St) (ws : List Nat), j ∉ ws → (L2.wipe τ ws)[j]? = τ[j]? := by
      intro τ ws
      induction ws with
      | nil => intro _; rfl
      | cons w ws ih =>
        intro z
        unfold L2.wipe
        rw [List.getElem?_set_ne (fun q => z (by simp [q]))]
        exact ih fun q => z (List.mem_cons_of_mem _ q)
    rw [keep _ vs hm]
theorem wipe_same {σ σ' : L2.St} {vs ss : List Nat} (hl : σ'.length = (L2.wipe σ vs).length) (h : ∀ (j : Nat), j ∉ ss → σ'[j]? = (L2.wipe σ vs)[j]?) (sub : ∀ j ∈ ss, j ∈ vs) : L2.wipe σ' vs = L2.wipe σ vs := by
  have e : L2.wipe σ' vs = L2.wipe (L2.wipe σ vs) vs := List.ext_getElem? fun j => wipe_get hl (fun j hj => h j fun z => hj (sub j z)) j
  rw [e, wipe_wipe]
section
variable {X : Cx} {a b c e : Expr} {es : List Expr} {pos : Pos} {ta tb tc te : TD} {tas : TAD} {tA : TTD}
def dYes : TTD := fun _ M R => R true M
abbrev DTs (X : Cx) (ifs : List Expr) (t : TTD) : Prop := PTs X ifs (liftT X.K t)
theorem dts_nil : DTs X [] dYes := ⟨fun pins s σ H Q I ⟨sl, M, R, hs, hm, ht, k⟩ => (pts_nil (X := X)).run pins s σ H Q I (k _ M ht H (Le.refl _ _) hm)⟩
theorem dts_one (h : DT X c tA) : DTs X [c] tA := pts_one h
def dLc (wi : TID) (g : TGD) (tt : TTD) (te : TD) (vs : List Nat) : TD := fun sl M R => wi sl M fun items M1 => ∀ p, M1 p = none → ∃ P : Nat → Mem → Prop, P 0 (updM M1 p (.lst [])) ∧
  (∀ i x M, items[i]? = some x → P i M → g x (wipeD sl vs) M fun sl2 M2 => tt sl2 M2 fun k M3 => if k = true then te sl2 M3 fun y M4 => getL M4 p (fun acc => acc.length < sizeLine ∧ P (i + 1) (updM M4 p (.lst (acc ++ [y])))) else P (i + 1) M3) ∧
  ∀ M, P items.length M → getL M p fun xs => optP (allD xs) fun ds => R (.d (.list ds)) (delM M p)
theorem lc_imp {wi : TID} {ss vs : List Nat} {g : TGD} {tt : TTD} {σ : L2.St} {H : Hp} {Q : VK} (sub : ∀ j ∈ ss, j ∈ vs) (h : liftE X.K (dLc wi g tt te vs) σ H Q) :
    tLc (liftI X.K wi) (liftG X.K ss g) (liftT X.K tt) (liftE X.K te) vs σ H Q := by
  obtain ⟨sl, M, R, hs, hm, ht, k⟩ := h
  refine ⟨sl, M, _, hs, hm, ht, fun items M1 h1 J H1 l1 m1 it D nD => ?_⟩
  obtain ⟨P, p0, step, fin⟩ := h1 D (own_none m1 nD)
  refine ⟨fun i m H' => m = items.length - i ∧ i ≤ items.length ∧ ∃ M', RepM X.K H' M' ∧ Le H1 M1 H' M' ∧ P i M', ⟨_, rfl, Nat.zero_le _, _, rep_own m1 nD .nil, le_own nD, p0⟩, ?_⟩
  rintro i m H' ⟨rfl, hi, M', rm, le, w⟩
  obtain ⟨go, stop⟩ := it H' M' le rm
  by_cases hlt : i < items.length
  · obtain ⟨g1, y1⟩ := go i hlt
    refine .inr ⟨g1, fun H2 => ∃ M2, RepM X.K H2 M2 ∧ Le H1 M1 H2 M2 ∧ P (i + 1) M2, fun H2 h => ⟨_, by omega, rfl, hlt, h⟩, fun v H2 y => ?_⟩
    obtain ⟨ly, my, x, ex, rx⟩ := y1 v H2 y
    have hst := step i x M' ex w
    have rs : RepS X.K (hide H2 M') (L2.wipe σ vs) (wipeD sl vs) := (hs.sub (l1.trans (le.trans ly))).wipe vs
    refine ⟨x, _, M', _, rs, my, rx, hst, fun sl2 M2 h2 σ2 H3 l3 m3 r3 len fr => ⟨wipe_same len fr sub, ?_⟩⟩
    refine ⟨sl2, M2, _, r3, m3, h2, fun kk M3 h3 H4 l4 m4 => ?_⟩
    have lt := le.trans (ly.trans (l3.trans l4))
    cases kk with
    | false => exact ⟨M3, m4, lt, h3⟩
    | true =>
      refine ⟨sl2, M3, _, r3.sub l4, m4, h3, fun yv M5 h5 u H5 l5 m5 r5 => ?_⟩
      obtain ⟨acc, ea, h5⟩ := getL_elim h5
      obtain ⟨av, ha, ra⟩ := m5 D _ ea
      exact ⟨av, ha, by rw [RVs.len ra]; exact h5.1, _, rep_write m5 ea (RVs.append ra (.cons r5 .nil)), (lt.trans l5).trans (le_write ea), h5.2⟩
  · have e : i = items.length := by omega
    subst e
    obtain ⟨xs, ex, hf⟩ := getL_elim (fin M' w)
    obtain ⟨ds, ed, hf2⟩ := optP_elim hf
    have ed' := allD_map ed
    subst ed'
    obtain ⟨vs', hv, rv⟩ := rm D _ ex
    have ld : Le H' M' H' (delM M' D) := le_del (K := X.K)
    have hp : delM M' D D = none := by unfold delM; rw [if_pos rfl]
    exact .inl ⟨stop, k _ _ hf2 _ _ (l1.trans (le.trans ld)) (rep_del rm) (.lst (hide_of hv hp) (RDs.sub ld (RVs.data rv)))⟩
/-- a comprehension whose list stays owned -/
def dLcO (wi : TID) (g : TGD) (tt : TTD) (te : TD) (vs : List Nat) : TD := fun sl M R => wi sl M fun items M1 => ∀ p, M1 p = none → ∃ P : Nat → Mem → Prop, P 0 (updM M1 p (.lst [])) ∧
  (∀ i x M, items[i]? = some x → P i M → g x (wipeD sl vs) M fun sl2 M2 => tt sl2 M2 fun k M3 => if k = true then te sl2 M3 fun y M4 => getL M4 p (fun acc => acc.length < sizeLine ∧ P (i + 1) (updM M4 p (.lst (acc ++ [y])))) else P (i + 1) M3) ∧
  ∀ M, P items.length M → R (.raw (.ref p)) M
theorem lcO_imp {wi : TID} {ss vs : List Nat} {g : TGD} {tt : TTD} {σ : L2.St} {H : Hp} {Q : VK} (sub : ∀ j ∈ ss, j ∈ vs) (h : liftE X.K (dLcO wi g tt te vs) σ H Q) :
    tLc (liftI X.K wi) (liftG X.K ss g) (liftT X.K tt) (liftE X.K te) vs σ H Q := by
  obtain ⟨sl, M, R, hs, hm, ht, k⟩ := h
  refine ⟨sl, M, _, hs, hm, ht, fun items M1 h1 J H1 l1 m1 it D nD => ?_⟩
  obtain ⟨P, p0, step, fin⟩ := h1 D (own_none m1 nD)
  refine ⟨fun i m H' => m = items.length - i ∧ i ≤ items.length ∧ ∃ M', RepM X.K H' M' ∧ Le H1 M1 H' M' ∧ P i M', ⟨_, rfl, Nat.zero_le _, _, rep_own m1 nD .nil, le_own nD, p0⟩, ?_⟩
  rintro i m H' ⟨rfl, hi, M', rm, le, w⟩
  obtain ⟨go, stop⟩ := it H' M' le rm
  by_cases hlt : i < items.length
  · obtain ⟨g1, y1⟩ := go i hlt
    refine .inr ⟨g1, fun H2 => ∃ M2, RepM X.K H2 M2 ∧ Le H1 M1 H2 M2 ∧ P (i + 1) M2, fun H2 h => ⟨_, by omega, rfl, hlt, h⟩, fun v H2 y => ?_⟩
    obtain ⟨ly, my, x, ex, rx⟩ := y1 v H2 y
    have hst := step i x M' ex w
    have rs : RepS X.K (hide H2 M') (L2.wipe σ vs) (wipeD sl vs) := (hs.sub (l1.trans (le.trans ly))).wipe vs
    refine ⟨x, _, M', _, rs, my, rx, hst, fun sl2 M2 h2 σ2 H3 l3 m3 r3 len fr => ⟨wipe_same len fr sub, ?_⟩⟩
    refine ⟨sl2, M2, _, r3, m3, h2, fun kk M3 h3 H4 l4 m4 => ?_⟩
    have lt := le.trans (ly.trans (l3.trans l4))
    cases kk with
    | false => exact ⟨M3, m4, lt, h3⟩
    | true =>
      refine ⟨sl2, M3, _, r3.sub l4, m4, h3, fun yv M5 h5 u H5 l5 m5 r5 => ?_⟩
      obtain ⟨acc, ea, h5⟩ := getL_elim h5
      obtain ⟨av, ha, ra⟩ := m5 D _ ea
      exact ⟨av, ha, by rw [RVs.len ra]; exact h5.1, _, rep_write m5 ea (RVs.append ra (.cons r5 .nil)), (lt.trans l5).trans (le_write ea), h5.2⟩
  · have e : i = items.length := by omega
    subst e
    exact .inl ⟨stop, k _ _ (fin M' w) _ _ (l1.trans le) rm rfl⟩
theorem de_lc {elt tg iter : Expr} {ifs : List Expr} {scope : Scope} {own : List (Str × Nat)} {wi : TID} {ss : List Nat} {g : TGD} {tt : TTD} (hc : X.calm = true) (hN : X.N.Nodup) (hi : DI X tg iter wi) (ok : BlkOk X.N X.env.scope scope own)
    (hg : ∀ (s : Shared) (H : Hp) (C : Addr) (cl : List (Str × Addr)) (fp : List Addr), DG (X.blk s H scope (compEnvC scope cl C X.env) fp) tg ss g)
    (ht : ∀ (s : Shared) (H : Hp) (C : Addr) (cl : List (Str × Addr)) (fp : List Addr), DTs (X.blk s H scope (compEnvC scope cl C X.env) fp) ifs tt)
    (he : ∀ (s : Shared) (H : Hp) (C : Addr) (cl : List (Str × Addr)) (fp : List Addr), DE (X.blk s H scope (compEnvC scope cl C X.env) fp) elt te)
    (sub : ∀ j ∈ ss, j ∈ own.map (·.2)) (hs : ∀ x, foldedSetIterable iter X.env x = pure x := by intro _; rfl) :
    DE X (.ListComp elt [⟨tg, iter, ifs, 0⟩] scope pos) (dLc wi g tt te (own.map (·.2))) :=
  PE.imp (pe_lc hc hN hi ok hg ht he hs) fun _ _ _ h => lc_imp sub h
theorem ds_setLc {i : Nat} {y : Str} {py spos : Pos} {elt tg iter : Expr} {ifs : List Expr} {scope : Scope} {own : List (Str × Nat)} {wi : TID} {ss : List Nat} {g : TGD} {tt : TTD} (hc : X.calm = true) (hN : X.N.Nodup) (hy : X.N[i]? = some y) (hyl : X.env.scope.names.lookup y = some .local)
    (hsw : swapsWith (.ListComp elt [⟨tg, iter, ifs, 0⟩] scope pos) (some (.Name y py)) spos.line X.env = pure true) (hi : DI X tg iter wi) (ok : BlkOk X.N X.env.scope scope own)
    (hg : ∀ (s : Shared) (H : Hp) (C : Addr) (cl : List (Str × Addr)) (fp : List Addr), DG (X.blk s H scope (compEnvC scope cl C X.env) fp) tg ss g)
    (ht : ∀ (s : Shared) (H : Hp) (C : Addr) (cl : List (Str × Addr)) (fp : List Addr), DTs (X.blk s H scope (compEnvC scope cl C X.env) fp) ifs tt)
    (he : ∀ (s : Shared) (H : Hp) (C : Addr) (cl : List (Str × Addr)) (fp : List Addr), DE (X.blk s H scope (compEnvC scope cl C X.env) fp) elt te)
    (sub : ∀ j ∈ ss, j ∈ own.map (·.2)) (hs : ∀ x, foldedSetIterable iter X.env x = pure x := by intro _; rfl) :
    DS X (.Assign [.Name y py] (.ListComp elt [⟨tg, iter, ifs, 0⟩] scope pos) spos) (dSet i (dLc wi g tt te (own.map (·.2)))) :=
  PS.imp (ps_setLc hc hN hy hyl hsw hi ok hg ht he hs) fun D σ H ⟨sl, M, E, hs, hm, ht, kn, kr, kb, kc⟩ => lc_imp sub ⟨sl, M, _, hs, hm, ht, fun x M1 h1 v H1 l1 m1 r1 => kn _ M1 h1 _ H1 l1 m1 ((hs.sub l1).set i r1)⟩
theorem ds_setLcO {i : Nat} {y : Str} {py spos : Pos} {elt tg iter : Expr} {ifs : List Expr} {scope : Scope} {own : List (Str × Nat)} {wi : TID} {ss : List Nat} {g : TGD} {tt : TTD} (hc : X.calm = true) (hN : X.N.Nodup) (hy : X.N[i]? = some y) (hyl : X.env.scope.names.lookup y = some .local)
    (hsw : swapsWith (.ListComp elt [⟨tg, iter, ifs, 0⟩] scope pos) (some (.Name y py)) spos.line X.env = pure true) (hi : DI X tg iter wi) (ok : BlkOk X.N X.env.scope scope own)
    (hg : ∀ (s : Shared) (H : Hp) (C : Addr) (cl : List (Str × Addr)) (fp : List Addr), DG (X.blk s H scope (compEnvC scope cl C X.env) fp) tg ss g)
    (ht : ∀ (s : Shared) (H : Hp) (C : Addr) (cl : List (Str × Addr)) (fp : List Addr), DTs (X.blk s H scope (compEnvC scope cl C X.env) fp) ifs tt)
    (he : ∀ (s : Shared) (H : Hp) (C : Addr) (cl : List (Str × Addr)) (fp : List Addr), DE (X.blk s H scope (compEnvC scope cl C X.env) fp) elt te)
    (sub : ∀ j ∈ ss, j ∈ own.map (·.2)) (hs : ∀ x, foldedSetIterable iter X.env x = pure x := by intro _; rfl) :
    DS X (.Assign [.Name y py] (.ListComp elt [⟨tg, iter, ifs, 0⟩] scope pos) spos) (dSet i (dLcO wi g tt te (own.map (·.2)))) :=
  PS.imp (ps_setLc hc hN hy hyl hsw hi ok hg ht he hs) fun D σ H ⟨sl, M, E, hs, hm, ht, kn, kr, kb, kc⟩ => lcO_imp sub ⟨sl, M, _, hs, hm, ht, fun x M1 h1 v H1 l1 m1 r1 => kn _ M1 h1 _ H1 l1 m1 ((hs.sub l1).set i r1)⟩
end

/-! ### a def where no repr is under way -/
structure FnG (P : Program) (w : World) (K : PySem.W.Frag) (mg : Str → Option Value) (base : Heap) (CX : CXT) (k : Nat) (f : Addr) (fd : FuncData) (ps : List Str) (sp : Sp) : Prop where
  len : ∀ vs H Q E, sp vs H Q E → vs.length = ps.length
  run : ∀ (A : Around) (outer : List Env) (s : Shared) (H : Hp) (args : Args) (us : List Value) (vs : List V) (Q : VK) (E : XK), A.guards = some [] → Room k A → Env0 P w K mg base A outer s H →
    BindsTo s fd args (ps.zip us) → Vals vs us → sp vs H Q E → codeAny (model P w) A (.call (.ref f) args) (CR CX outer P w H s Q E) s
section
variable {P : Program} {w : World} {K : PySem.W.Frag} {mg : Str → Option Value} {base : Heap} {CX : CXT} {k : Nat} {f : Addr} {fd : FuncData} {ps : List Str} {sp : Sp}
theorem FnG.mono {j : Nat} (F : FnG P w K mg base CX j f fd ps sp) (h : j ≤ k) : FnG P w K mg base CX k f fd ps sp := ⟨F.len, fun A outer s H args us vs Q E hg hr => F.run A outer s H args us vs Q E hg (hr.mono h)⟩
theorem fnG_of {name qual : Str} {params : Arguments} {body : List Stmt} {scope : Scope} {dV kV doc pm cdv ct oc : Value} {an od : Option Addr} {osl : Array (Option Value)} {N : List Str}
    (lk : K.lookup f = some ⟨oc, od, .func (PySem.W.fnOf name qual params body scope dV kV doc pm an cdv ct), osl⟩) (hcd : PySem.W.codeIn K cdv qual = true) (S : FnScope N ps scope) (len : ∀ vs H Q E, sp vs H Q E → vs.length = ps.length)
    (hbody : ∀ (A : Around) (outer : List Env) (s : Shared) (H : Hp) (vs : List V) (Q : VK) (E : XK), A.guards = some [] → Room k (A.deeper (envOfC qual scope s.heap.objs.size f cdv)) → sp vs H Q E →
      ∃ t, PSs (cxOf CX P w K mg base N qual scope f cdv A outer s H E) body t ∧ t { nx := fun _ H' => Q .non H', rt := Q } (start N vs) H) :
    FnG P w K mg base CX (k + 1) f (PySem.W.fnOf name qual params body scope dV kV doc pm an cdv ct) ps sp := by
  refine ⟨len, fun A outer s H args us vs Q E hgd hr e0 hb r hsp => ?_⟩
  have kept : ∀ b o, base.get? b = some o → s.heap.get? b = some o := fun b o e => (e0.bs b o e).1
  have inK : K.In s.heap := e0.mod.kin.keeps kept
  have kinds : ∀ y ∈ ps.zip us, scope.names.lookup y.1 = some .local ∨ (scope.names.lookup y.1 = some .cell ∧ ((cellsFrom (s.heap.objs.size + 1) scope.names []).lookup y.1).isSome = true) := by
    rintro ⟨n, v⟩ hy
    exact (S.par n (List.of_mem_zip hy).1).imp id fun q => ⟨q, PySem.W.cellsFrom_some _ _ _ (.inl q)⟩
  refine codeAny_call_function hr.depth (inK _ _ lk) rfl S.co S.gen rfl (PySem.W.codeRec_of inK hcd) (hb _ _ _ _ (wpAny_newFunctionEnv_cells S.kind kinds ?_))
  intro env he s1 x
  subst he
  refine ⟨(e0.mod.nolimit.keeps kept).keeps x.toInCall.keep, codeAny_func ?_⟩
  obtain ⟨t, ht, hq⟩ := hbody A outer s H vs Q E hgd (hr.deeper _) hsp
  refine wpAny_mono (ht.run [] s1 (start N vs) H _ (inv_start S hr.hd e0 (len _ _ _ _ hsp) r x) hq) ?_ fun e s' hs => hs
  intro fl s' hs
  cases fl with
  | ret u =>
    obtain ⟨v, σ', H', J, rv, q⟩ := hs
    exact ⟨v, H', J.os, J.bare, J.base, J.hok, rv, q⟩
  | next =>
    obtain ⟨σ', H', J, q⟩ := hs
    exact ⟨.non, H', J.os, J.bare, J.base, J.hok, rfl, q⟩
  | brk =>
    obtain ⟨_, _, _, q⟩ := hs
    exact q.elim
  | cont =>
    obtain ⟨_, _, _, q⟩ := hs
    exact q.elim
end
section
variable {X : Cx} {CX : CXT} {k : Nat} {f : Addr} {fd : FuncData} {ps : List Str} {sp : Sp} {dvs : List V} {ds : List Value} {E : XK} {x : Str} {p pos : Pos} {e : Expr} {es : List Expr} {t : TA}
theorem runG {pins : List (Addr × Obj)} {σ : L2.St} {H : Hp} {s : Shared} {Q : VK} {us : List Value} {vs : List V} (hgd : X.A.guards = some []) (F : FnG X.prog X.w X.K X.mg X.base CX k f fd ps sp) (hr : Room k X.A) (hb : Binds X.K fd ps ds) (hd : Vals dvs ds) (hx : Passes CX X E)
    (I : Inv X pins σ H s) (r : Vals vs us) (h : sp (vs ++ dvs) H Q E) : wpAny (model X.prog X.w) X.A (call (.ref f) us) (EP X pins σ Q) X.xe s := by
  have r2 : Vals (vs ++ dvs) (us ++ ds) := r.append hd
  have hl : (us ++ ds).length = ps.length := r2.length.symm.trans (F.len _ _ _ _ h)
  refine wpAny_call (codeAny_mono (F.run X.A X.stack s H ⟨us, []⟩ _ _ Q E hgd hr I.env0 (hb s us I.kIn hl) r2 h) ?_)
  intro r s' hq
  match r, hq with
  | .error e, hq => exact hx pins σ H s e s' I hq
  | .ok (.ret u), hq => exact I.after hq
theorem pe_callG (hgd : X.A.guards = some []) (F : FnG X.prog X.w X.K X.mg X.base CX k f fd ps sp) (hr : Room k X.A) (hg : Gl X x) (hm : X.mg x = some (.ref f)) (hk : PySem.W.keepIn X.K (.ref f) = true) (hb : Binds X.K fd ps ds) (hd : Vals dvs ds) (hx : Passes CX X E)
    (ha : PA X (e :: es) t) (hdb : (x == ("__debug__" : Str)) = false) (he : starEach (e :: es) X.env = (false, eval e X.env) :: starEach es X.env) (hpl : (backTo pos (starEach es X.env)).any (·.1) = false) :
    PE X (.Call (.Name x p) (e :: es) [] pos) (tCall sp dvs E t) :=
  ⟨fun pins s σ H Q I h => wpAny_Call_Name_kw (ld_glob I hg hm (PySem.W.callWith_K (h₀ := X.base) I.ok.mod.kin hk (thn (ha.run pos pins s σ H _ I h) fun us s1 ⟨vs, H1, I1, r, q⟩ => ⟨I1.kIn, runG hgd F hr hb hd hx I1 r q⟩) he hpl) hdb)⟩
end

/-! ### promises over data -/
abbrev SpD := List DV → Mem → KD → Prop
def liftSp (K : PySem.W.Frag) (sp : SpD) : Sp := fun vs H Q _ => ∃ xs M R, RVs K (hide H M) vs xs ∧ RepM K H M ∧ sp xs M R ∧ Kt K H M R Q
def startD (N : List Str) (xs : List DV) : Slots := xs.map some ++ List.replicate (N.length - xs.length) none
theorem rep_start {K : PySem.W.Frag} {H : Hp} (N : List Str) {vs : List V} {xs : List DV} (r : RVs K H vs xs) : RepS K H (start N vs) (startD N xs) := by
  have hl := RVs.len r
  refine ⟨by simp [L2.start, startD, hl], fun i x e => ?_⟩
  unfold startD at e
  by_cases hi : i < xs.length
  · rw [List.getElem?_append_left (by simpa using hi), List.getElem?_map] at e
    cases ex : xs[i]? with
    | none => rw [ex] at e; cases e
    | some y =>
      rw [ex] at e
      cases e
      obtain ⟨v, ev, rv⟩ := RVs.get r ex
      exact ⟨v, by unfold L2.start; rw [List.getElem?_append_left (by rw [List.length_map]; omega), List.getElem?_map, ev]; rfl, rv⟩
  · rw [List.getElem?_append_right (by simpa using hi), List.getElem?_replicate] at e
    split at e <;> cases e
section
variable {P : Program} {w : World} {K : PySem.W.Frag} {mg : Str → Option Value} {base : Heap}
/-- THE RULE for a def over data -/
theorem fn_data {x qual : Str} {st : Stmt} {f : Addr} {fd : FuncData} {N ps : List Str} {k : Nat} {sp : SpD} (F : Fun K x qual st f fd) (S : FnScope N ps (defScope st)) (len : ∀ xs M R, sp xs M R → xs.length = ps.length) (t : TSD)
    (hbody : ∀ (cdv : Value) (A : Around) (outer : List Env) (s : Shared) (H : Hp) (E : XK), A.guards = some [] → Room k (A.deeper (envOfC qual (defScope st) s.heap.objs.size f cdv)) →
      DSs (cxOf CX0 P w K mg base N qual (defScope st) f cdv A outer s H E).nox (defBody st) t)
    (pure : ∀ xs M R, sp xs M R → t { nx := fun _ M' => R (.d .none) M', rt := R } (startD N xs) M) : FnG P w K mg base CX0 (k + 1) f fd ps (liftSp K sp) := by
  obtain ⟨oc, od, kV, doc, pm, an, cdv, ct, osl, rfl, lk, hcd⟩ := F.ex
  refine fnG_of lk hcd S (fun vs H Q E ⟨xs, M, R, rv, _, hs, _⟩ => (RVs.len rv).trans (len xs M R hs)) fun A outer s H vs Q E hg hr ⟨xs, M, R, rv, hm, hs, k⟩ => ⟨liftS K t, (hbody cdv A outer s H E hg hr).nox, ?_⟩
  exact ⟨_, M, _, rep_start N rv, hm, pure xs M R hs, fun sl M' h σ' H' l m r => k _ M' h _ H' l m .non, k, fun _ _ z => z.elim, fun _ _ z => z.elim⟩
end
section
variable {X : Cx} {k : Nat} {f : Addr} {fd : FuncData} {ps : List Str} {sp : SpD} {x : Str} {p pos : Pos} {e : Expr} {es : List Expr} {tas : TAD}
/-- f(e, ..) by its promise over data; dv: the defaults that fill up -/
theorem de_call {dvs : List V} {xds : List DV} {ds : List Value} (hgd : X.A.guards = some []) (F : FnG X.prog X.w X.K X.mg X.base CX0 k f fd ps (liftSp X.K sp)) (hr : Room k X.A) (hg : Gl X x) (hm : X.mg x = some (.ref f)) (hk : PySem.W.keepIn X.K (.ref f) = true) (hb : Binds X.K fd ps ds) (hd : Vals dvs ds) (hdv : ∀ H, RVs X.K H dvs xds)
    (ha : DA X (e :: es) tas) (hdb : (x == ("__debug__" : Str)) = false := by decide) (he : starEach (e :: es) X.env = (false, eval e X.env) :: starEach es X.env := by rfl) (hpl : (backTo pos (starEach es X.env)).any (·.1) = false := by rfl) :
    DE X (.Call (.Name x p) (e :: es) [] pos) (dCall (fun xs M R => sp (xs ++ xds) M R) tas) :=
  PE.imp (pe_callG (E := E0) hgd F hr hg hm hk hb hd pass0 ha hdb he hpl) fun σ H Q ⟨sl, M, R, hs, hm, ht, k⟩ =>
    ⟨sl, M, _, hs, hm, ht, fun xs M1 h1 vs H1 l1 m1 r1 => ⟨xs ++ xds, M1, R, RVs.append r1 (hdv _), m1, h1, k.le l1⟩⟩
theorem de_call0 (hgd : X.A.guards = some []) (F : FnG X.prog X.w X.K X.mg X.base CX0 k f fd ps (liftSp X.K sp)) (hr : Room k X.A) (hg : Gl X x) (hm : X.mg x = some (.ref f)) (hk : PySem.W.keepIn X.K (.ref f) = true) (hb : Binds X.K fd ps [])
    (ha : DA X (e :: es) tas) (hdb : (x == ("__debug__" : Str)) = false := by decide) (he : starEach (e :: es) X.env = (false, eval e X.env) :: starEach es X.env := by rfl) (hpl : (backTo pos (starEach es X.env)).any (·.1) = false := by rfl) :
    DE X (.Call (.Name x p) (e :: es) [] pos) (dCall sp tas) :=
  PE.imp (pe_callG (E := E0) (dvs := []) hgd F hr hg hm hk hb .nil pass0 ha hdb he hpl) fun σ H Q ⟨sl, M, R, hs, hm, ht, k⟩ =>
    ⟨sl, M, _, hs, hm, ht, fun xs M1 h1 vs H1 l1 m1 r1 => ⟨xs, M1, R, by simpa using r1, m1, h1, k.le l1⟩⟩
end
end DL

/-! The data layer: the end of a law. -/
namespace DL
open PySem PySem.Spec PyProof.Rows L2
section
variable {P : Program} {w : World} {K : PySem.W.Frag} {mg mb : Str → Option Value} {CX : CXT} {k : Nat} {fa a : Addr} {fd : FuncData} {x : Str} {sp : Sp} {s₁ : Shared} {vs : List Value} {ns : List Int}
/-- the law's run over an abstract heap in which at most the script is tracked, locked -/
theorem law_at {H : Hp} (hH : ∀ b, H b ≠ none → b = a ∧ K.lookup a = none ∧ ∃ xs, H b = some (.frz { cls := .type "list", data := .seq vs.toArray } (.lst xs))) (hok : HOk P w H s₁.heap)
    (KX : K.In s₁.heap) (hns : s₁.heap.Ns mainGlobals mg) (hb : s₁.heap.Ns builtinsNs mb) (hbb : ∀ x : Str, x ≠ "__name__" → mb x = bootBuiltins x) (hlim : s₁.heap.NoLimit) (hg : s₁.gens = #[])
    (ha : s₁.heap.get? a = some { cls := .type "list", data := .seq vs.toArray }) (hr : Room k callerA)
    (F : ∀ base : Heap, K.In base → base.Ns mainGlobals mg → FnG P w K mg base CX k fa fd [x] sp) (hbind : ∀ (s : Shared) (u : Value), BindsTo s fd ⟨[u], []⟩ [(x, u)])
    (hsp : sp [.ref a] H (fun v _ => v = .bl true) fun _ _ _ => False) (hCX : ∀ e s', CX [] H s₁ (fun _ _ _ => False) e s' → False) :
    codeAny (model P w) callerA (.call (.ref fa) ⟨[.ref a], []⟩) (fun r s' => r = .ok (.ret (.bool true)) ∧ OldK s₁.heap s'.heap ∧ s'.os = s₁.os ∧ AllBare s'.gens) s₁ := by
  have noList : ∀ {b : Addr} {o : Obj}, s₁.heap.get? b = some o → (∀ its n, o.data ≠ .seq its n) → H b = none := fun {b o} e nd => by
    cases q : H b with
    | none => rfl
    | some u =>
      obtain ⟨rfl, _⟩ := hH b (by rw [q]; simp)
      rw [ha] at e
      cases e
      exact absurd rfl (nd _ _)
  have ns1 : ∀ {b : Addr} {m : Str → Option Value}, s₁.heap.Ns b m → (hidT s₁.heap H).Ns b m := by
    rintro b m ⟨o, es, ep, e, d, r⟩
    exact ⟨o, es, ep, hidT_get e (noList e fun its n z => by rw [d] at z; cases z), d, r⟩
  have inB : K.In (hidT s₁.heap H) := by
    intro b o e
    refine hidT_get (KX b o e) ?_
    cases q : H b with
    | none => rfl
    | some u =>
      obtain ⟨rfl, hk, _⟩ := hH b (by rw [q]; simp)
      rw [hk] at e
      cases e
  have md : Mod K mg (hidT s₁.heap H) := by
    refine ⟨inB, ns1 hns, ⟨mb, ns1 hb, hbb⟩, ?_⟩
    obtain ⟨mc, h1, h2⟩ := hlim
    exact ⟨mc, ns1 h1, h2⟩
  have nofr : ∀ b : Addr, b ∉ frs ([] : List Env) := fun b z => by cases z
  have e0 : Env0 P w K mg (hidT s₁.heap H) callerA [] s₁ H := ⟨rfl, md, fun _ _ e => of_hidT e, Nat.le_of_eq (hidT_size _ _), trivial, fun b z => absurd z (nofr b), hok, .of_eq hg⟩
  refine codeAny_mono ((F _ inB (ns1 hns)).run callerA [] s₁ H ⟨[.ref a], []⟩ [.ref a] [.ref a] _ _ rfl hr e0 (hbind s₁ (.ref a)) (.cons rfl .nil) hsp) ?_
  intro r s' h
  match r, h with
  | .error e, h => exact (hCX e s' h).elim
  | .ok (.ret u), h =>
    obtain ⟨v, H', os, bare, un, hok', r', q⟩ := h
    have q' : v = .bl true := q
    subst q'
    obtain rfl : u = Value.bool true := r'
    refine ⟨rfl, OldK.of_keep fun b o e => ?_, os, bare⟩
    cases hq : H b with
    | none => exact un.keep b o e hq (nofr b) (by simp)
    | some u =>
      obtain ⟨rfl, _, xs, z⟩ := hH b (by rw [hq]; simp)
      obtain ⟨e2, _⟩ := hok' b _ (un.frzs b _ _ z)
      rw [ha] at e
      cases e
      exact e2
theorem law_run (KX : K.In s₁.heap) (hns : s₁.heap.Ns mainGlobals mg) (hb : s₁.heap.Ns builtinsNs mb) (hbb : ∀ x : Str, x ≠ "__name__" → mb x = bootBuiltins x) (hlim : s₁.heap.NoLimit) (hg : s₁.gens = #[])
    (ha : s₁.heap.get? a = some { cls := .type "list", data := .seq vs.toArray }) (hi : IntsAre vs ns) (hl : ns.length ≤ sizeLine) (hr : Room k callerA)
    (F : ∀ base : Heap, K.In base → base.Ns mainGlobals mg → FnG P w K mg base CX k fa fd [x] sp) (hbind : ∀ (s : Shared) (u : Value), BindsTo s fd ⟨[u], []⟩ [(x, u)])
    (hsp : ∀ H : Hp, SqL K H a (ns.map V.int) → sp [.ref a] H (fun v _ => v = .bl true) fun _ _ _ => False) (hCX : ∀ H e s', CX [] H s₁ (fun _ _ _ => False) e s' → False) :
    codeAny (model P w) callerA (.call (.ref fa) ⟨[.ref a], []⟩) (fun r s' => r = .ok (.ret (.bool true)) ∧ OldK s₁.heap s'.heap ∧ s'.os = s₁.os ∧ AllBare s'.gens) s₁ := by
  have rv := vals_ints hi
  cases hk : K.lookup a with
  | some o =>
    have e := KX a o hk
    rw [ha] at e
    cases e
    have sq : SqL K (fun _ => none) a (ns.map V.int) := .inr ⟨_, vs.toArray, _, hk, rfl, rfl, rfl, by rw [List.size_toArray, hi.length]; exact hl, by simpa using rv⟩
    exact law_at (H := fun _ => none) (fun b z => absurd rfl z) (fun b u z => by cases z) KX hns hb hbb hlim hg ha hr F hbind (hsp _ sq) fun e s' => hCX _ e s'
  | none =>
    have at1 : (fun b => if b = a then some (HO.frz { cls := .type "list", data := .seq vs.toArray } (.lst (ns.map V.int))) else none : Hp) a = some (.frz { cls := .type "list", data := .seq vs.toArray } (.lst (ns.map V.int))) := if_pos rfl
    refine law_at (H := fun b => if b = a then some (.frz { cls := .type "list", data := .seq vs.toArray } (.lst (ns.map V.int))) else none) (fun b z => ?_) (fun b u z => ?_) KX hns hb hbb hlim hg ha hr F hbind (hsp _ (.inl (.inr ⟨_, at1⟩))) fun e s' => hCX _ e s'
    · by_cases hb : b = a
      · exact ⟨hb, hk, _, if_pos hb⟩
      · exact absurd (if_neg hb) z
    · by_cases hb : b = a
      · have z' := (if_pos hb).symm.trans z
        cases z'
        subst hb
        exact ⟨ha, by rw [List.length_map]; exact hl, vs, _, rv, ha⟩
      · have z' := (if_neg hb).symm.trans z
        cases z'
end
/-- the goal that k_head leaves, from the law's promise -/
theorem walk_data {l : PySem.W.OpenLaw} {n k : Nat} {q : Program} {loose : List Str} {XP : (Str → Option Value) → Heap → Prop} {YP : World → Heap → Prop} {d : DefRec} {K : Params → PySem.W.Frag} {CX : CXT} {sp : PySem.W.Frag → Sp} {x : Str}
    (hn : l.most = some n) (hn2 : n ≤ sizeLine) (hdf : d.params.defaults = []) (hr : Room k callerA) (hY : ∀ (w : World) (h : Heap), YP w h → (K w.params).In h)
    (F : ∀ (w : World) (mg : Str → Option Value) (fa : Addr) (h : Heap), (K w.params).In h → h.Ns mainGlobals mg → mg d.name = some (.ref fa) →
      ∃ fd : FuncData, (∀ (s : Shared) (u : Value), BindsTo s fd ⟨[u], []⟩ [(x, u)]) ∧ ∀ base : Heap, (K w.params).In base → base.Ns mainGlobals mg → FnG l.prog w (K w.params) mg base CX k fa fd [x] (sp (K w.params)))
    (hsp : ∀ (K : PySem.W.Frag) (H : Hp) (a : Addr) (ns : List Int), ns.length ≤ n → SqL K H a (ns.map V.int) → sp K [.ref a] H (fun v _ => v = .bl true) fun _ _ _ => False)
    (hCX : ∀ (H : Hp) (s : Shared) (e : Value) (s' : Shared), CX [] H s (fun _ _ _ => False) e s' → False) : PySem.W.WalkO q loose XP YP l.row.toRowW d [] (fun f vs => PySem.call f vs) := by
  refine Att.attach_call hn hdf ?_
  intro w s₀ s₁ mg mb fa o pm cd doc a vs ns G Y ho hd hcd hmg hobj hints hlen hg
  obtain ⟨fd, hb, hF⟩ := F w mg fa _ (hY w _ Y) G.T.g hmg
  exact law_run (hY w _ Y) G.T.g G.T.b G.T.builtins G.T.nolimit hg hobj hints (Nat.le_trans hlen hn2) hr hF hb (fun H hS => hsp _ H a ns hlen hS) fun H e s' => hCX H s₁ e s'
/-- a law's promise -/
def spLaw (K : PySem.W.Frag) : Sp := fun vs H Q _ => ∃ (a : Addr) (ns : List Int), vs = [.ref a] ∧ SqL K H a (ns.map V.int) ∧ ns.length ≤ 63 ∧ ∀ H', Q (.bl true) H'
end DL

/-! The data layer: products of tuples and lists by ints. -/
namespace DL
open PySem PySem.Spec PyProof.Rows L2
theorem tmul_none (l : Addr) (items : Array Value) (n : Nat) (dd : Option Addr) (sl : Array (Option Value)) (x : Int) (u : Tok) (c0 : (decide (x < -(2 ^ 63)) || decide (x ≥ 2 ^ 63)) = false) (c1 : (items.isEmpty || x == 1) = false) (c2 : (decide (x ≤ 0) || items.isEmpty) = true) :
    Meets (Builtin.«tuple.__mul__» ⟨[.ref l, .int x u], []⟩) (fun _ R s => s.heap.get? l = some { cls := .type "tuple", dict := dd, data := .seq items n, slots := sl } ∧
      R (.ok (.ret (Value.ref s.heap.objs.size))) { s with heap := s.heap.push { cls := Value.type "tuple", data := Data.seq #[] }, toks := s.toks }) :=
  .of_wp fun prog w A R s h => by
    obtain ⟨hp, g, d, tk, os⟩ := s
    obtain ⟨hl, h⟩ := h
    have f1 := AutoSeq1.idx_int
    wp_walk using wpAny_loadPart' hl
    repeat (first
      | (refine wpAny_ite_false (decide_eq_false (by rw [c0]; exact Bool.false_ne_true)) ?_; wp_walk using wpAny_loadPart' hl)
      | (refine wpAny_ite_false (decide_eq_false (by rw [c1]; exact Bool.false_ne_true)) ?_; wp_walk using wpAny_loadPart' hl)
      | (refine wpAny_ite_true (decide_eq_true c2) ?_; wp_walk using wpAny_loadPart' hl))
    exact ⟨_, rfl, h⟩
theorem tmul_one (l : Addr) (items : Array Value) (n : Nat) (dd : Option Addr) (sl : Array (Option Value)) (x : Int) (u : Tok) (c0 : (decide (x < -(2 ^ 63)) || decide (x ≥ 2 ^ 63)) = false) (c1 : (items.isEmpty || x == 1) = true) :
    Meets (Builtin.«tuple.__mul__» ⟨[.ref l, .int x u], []⟩) (fun _ R s => s.heap.get? l = some { cls := .type "tuple", dict := dd, data := .seq items n, slots := sl } ∧ R (.ok (.ret (Value.ref l))) s) :=
  .of_wp fun prog w A R s h => by
    obtain ⟨hp, g, d, tk, os⟩ := s
    obtain ⟨hl, h⟩ := h
    have f1 := AutoSeq1.idx_int
    wp_walk using wpAny_loadPart' hl
    repeat (first
      | (refine wpAny_ite_false (decide_eq_false (by rw [c0]; exact Bool.false_ne_true)) ?_; wp_walk using wpAny_loadPart' hl)
      | (refine wpAny_ite_true (decide_eq_true c1) ?_; wp_walk using wpAny_loadPart' hl))
    exact ⟨_, rfl, h⟩
section
variable {X : Cx} {M : Mem}
/-- the items of xs, k times -/
def rep {α : Type} (xs : List α) (k : Int) : List α := (List.replicate k.toNat xs).flatten
theorem RDs.rep {K : PySem.W.Frag} {H : Hp} {vs : List V} {ds : List PyData} (r : RDs K H vs ds) : ∀ n : Nat, RDs K H (List.replicate n vs).flatten (List.replicate n ds).flatten
  | 0 => .nil
  | n + 1 => by
    rw [List.replicate_succ, List.replicate_succ, List.flatten_cons, List.flatten_cons]
    exact r.append (r.rep n)
def rRepA (K : PySem.W.Frag) : R2 := fun x y H Q => ∃ l k xs, x = .ref l ∧ y = .int k ∧ SqT K H l xs ∧ xs ≠ [] ∧ -1000 ≤ k ∧ k ≤ 1000 ∧ xs.length ≤ 1000 ∧ (k = 1 → Q (.ref l) H) ∧ (k ≠ 1 → ∀ p, H p = none → Q (.ref p) (upd H p (.tup (List.replicate k.toNat xs).flatten)))
theorem op_repA : OpR X (binaryOp .Mult) (rRepA X.K) := by
  intro pins s σ H x y v u Q I rx ry h
  obtain ⟨l, k, xs, rfl, rfl, hT, hne, h1, h2, hz, q1, q2⟩ := h
  by_cases h3 : 2 ≤ k
  · exact op_repT pins s σ H _ _ v u Q I rx ry ⟨l, k, xs, rfl, rfl, hT, hne, h3, h2, hz, q2 (by omega)⟩
  · cases rx
    obtain ⟨t, rfl⟩ := ry
    obtain ⟨its, r, ⟨⟨cls, dd, data, sl⟩, ho, hc, n, hd⟩, hs⟩ := I.tuple hT
    simp only at hc hd
    subst hc hd
    have hi : its.toArray.isEmpty = false := by
      cases r with
      | nil => exact absurd rfl hne
      | cons _ _ => rfl
    have c0 : (decide (k < -(2 ^ 63)) || decide (k ≥ 2 ^ 63)) = false := by
      rw [decide_eq_false (by omega), decide_eq_false (by omega)] <;> rfl
    have go : ∀ {Q' : Value → Shared → Prop} {S : Around → (Result → Shared → Prop) → Shared → Prop}, Meets (Builtin.«tuple.__mul__» ⟨[.ref l, .int k t], []⟩) S → (∀ A R, (∀ v s', Q' v s' → R (.ok (.ret v)) s') → S A R s) → wpAny (model X.prog X.w) X.A (binaryOp .Mult (.ref l) (.int k t)) Q' X.xe s := by
      intro Q' S me hS
      exact wpAny_binaryOp_repeat_ref (T := "tuple") (U := "int") (by decide) ⟨_, ho, rfl⟩ (fun s' => typeIs_int s' k t) noFill_tuple_mul F.fills_int_mul F.slot_int_rmul repeat_tuple F.slot_int_index.lookup
        (call_meets F.slot_int_rmul (typeIs_int s k t) F.entry_int_rmul (F.args_int_rmul_2 _ _) (int_rmul_tuple k t l its.toArray n dd sl)
          ⟨ho, rfl, ⟨_, ho, rfl⟩, call_meets F.slot_tuple_mul ⟨_, ho, rfl⟩ F.entry_tuple_mul (F.args_tuple_mul_2 _ _) me (hS _ _ fun _ _ z => z)⟩)
    by_cases h4 : k = 1
    · refine go (tmul_one l its.toArray n dd sl k t c0 (by rw [hi, h4] <;> rfl)) fun A R hR => ⟨ho, hR _ _ ⟨.ref l, H, I, rfl, q1 h4⟩⟩
    · refine go (tmul_none l its.toArray n dd sl k t c0 (by rw [hi, Bool.false_or]; exact beq_eq_false_iff_ne.mpr h4) (by rw [decide_eq_true (by omega)] <;> rfl)) fun A R hR => ⟨ho, hR _ _ ?_⟩
      have e0 : k.toNat = 0 := by omega
      refine ⟨.ref s.heap.objs.size, _, I.laid (t' := s.toks) (o := .tup (List.replicate k.toNat xs).flatten) (fun b ob q => Heap.get?_push_of_some _ q) (Nat.le_refl _) ?_, rfl, q2 h4 _ (I.hok.fresh (Nat.le_refl _))⟩
      rw [e0]
      exact ⟨Nat.zero_le _, [], .nil, IsTup.new _ _⟩
def mulD : PyData → PyData → Mem → KD → Prop
  | .int i, .int j, M, R => (CMul i j ∨ CMulW i j) ∧ R (.d (.int (i * j))) M
  | .tuple xs, .int k, M, R => (xs ≠ [] ∧ -1000 ≤ k ∧ k ≤ 1000 ∧ xs.length ≤ 1000) ∧ R (.d (.tuple (rep xs k))) M
  | .list xs, .int k, M, R => (-(2 ^ 63) ≤ k ∧ k < 2 ^ 63 ∧ xs.length * k.toNat ≤ sizeLine) ∧ R (.d (.list (rep xs k))) M
  | _, _, _, _ => False
theorem od_mul : OpD X (binaryOp .Mult) (g2 mulD) := opd fun pins s σ H x y v u Q dx dy M R I rv ru hm rx ry hg k => by
  cases rx with
  | int i =>
    cases ry with
    | int j =>
      rcases hg with ⟨hc | hc, hg⟩
      · exact op_mul pins s σ H _ _ v u Q I rv ru ⟨i, j, rfl, rfl, hc, kt_same k hm hg (.int _)⟩
      · exact op_mulW pins s σ H _ _ v u Q I rv ru ⟨i, j, rfl, rfl, hc, kt_same k hm hg (.int _)⟩
    | _ => exact hg.elim
  | tup h1 r1 =>
    cases ry with
    | int j =>
      rename_i a xs ds
      obtain ⟨⟨n1, n2, n3, n4⟩, hg⟩ := hg
      refine op_repA pins s σ H _ _ v u Q I rv ru ⟨_, j, _, rfl, rfl, sqT_sub (hide_sub _ _) h1, fun z => n1 (by subst z; cases r1; rfl), n2, n3, by rw [r1.len]; exact n4, fun e => ?_, fun _ p n => ?_⟩
      · have e1 : rep ds j = ds := by
          unfold rep
          rw [e]
          simp
        rw [e1] at hg
        exact kt_same k hm hg (.tup h1 r1)
      · exact kt_new k hm n hg (rd_tupN hm n (r1.rep _))
    | _ => exact hg.elim
  | lst h1 r1 =>
    cases ry with
    | int j =>
      obtain ⟨⟨n1, n2, n3⟩, hg⟩ := hg
      exact op_rep pins s σ H _ _ v u Q I rv ru ⟨_, j, _, rfl, rfl, hide_sub _ _ _ _ h1, n1, n2, by rw [r1.len]; exact n3, fun p n => kt_new k hm n hg (rd_lstN hm n (r1.rep _))⟩
    | _ => exact hg.elim
  | _ => exact hg.elim
/-- list * int, the new list owned -/
def repO : G2
  | .d (.list xs), .d (.int k), M, R => (-(2 ^ 63) ≤ k ∧ k < 2 ^ 63 ∧ xs.length * k.toNat ≤ sizeLine) ∧ ∀ p, M p = none → R (.raw (.ref p)) (updM M p (.lst ((rep xs k).map DV.d)))
  | _, _, _, _ => False
theorem od_repO : OpD X (binaryOp .Mult) repO := by
  intro pins s σ H x y v u Q I rx ry hh
  obtain ⟨dx, dy, M, R, hm, r1, r2, hg, k⟩ := hh
  unfold repO at hg
  split at hg
  · cases r2
    cases r1 with
    | lst h1 r1 =>
      obtain ⟨⟨n1, n2, n3⟩, hg⟩ := hg
      exact op_rep pins s σ H _ _ v u Q I rx ry ⟨_, _, _, rfl, rfl, hide_sub _ _ _ _ h1, n1, n2, by rw [r1.len]; exact n3, fun p n => k _ _ (hg p (own_none hm n)) _ _ (le_own n) (rep_own hm n (RDs.vals (r1.rep _))) rfl⟩
  · exact hg.elim
end
end DL

/-! The data layer: enumerate of a list or a tuple. -/
namespace DL
open PySem PySem.Spec PyProof.Rows L2
open AutoSeq1 (wpAny_loadPart')
theorem enum_newT (l : Addr) (items : Array Value) (n : Nat) (dct : Option Addr) (sl : Array (Option Value)) :
    Meets (Builtin.«enumerate.__new__» ⟨[.type "enumerate", .ref l], []⟩) (fun _ R s => s.heap.get? l = some { cls := .type "tuple", dict := dct, data := .seq items n, slots := sl } ∧
      R (.ok (.ret (.ref (s.heap.push { cls := .type "tuple_iterator", data := .fields #[.ref l, .int 0 0] }).objs.size)))
        { s with heap := (s.heap.push { cls := .type "tuple_iterator", data := .fields #[.ref l, .int 0 0] }).push { cls := .type "enumerate", data := .fields #[.none, .bool false, .ref s.heap.objs.size, rawInt 0, .none, .none] } }) :=
  .of_wp fun prog w A R s h => by
    obtain ⟨hp, g, d, tk, os⟩ := s
    obtain ⟨hl, h⟩ := h
    have hsub := sub_enumerate
    have hL : Heap.IsTuple (Shared.heap ⟨hp, g, d, tk, os⟩) l items := ⟨_, hl, rfl, n, rfl⟩
    wp_walk using wpAny_loadPart' hl
    refine wpAny_stack_any fun st => wpAny_pure ?_
    split
    · rename_i c _ _ _ _ _
      cases (c == Value.type "enumerate")
      · wp_walk using wpAny_loadPart' hl, wpAny_pyIter_tuple hL
        exact ⟨_, rfl, h⟩
      · wp_walk using wpAny_loadPart' hl, wpAny_pyIter_tuple hL
        exact ⟨_, rfl, h⟩
    · wp_walk using wpAny_loadPart' hl, wpAny_pyIter_tuple hL
      exact ⟨_, rfl, h⟩
section
variable {prog : Program} {w : World} {A : Around} {E : Value → Shared → Prop} {s : Shared}
theorem call_enumT {l : Addr} {items : Array Value} {Q : Value → Shared → Prop} (hL : s.heap.IsTuple l items)
    (h : ∀ h', IsEnum h' (s.heap.objs.size + 1) s.heap.objs.size 0 .none → h'.IsTupleIter s.heap.objs.size l 0 → h'.objs.size = s.heap.objs.size + 2 →
      (∀ b o, s.heap.get? b = some o → h'.get? b = some o) → Q (.ref (s.heap.objs.size + 1)) { s with heap := h' }) : wpAny (model prog w) A (call (.type "enumerate") [.ref l]) Q E s := by
  obtain ⟨⟨c, dct, dt, sl⟩, hl, hc, n, hd⟩ := hL
  simp only at hc hd
  subst hc hd
  refine callType_new F.called_enumerate (by decide) (F.typeCall_enumerate_1 _) (F.newCall_enumerate_1 _) (fun obj => F.args_object_init_2 obj _) F.entry_enumerate_new (enum_newT l items n dct sl) ⟨hl, ?_⟩
  have hz : (s.heap.push { cls := .type "tuple_iterator", data := .fields #[.ref l, .int 0 0] }).objs.size = s.heap.objs.size + 1 := Heap.size_push ..
  show _ ∧ _
  rw [hz]
  have he : IsEnum ((s.heap.push { cls := .type "tuple_iterator", data := .fields #[.ref l, .int 0 0] }).push
      { cls := .type "enumerate", data := .fields #[.none, .bool false, .ref s.heap.objs.size, rawInt 0, .none, .none] }) (s.heap.objs.size + 1) s.heap.objs.size 0 .none := by
    have q := Heap.get?_push_size (s.heap.push { cls := .type "tuple_iterator", data := .fields #[.ref l, .int 0 0] }) (o := { cls := .type "enumerate", data := .fields #[.none, .bool false, .ref s.heap.objs.size, rawInt 0, .none, .none] }) rfl
    rw [hz] at q
    exact q
  exact ⟨⟨_, he, rfl⟩, h _ he ⟨_, Heap.get?_push_of_some _ (Heap.get?_push_size _ rfl), rfl, rfl⟩ (by rw [Heap.size_push, hz]) fun b o x => Heap.get?_push_of_some _ (Heap.get?_push_of_some _ x)⟩
end
/-- the tuple at a, each item in a new pair -/
def IteT (K : PySem.W.Frag) (a : Addr) : It :=
  ⟨fun i H => ∃ (xs : List V) (x : V), SqT K H a xs ∧ xs[i]? = some x, fun i H v H' => ∃ T x, v = .ref T ∧ H T = none ∧ H' = upd H T (.tup [.int (i : Nat), x]) ∧ ∀ xs, SqT K H a xs → xs[i]? = some x, fun i H => ∃ xs : List V, SqT K H a xs ∧ xs.length = i⟩
theorem turn_enumT {P : Program} {w : World} {K : PySem.W.Frag} {elts : List Expr} {kk : Nat} {tpos : Pos} (a e it : Addr) :
    Turn P w K (.Tuple elts kk tpos) (IteT K a) [e, it] e (fun i h => (∃ old, IsEnum h e it ((i : Nat) : Int) old) ∧ h.IsTupleIter it a i ∧ e ≠ it ∧ a ≠ it ∧ e ≠ a) where
  mem := by simp
  obj := fun i h st b hb => by
    obtain ⟨⟨old, he⟩, ⟨o, ho, hc, hd⟩, _⟩ := st
    have e' : b = e ∨ b = it := by simpa using hb
    rcases e' with z | z
    · rw [z]
      exact ⟨_, he, fun v q => nomatch q⟩
    · rw [z]
      exact ⟨o, ho, fun v q => by rw [hd] at q; cases q⟩
  keep := fun i h h' st k => let ⟨⟨old, he⟩, hi, hne⟩ := st; ⟨⟨old, k e (by simp) _ he⟩, hi.at fun o q => k it (by simp) o q, hne⟩
  item := by
    intro X hP hw hK hc i pins s σ H E I hf st hg
    subst hP hw hK
    obtain ⟨⟨old, he⟩, hit, hne, hai, hea⟩ := st
    obtain ⟨xs, x, hq, hx⟩ := hg
    obtain ⟨its, rv, p, hz⟩ := I.tuple hq
    obtain ⟨u, hu, ru⟩ := rv.get hx
    have hlen := rv.length
    have hi : i < its.toArray.size := by
      rw [List.size_toArray]
      exact (List.getElem?_eq_some_iff.mp hu).1
    have hel : e < s.heap.objs.size := Heap.lt_size he
    have hil : it < s.heap.objs.size := by obtain ⟨_, q, _⟩ := hit; exact Heap.lt_size q
    refine wpAny_pyNext_enum_itemD (Draws.tuple (A := X.A.in1) (I.ok.hd hc) it a hai its.toArray) he ⟨hit, p⟩ hi hne (by simp [hne, hea]) fun u' h' tk pu ho hst hT hsz hk => ?_
    have eu : u' = u := by
      have q : its.toArray[i]? = some u := by simpa using hu
      exact Option.some.inj (pu.symm.trans q)
    subst eu
    refine ⟨_, rfl, wpAny_letOwnedTupleGo_enum (s := { s with heap := h', toks := tk + 1 }) ho fun h'' he' sb => ?_⟩
    have hT2 : h''.get? s.heap.objs.size = some { cls := .type "tuple", data := .seq #[.int i tk, u'] } := (sb.2 _ (Nat.ne_of_gt hel)).trans hT
    have new : ObjOk X.prog X.w (upd H s.heap.objs.size (.tup [.int (i : Nat), x])) h'' s.heap.objs.size (.tup [.int (i : Nat), x]) :=
      ⟨by show 2 ≤ sizeLine; decide, [.int i tk, u'], .cons ⟨_, rfl⟩ (.cons ru .nil), ⟨_, hT2, rfl, _, rfl⟩⟩
    have I1 : Inv X pins σ (upd H s.heap.objs.size (.tup [.int (i : Nat), x])) { s with heap := h'', toks := tk + 1 } :=
      I.turnedNew (ch := [e, it]) (fun b ob hb q => (sb.2 b (fun z => hb (by simp [z]))).trans (hk b ob (fun z => hb (by simp [z])) (fun z => hb (by simp [z])) q)) hf (Nat.le_refl _) new
    refine ⟨.ref s.heap.objs.size, _, I1, rfl, ⟨_, x, rfl, I.hok.fresh (Nat.le_refl _), rfl, fun ys hy => by rw [I.tuple_inj hy hq]; exact hx⟩, ⟨⟨u', ?_⟩, hst.1.at fun o q => (sb.2 it (Ne.symm hne)).trans q, hne, hai, hea⟩, fun b hb => ?_⟩
    · have e1 : ((i + 1 : Nat) : Int) = (i : Int) + 1 := by omega
      rw [e1]
      exact he'
    · have hb' : b < s.heap.objs.size := by
        have e' : b = e ∨ b = it := by simpa using hb
        rcases e' with z | z
        · rw [z]; exact hel
        · rw [z]; exact hil
      rw [upd_ne (Nat.ne_of_lt hb')]
      exact (hf b hb).1
  done := by
    intro X hP hw hK hc i pins s σ H E I hf st hg
    subst hP hw hK
    obtain ⟨⟨old, he⟩, hit, hne, hai, hea⟩ := st
    obtain ⟨xs, hq, hx⟩ := hg
    obtain ⟨its, rv, p, hz⟩ := I.tuple hq
    obtain ⟨f0, f1, f2, f3, f4, f5⟩ := hf it (by simp)
    have hl := rv.length
    have ei : its.toArray.size = i := by rw [List.size_toArray]; omega
    exact wpAny_pyNext_enum_endD (Draws.tuple (A := X.A.in1) (I.ok.hd hc) it a hai its.toArray) he (by rw [ei]; exact ⟨hit, p⟩) fun h' eb => ⟨rfl, I.turned (t' := s.toks) (fun b o hb q => eb b o hb q) f0 f1 f3 f4 f5⟩
  self := fun A i s Q E st h => let ⟨⟨_, he⟩, _⟩ := st; wpAny_pyIter_enum he h
def iEnumA (K : PySem.W.Frag) (ta : TA) : TI := fun σ H R => ta σ H fun vs H1 => (∃ a xs, vs = [.ref a] ∧ SqL K H1 a xs ∧ R (Ite K a) H1) ∨ ∃ a xs, vs = [.ref a] ∧ SqT K H1 a xs ∧ R (IteT K a) H1
theorem pi_enumA {X : Cx} {e : Expr} {ta : TA} {p pos tpos : Pos} {elts : List Expr} {kk : Nat} (hg : Gl X "enumerate") (hm : X.mg "enumerate" = none) (ha : PA X [e] ta) (hs : starEach [e] X.env = [(false, eval e X.env)]) :
    PI X (.Tuple elts kk tpos) (.Call (.Name "enumerate" p) [e] [] pos) (iEnumA X.K ta) := by
  refine ⟨fun pins s σ H R I h => ?_⟩
  refine Call_ (ld_blt I hg hm boot_enumerate (PyProof.Rows.callWith_type1 (thn (ha.run pos pins s σ H _ I h) ?_) hs rfl))
  intro us s1 hh
  obtain ⟨vs, H1, I1, r1, q1⟩ := hh
  have new : ∀ b ∈ [s1.heap.objs.size + 1, s1.heap.objs.size], FpOk X pins H1 b := fun b hb => by
    have hle : s1.heap.objs.size ≤ b := by
      rcases List.mem_cons.mp hb with z | z
      · omega
      · rw [List.mem_singleton.mp z]; exact Nat.le_refl _
    exact I1.fpOk hle (I1.hok.fresh hle)
  rcases q1 with ⟨a, xs, ex, hq, q⟩ | ⟨a, xs, ex, hq, q⟩
  · subst ex
    obtain ⟨u, rfl, ru⟩ := vals1 r1
    cases ru
    obtain ⟨its, rv, p', hz⟩ := I1.list hq
    refine call_enumerate_list p'.isList fun h' he hit hsz hk => wpAny_pyIter_enum he ?_
    exact ⟨_, _, _, _, H1, rfl, I1.kept (t' := s1.toks) hk, turn_enum a (s1.heap.objs.size + 1) s1.heap.objs.size, ⟨⟨.none, he⟩, hit, Nat.succ_ne_self _⟩, new, q⟩
  · subst ex
    obtain ⟨u, rfl, ru⟩ := vals1 r1
    cases ru
    obtain ⟨its, rv, p', hz⟩ := I1.tuple hq
    have hal : a < s1.heap.objs.size := p'.lt
    refine call_enumT p' fun h' he hit hsz hk => wpAny_pyIter_enum he ?_
    exact ⟨_, _, _, _, H1, rfl, I1.kept (t' := s1.toks) hk, turn_enumT a (s1.heap.objs.size + 1) s1.heap.objs.size, ⟨⟨.none, he⟩, hit, Nat.succ_ne_self _, Nat.ne_of_lt hal, Nat.ne_of_gt (Nat.lt_succ_of_lt hal)⟩, new, q⟩
section
variable {X : Cx} {tas : TAD}
def enumL (ds : List PyData) : List DV := ds.zipIdx.map fun p => DV.d (.tuple [.int (p.2 : Nat), p.1])
theorem enumL_len (ds : List PyData) : (enumL ds).length = ds.length := by unfold enumL; rw [List.length_map, List.length_zipIdx]
theorem enumL_get (ds : List PyData) (i : Nat) : (enumL ds)[i]? = ds[i]?.map fun d => DV.d (.tuple [.int (i : Nat), d]) := by
  unfold enumL
  rw [List.getElem?_map, List.getElem?_zipIdx]
  cases ds[i]? <;> simp
def diEnum (ta : TAD) : TID := fun sl M R => ta sl M fun xs M1 => match xs with
  | [.d (.list ds)] => R (enumL ds) M1
  | [.d (.tuple ds)] => R (enumL ds) M1
  | _ => False
theorem pair_ok {K : PySem.W.Frag} {H1 H2 : Hp} {M1 : Mem} {T : Addr} {i : Nat} {x : V} {d : PyData} (m : RepM K H1 M1) (n : H1 T = none) (e : H2 = upd H1 T (.tup [.int (i : Nat), x])) (rd : RD K (hide H1 M1) x d) :
    Le H1 M1 H2 M1 ∧ RepM K H2 M1 ∧ RD K (hide H2 M1) (.ref T) (.tuple [.int (i : Nat), d]) := by
  subst e
  exact ⟨le_new n, rep_new m n, rd_tupN m n (.cons (.int _) (.cons rd .nil))⟩
theorem it_enumL {K : PySem.W.Frag} {H : Hp} {M : Mem} {a : Addr} {xs : List V} {ds : List PyData} (h : hide H M a = some (.lst xs)) (r : RDs K (hide H M) xs ds) : ItOk K H M (Ite K a) (enumL ds) := fun H1 M1 l m => by
  have h1 : SqL K H1 a xs := SqL.of (hide_sub _ _ _ _ (l _ _ h))
  have len := r.len
  refine ⟨fun i hi => ?_, ⟨xs, h1, by rw [enumL_len]; omega⟩⟩
  rw [enumL_len] at hi
  refine ⟨⟨xs, xs[i], h1, by rw [List.getElem?_eq_getElem (by omega)]⟩, fun v H2 y => ?_⟩
  obtain ⟨T, x, rfl, n, e, y⟩ := y
  obtain ⟨d, ed, rd⟩ := r.getV (y xs h1)
  obtain ⟨p1, p2, p3⟩ := pair_ok m n e (RD.sub l rd)
  exact ⟨p1, p2, .d (.tuple [.int (i : Nat), d]), by rw [enumL_get, ed]; rfl, p3⟩
theorem it_enumT {K : PySem.W.Frag} {H : Hp} {M : Mem} {a : Addr} {xs : List V} {ds : List PyData} (h : SqT K (hide H M) a xs) (r : RDs K (hide H M) xs ds) : ItOk K H M (IteT K a) (enumL ds) := fun H1 M1 l m => by
  have h1 : SqT K H1 a xs := sqT_sub (hide_sub _ _) (sqT_sub l h)
  have len := r.len
  refine ⟨fun i hi => ?_, ⟨xs, h1, by rw [enumL_len]; omega⟩⟩
  rw [enumL_len] at hi
  refine ⟨⟨xs, xs[i], h1, by rw [List.getElem?_eq_getElem (by omega)]⟩, fun v H2 y => ?_⟩
  obtain ⟨T, x, rfl, n, e, y⟩ := y
  obtain ⟨d, ed, rd⟩ := r.getV (y xs h1)
  obtain ⟨p1, p2, p3⟩ := pair_ok m n e (RD.sub l rd)
  exact ⟨p1, p2, .d (.tuple [.int (i : Nat), d]), by rw [enumL_get, ed]; rfl, p3⟩
theorem di_enum {e : Expr} {p pos tpos : Pos} {elts : List Expr} {kk : Nat} (hg : Gl X "enumerate") (hm : X.mg "enumerate" = none) (ha : DA X [e] tas) (hs : starEach [e] X.env = [(false, eval e X.env)] := by rfl) :
    DI X (.Tuple elts kk tpos) (.Call (.Name "enumerate" p) [e] [] pos) (diEnum tas) :=
  PI.imp (pi_enumA hg hm ha hs) fun σ H R ⟨sl, M, RR, hs, hm, ht, k⟩ => ⟨sl, M, _, hs, hm, ht, fun x M1 h1 v H1 l1 m1 r1 => by
    split at h1
    · cases r1 with
      | cons r1 r2 =>
        cases r2
        cases r1 with
        | lst q1 q2 => exact .inl ⟨_, _, rfl, SqL.of (hide_sub _ _ _ _ q1), k _ M1 h1 _ H1 l1 m1 (it_enumL q1 q2)⟩
    · cases r1 with
      | cons r1 r2 =>
        cases r2
        cases r1 with
        | tup q1 q2 => exact .inr ⟨_, _, rfl, sqT_sub (hide_sub _ _) q1, k _ M1 h1 _ H1 l1 m1 (it_enumT q1 q2)⟩
    · exact h1.elim⟩
end
end DL

/-! The data layer: defs and constants of the text by name; chains; isinstance, all, any, list. -/
namespace DL
open PySem PySem.Spec PyProof.Rows L2
/-- a def of the text, by its name, its level and its promise (defaults filled up within) -/
structure Def (P : Program) (w : World) (K : PySem.W.Frag) (mg : Str → Option Value) (base : Heap) (x : Str) (k : Nat) (sp : SpD) : Prop where
  ex : ∃ (f : Addr) (fd : FuncData) (ps : List Str) (spF : SpD) (ds : List Value) (dvs : List V) (xds : List DV), FnG P w K mg base CX0 k f fd ps (liftSp K spF) ∧ mg x = some (.ref f) ∧ PySem.W.keepIn K (.ref f) = true ∧
    Binds K fd ps ds ∧ Vals dvs ds ∧ (∀ H, RVs K H dvs xds) ∧ ∀ xs M R, sp xs M R → spF (xs ++ xds) M R
/-- a constant of the text -/
structure Glb (K : PySem.W.Frag) (mg : Str → Option Value) (x : Str) (d : DV) : Prop where
  ex : ∃ v u, mg x = some u ∧ RelV v u ∧ ∀ H, RV K H v d
section
variable {P : Program} {w : World} {K : PySem.W.Frag} {mg : Str → Option Value} {base : Heap}
theorem Def.of {x : Str} {k : Nat} {sp : SpD} {f : Addr} {fd : FuncData} {ps : List Str} (F : FnG P w K mg base CX0 k f fd ps (liftSp K sp)) (m : mg x = some (.ref f)) (kp : PySem.W.keepIn K (.ref f) = true) (b : Binds K fd ps []) : Def P w K mg base x k sp :=
  ⟨f, fd, ps, sp, [], [], [], F, m, kp, b, .nil, fun _ => .nil, fun xs M R h => by rw [List.append_nil]; exact h⟩
/-- a def as it stands behind the top, whatever its defaults -/
structure FunA (K : PySem.W.Frag) (x qual : Str) (st : Stmt) (dV : Value) (f : Addr) (fd : FuncData) : Prop where
  ex : ∃ (oc : Value) (od : Option Addr) (kV doc pm : Value) (an : Option Addr) (cdv ct : Value) (osl : Array (Option Value)),
    fd = PySem.W.fnOf x qual (defArgs st) (defBody st) (defScope st) dV kV doc pm an cdv ct ∧ K.lookup f = some ⟨oc, od, .func fd, osl⟩ ∧ PySem.W.codeIn K cdv qual = true
  kp : PySem.W.keepIn K (.ref f) = true
theorem funA_mk {x qual : Str} {st : Stmt} {f : Addr} {oc : Value} {od an : Option Addr} {osl : Array (Option Value)} {dV kV doc pm cdv ct : Value} (l : K.lookup f = some ⟨oc, od, .func (PySem.W.fnOf x qual (defArgs st) (defBody st) (defScope st) dV kV doc pm an cdv ct), osl⟩)
    (c : PySem.W.codeIn K cdv qual = true) (k : PySem.W.keepIn K (.ref f) = true) : FunA K x qual st dV f (PySem.W.fnOf x qual (defArgs st) (defBody st) (defScope st) dV kV doc pm an cdv ct) := ⟨⟨oc, od, kV, doc, pm, an, cdv, ct, osl, rfl, l, c⟩, k⟩
theorem FunA.binds {x qual : Str} {st : Stmt} {f : Addr} {fd : FuncData} {dV : Value} {ps : List Str} (F : FunA K x qual st dV f fd)
    (h : ∀ (kV doc pm : Value) (an : Option Addr) (cdv ct : Value) (us : List Value), us.length = ps.length → bindArgs (PySem.W.fnOf x qual (defArgs st) (defBody st) (defScope st) dV kV doc pm an cdv ct) ⟨us, []⟩ = pure (ps.zip us)) : Binds K fd ps [] := by
  obtain ⟨oc, od, kV, doc, pm, an, cdv, ct, osl, rfl, lk, hcd⟩ := F.ex
  exact .all (h kV doc pm an cdv ct)
/-- a def with defaults: m values are written, those behind the first j fill up -/
theorem FunA.bindsD {x qual : Str} {st : Stmt} {f T : Addr} {fd : FuncData} {ps : List Str} {tc : Value} {td : Option Addr} {its : List Value} {n : Nat} {ts : Array (Option Value)} (F : FunA K x qual st (.ref T) f fd) (lT : K.lookup T = some ⟨tc, td, .seq its.toArray n, ts⟩) (m j : Nat) (hm : m + (its.length - j) = ps.length)
    (h : ∀ (kV doc pm : Value) (an : Option Addr) (cdv ct : Value) (us : List Value), us.length = m → ∃ k, bindArgs (PySem.W.fnOf x qual (defArgs st) (defBody st) (defScope st) (.ref T) kV doc pm an cdv ct) ⟨us, []⟩ = seqItems? (.ref T) >>= k ∧ k (some its.toArray) = pure (ps.zip (us ++ its.drop j))) : Binds K fd ps (its.drop j) := by
  obtain ⟨oc, od, kV, doc, pm, an, cdv, ct, osl, rfl, lk, hcd⟩ := F.ex
  intro s us X hlen
  obtain ⟨k, e1, e2⟩ := h kV doc pm an cdv ct us (by rw [List.length_append, List.length_drop] at hlen; omega)
  refine L2.BindsTo.of_looks fun M => ?_
  rw [e1]
  exact looks_items X lT rfl (.of_pure e2)
/-- THE RULE for a def over data -/
theorem FunA.data {x qual : Str} {st : Stmt} {dV : Value} {f : Addr} {fd : FuncData} {N ps : List Str} {k : Nat} {sp : SpD} (F : FunA K x qual st dV f fd) (S : FnScope N ps (defScope st)) (len : ∀ xs M R, sp xs M R → xs.length = ps.length) (t : TSD)
    (hbody : ∀ (cdv : Value) (A : Around) (outer : List Env) (s : Shared) (H : Hp) (E : XK), A.guards = some [] → Room k (A.deeper (envOfC qual (defScope st) s.heap.objs.size f cdv)) →
      DSs (cxOf CX0 P w K mg base N qual (defScope st) f cdv A outer s H E).nox (defBody st) t)
    (pure : ∀ xs M R, sp xs M R → t { nx := fun _ M' => R (.d .none) M', rt := R } (startD N xs) M) : FnG P w K mg base CX0 (k + 1) f fd ps (liftSp K sp) := by
  obtain ⟨oc, od, kV, doc, pm, an, cdv, ct, osl, rfl, lk, hcd⟩ := F.ex
  refine fnG_of lk hcd S (fun vs H Q E ⟨xs, M, R, rv, _, hs, _⟩ => (RVs.len rv).trans (len xs M R hs)) fun A outer s H vs Q E hg hr ⟨xs, M, R, rv, hm, hs, k⟩ => ⟨liftS K t, (hbody cdv A outer s H E hg hr).nox, ?_⟩
  exact ⟨_, M, _, rep_start N rv, hm, pure xs M R hs, fun sl M' h σ' H' l m r => k _ M' h _ H' l m .non, k, fun _ _ z => z.elim, fun _ _ z => z.elim⟩
end
section
variable {X : Cx} {x : Str} {p pos : Pos} {a b c e : Expr} {es : List Expr} {ta tb tc te : TD} {tas : TAD} {k : Nat} {sp : SpD}
theorem Def.de (D : Def X.prog X.w X.K X.mg X.base x k sp) (hgd : X.A.guards = some []) (hr : Room k X.A) (hg : Gl X x) (ha : DA X (e :: es) tas) (hdb : (x == ("__debug__" : Str)) = false := by decide) (he : starEach (e :: es) X.env = (false, eval e X.env) :: starEach es X.env := by rfl)
    (hpl : (backTo pos (starEach es X.env)).any (·.1) = false := by rfl) : DE X (.Call (.Name x p) (e :: es) [] pos) (dCall sp tas) := by
  obtain ⟨f, fd, ps, spF, ds, dvs, xds, F, m, kp, hb, hv, hx, hi⟩ := D.ex
  exact PE.imp (pe_callG (E := E0) hgd F hr hg m kp hb hv pass0 ha hdb he hpl) fun σ H Q ⟨sl, M, R, hs, hm, ht, k⟩ =>
    ⟨sl, M, _, hs, hm, ht, fun xs M1 h1 vs H1 l1 m1 r1 => ⟨xs ++ xds, M1, R, RVs.append r1 (hx _), m1, hi _ _ _ h1, k.le l1⟩⟩
theorem Glb.de {d : DV} (g : Glb X.K X.mg x d) (hg : Gl X x) (hd : (x == ("__debug__" : Str)) = false := by decide) : DE X (.Name x pos) (dC d) := by
  obtain ⟨v, u, m, r, rd⟩ := g.ex
  exact de_glob hg m r rd hd
/-- a op b op' c -/
def dChain (g g' : G2) (ta tb tc : TD) : TD := fun sl M R => ta sl M fun x M1 => tb sl M1 fun y M2 => g x y M2 fun z M3 => match z with
  | .d (.bool k) => if k = true then tc sl M3 fun w M4 => g' y w M4 R else R (.d (.bool false)) M3
  | _ => False
theorem chain_imp {g g' : G2} {σ : L2.St} {H : Hp} {Q : VK} (h : liftE X.K (dChain g g' ta tb tc) σ H Q) : tChain (lift2 X.K g) (lift2 X.K g') (liftE X.K ta) (liftE X.K tb) (liftE X.K tc) σ H Q := by
  obtain ⟨sl, M, R, hs, hm, ht, k⟩ := h
  refine ⟨sl, M, _, hs, hm, ht, fun x M1 h1 v H1 l1 m1 r1 => ⟨sl, M1, _, hs.sub l1, m1, h1, fun y M2 h2 u H2 l2 m2 r2 => ⟨x, y, M2, _, m2, r1.sub l2, r2, h2, fun z M3 h3 w H3 l3 m3 r3 => ?_⟩⟩⟩
  split at h3
  · rename_i kk
    cases r3
    refine ⟨kk, rfl, ?_⟩
    have l12 := (l1.trans l2).trans l3
    cases kk with
    | false => exact k _ M3 h3 _ H3 l12 m3 (.bl _)
    | true => exact ⟨sl, M3, _, hs.sub l12, m3, h3, fun w' M4 h4 wv H4 l4 m4 r4 => ⟨y, w', M4, R, m4, (r2.sub l3).sub l4, r4, h4, k.le (l12.trans l4)⟩⟩
  · exact h3.elim
theorem de_chain {op op' : CmpOp} {g g' : G2} (ho : OpD X (compareOp op) g) (ho' : OpD X (compareOp op') g') (ha : DE X a ta) (hb : DE X b tb) (hc : DE X c tc) (hm : lastMarks [op, op'] [b, c] = false := by with_unfolding_all rfl) : DE X (.Compare a [op, op'] [b, c] pos) (dChain g g' ta tb tc) :=
  PE.imp (pe_chain ho ho' ha hb hc hm) fun _ _ _ h => chain_imp h
theorem dt_chain {op op' : CmpOp} {g g' : G2} (ho : OpD X (compareOp op) g) (ho' : OpD X (compareOp op') g') (ha : DE X a ta) (hb : DE X b tb) (hc : DE X c tc) (hm : lastMarks [op, op'] [b, c] = false := by with_unfolding_all rfl) : DT X (.Compare a [op, op'] [b, c] pos) (dB (dChain g g' ta tb tc)) :=
  PT.imp (pt_chain ho ho' ha hb hc hm) fun _ _ _ h => chain_imp (dB_imp h)
end
end DL

/-! The data layer: words for the pure parts; the source of the draws. -/
namespace DL
open PySem PySem.Spec PyProof.Rows L2
/-- a law's start -/
theorem law_start {K : PySem.W.Frag} {H : Hp} {a : Addr} {ns : List Int} {sp : SpD} {n : Nat} {E : XK} (says : ∀ ns M R, ns.length ≤ n → (∀ M', R (.d (.bool true)) M') → sp [.scr ns] M R) (hl : ns.length ≤ n) (hS : SqL K H a (ns.map V.int)) :
    liftSp K sp [.ref a] H (fun v _ => v = .bl true) E := by
  have e : hide H (fun _ => none) = H := by
    funext b
    rfl
  refine ⟨[.scr ns], fun _ => none, fun x _ => x = .d (.bool true), ?_, fun a o z => (by cases z), says ns _ _ hl fun _ => rfl, fun x M' h v H' _ _ r => ?_⟩
  · rw [e]
    exact .cons ⟨a, rfl, hS⟩ .nil
  · subst h
    cases r
    rfl
/-- an if whose test is a decision -/
theorem if_dec {p : Prop} [Decidable p] {A B : Prop} (h1 : p → A) (h2 : ¬ p → B) : if decide p = true then A else B := by
  by_cases h : p
  · rw [if_pos (decide_eq_true h)]
    exact h1 h
  · rw [if_neg (by rw [decide_eq_false h]; exact Bool.false_ne_true)]
    exact h2 h
theorem if_ndec {p : Prop} [Decidable p] {A B : Prop} (h1 : ¬ p → A) (h2 : p → B) : if (!decide p) = true then A else B := by
  by_cases h : p
  · rw [decide_eq_true h]
    exact h2 h
  · rw [decide_eq_false h]
    exact h1 h
theorem if_yes {k : Bool} {A B : Prop} (e : k = true) (h : A) : if k = true then A else B := by rw [if_pos e]; exact h
theorem if_no {k : Bool} {A B : Prop} (e : k = false) (h : B) : if k = true then A else B := by rw [e]; exact h
theorem if_b {k : Bool} {A B : Prop} (h1 : k = true → A) (h2 : k = false → B) : if k = true then A else B := by
  cases k with
  | true => exact h1 rfl
  | false => exact h2 rfl
theorem range_get {lo : Int} {n i : Nat} {x : DV} (h : (rangeL lo n)[i]? = some x) : x = .d (.int (lo + (i : Int))) ∧ i < n := by
  unfold rangeL at h
  rw [List.getElem?_map] at h
  cases e : (List.range n)[i]? with
  | none => rw [e] at h; cases h
  | some j =>
    have hi : i < n := by
      have := (List.getElem?_eq_some_iff.mp e).1
      simpa using this
    rw [List.getElem?_range hi] at e
    cases e
    rw [List.getElem?_range hi] at h
    cases h
    exact ⟨rfl, hi⟩
theorem rangeL_len {lo : Int} {n : Nat} : (rangeL lo n).length = n := by unfold rangeL; rw [List.length_map, List.length_range]
theorem map_get {α : Type} {f : α → DV} {l : List α} {i : Nat} {x : DV} (h : (l.map f)[i]? = some x) : ∃ a, l[i]? = some a ∧ x = f a := by
  rw [List.getElem?_map] at h
  cases e : l[i]? with
  | none => rw [e] at h; cases h
  | some a => rw [e] at h; cases h; exact ⟨a, rfl, rfl⟩
theorem small {n : Nat} (h : n ≤ 1000000) : n ≤ sizeLine := Nat.le_trans h (by decide)
theorem smallL {n : Nat} (h : n < 1000000) : n < sizeLine := Nat.lt_of_lt_of_le h (by decide)

theorem sz (n : Nat) {m : Nat} (h : n ≤ 1000000 := by decide) (e : m = n := by rfl) : m ≤ sizeLine := e ▸ small h
/-- a display of data -/
theorem disp {xs : List DV} {ds : List PyData} {Q : List PyData → Prop} (q : Q ds) (e : allD xs = some ds := by rfl) (h : ds.length ≤ 1000000 := by exact Nat.le_of_ble_eq_true rfl) : optP (allD xs) (fun ds => ds.length ≤ sizeLine ∧ Q ds) := optP_of e ⟨small h, q⟩

/-! ### ints as data -/
abbrev dI (ns : List Int) : List PyData := ns.map PyData.int
theorem eqvAll_ints : ∀ (a b : List Int), PyData.eqvAll (dI a) (dI b) = decide (a = b)
  | [], [] => by simp [dI, PyData.eqvAll]
  | [], _ :: _ => by simp [dI, PyData.eqvAll]
  | _ :: _, [] => by simp [dI, PyData.eqvAll]
  | x :: xs, y :: ys => by
    show PyData.eqvAll (.int x :: dI xs) (.int y :: dI ys) = _
    rw [PyData.eqvAll, eqv_int, eqvAll_ints xs ys]
    by_cases h : x = y
    · by_cases h2 : xs = ys
      · simp [h, h2]
      · simp [h, h2]
    · simp [h]
theorem eqv_tup (a b : List PyData) : PyData.eqv (.tuple a) (.tuple b) = PyData.eqvAll a b := by simp only [PyData.eqv]
theorem eqv_lst (a b : List PyData) : PyData.eqv (.list a) (.list b) = PyData.eqvAll a b := by simp only [PyData.eqv]
theorem eqv_ti (a b : List Int) : PyData.eqv (.tuple (dI a)) (.tuple (dI b)) = decide (a = b) := (eqv_tup _ _).trans (eqvAll_ints a b)
theorem eqv_li (a b : List Int) : PyData.eqv (.list (dI a)) (.list (dI b)) = decide (a = b) := (eqv_lst _ _).trans (eqvAll_ints a b)
theorem eqv_nil (a : List PyData) : PyData.eqv (.list a) (.list []) = decide (a = []) := by
  cases a <;> simp [eqv_lst, PyData.eqvAll]
theorem eqv_nilT (a : List PyData) : PyData.eqv (.tuple a) (.tuple []) = decide (a = []) := by
  cases a <;> simp [eqv_tup, PyData.eqvAll]
theorem depthAll_ints : ∀ a : List Int, PyData.depthAll (dI a) = 0
  | [] => rfl
  | x :: xs => by
    show PyData.depthAll (.int x :: dI xs) = 0
    rw [PyData.depthAll, depthAll_ints xs]
    simp [PyData.depth]
theorem depth_ti (a : List Int) : PyData.depth (.tuple (dI a)) = 1 := by
  unfold PyData.depth
  rw [depthAll_ints]
theorem depth_li (a : List Int) : PyData.depth (.list (dI a)) = 1 := by
  unfold PyData.depth
  rw [depthAll_ints]
theorem depth_nilL : PyData.depth (.list []) = 1 := rfl
theorem plain_ints : ∀ a : List Int, PyData.plainAll (dI a) = true
  | [] => rfl
  | x :: xs => by
    show PyData.plainAll (.int x :: dI xs) = true
    rw [PyData.plainAll, plain_ints xs]
    rfl
theorem plainAll_map {α : Type} {f : α → PyData} (h : ∀ x, (f x).plain = true) : ∀ l : List α, PyData.plainAll (l.map f) = true
  | [] => rfl
  | x :: xs => by rw [List.map_cons, PyData.plainAll, h x, plainAll_map h xs]; rfl
theorem plain_tup {ds : List PyData} (h : PyData.plainAll ds = true) : PyData.plain (.tuple ds) = true := by simpa only [PyData.plain] using h
theorem plain_lst {ds : List PyData} (h : PyData.plainAll ds = true) : PyData.plain (.list ds) = true := by simpa only [PyData.plain] using h
theorem eqOk_ti (a b : List Int) : EqOk (.tuple (dI a)) (.tuple (dI b)) := ⟨plain_tup (plain_ints a), plain_tup (plain_ints b), Nat.le_trans (Nat.min_le_left _ _) (by rw [depth_ti]; decide)⟩
theorem eqOk_li (a b : List Int) : EqOk (.list (dI a)) (.list (dI b)) := ⟨plain_lst (plain_ints a), plain_lst (plain_ints b), Nat.le_trans (Nat.min_le_left _ _) (by rw [depth_li]; decide)⟩
theorem eqOk_T {ds : List PyData} (h : PyData.plainAll ds = true) : EqOk (.tuple ds) (.tuple []) := ⟨plain_tup h, rfl, Nat.le_trans (Nat.min_le_right _ _) (by decide)⟩
theorem eqOk_L {ds : List PyData} (h : PyData.plainAll ds = true) : EqOk (.list ds) (.list []) := ⟨plain_lst h, rfl, Nat.le_trans (Nat.min_le_right _ _) (by decide)⟩
theorem dI_nil {a : List Int} : dI a = [] ↔ a = [] := by cases a <;> simp [dI]
theorem cut_map {α β : Type} (f : α → β) (xs : List α) (lo hi : Option Int) : cutL (xs.map f) lo hi = (cutL xs lo hi).map f := by
  unfold cutL
  rw [List.length_map, List.map_take, List.map_drop]
theorem cut_from {α : Type} (xs : List α) (k : Nat) : cutL xs (some (k : Int)) none = xs.drop k := by
  unfold cutL
  rw [HT.sIx_nat, HT.sIx_none]
  by_cases h : k ≤ xs.length
  · rw [Nat.min_eq_left h, List.take_of_length_le (by rw [List.length_drop]; exact Nat.le_refl _)]
  · rw [Nat.min_eq_right (by omega), List.drop_of_length_le (Nat.le_refl _), List.drop_of_length_le (by omega), List.take_nil]
theorem cut_to {α : Type} (xs : List α) (k : Nat) : cutL xs none (some (k : Int)) = xs.take k := by
  unfold cutL
  rw [HT.sIx_nat, HT.sIx_none, List.drop_zero, Nat.sub_zero]
  by_cases h : k ≤ xs.length
  · rw [Nat.min_eq_left h]
  · rw [Nat.min_eq_right (by omega), List.take_length, List.take_of_length_le (by omega)]
theorem atI_map {α β : Type} (f : α → β) (xs : List α) (i : Int) : atI (xs.map f) i = (atI xs i).map f := by
  unfold atI
  rw [List.length_map]
  cases ixN xs.length i with
  | none => rfl
  | some j => show (xs.map f)[j]? = _; rw [List.getElem?_map]; rfl
theorem atI_ge {α : Type} {xs : List α} {j : Nat} (h : j < xs.length) : atI xs (j : Int) = some xs[j] := atI_nat (List.getElem?_eq_getElem h)

/-! ### the source of the draws: [numbers, index, rest, size] -/
def srcO (nums : List Int) (i z w : Int) : MO := .lst [.d (.list (dI nums)), .d (.int i), .d (.int z), .d (.int w)]
def Src (M : Mem) (p : Addr) : Prop := ∃ nums i z w, M p = some (srcO nums i z w)
def Keeps (p : Addr) (M M' : Mem) : Prop := ∀ a, a ≠ p → M' a = M a
theorem Keeps.refl (p : Addr) (M : Mem) : Keeps p M M := fun _ _ => rfl
theorem Keeps.trans {p : Addr} {A B C : Mem} (h : Keeps p A B) (k : Keeps p B C) : Keeps p A C := fun a n => (k a n).trans (h a n)
theorem Keeps.upd {p : Addr} {M M' : Mem} (h : Keeps p M M') (o : MO) : Keeps p M (updM M' p o) := fun a n => by rw [updM_ne n]; exact h a n
/-- an owned cell made, changed and given up -/
theorem delM_upd {M : Mem} {q : Addr} {o : MO} (n : M q = none) : delM (updM M q o) q = M := by
  funext a
  unfold delM updM
  by_cases h : a = q
  · rw [if_pos h, h, n]
  · rw [if_neg h, if_neg h]
theorem delM_same {M : Mem} {q : Addr} : delM M q q = none := by unfold delM; rw [if_pos rfl]
theorem delM_ne {M : Mem} {a q : Addr} (h : a ≠ q) : delM M q a = M a := by unfold delM; rw [if_neg h]
/-- between two statements: what holds there (J) -/
theorem seq_cut {t u : TSD} {D : EndsD} {sl : Slots} {M : Mem} (J : Slots → Mem → Prop) (h1 : ∀ N : Slots → Mem → Prop, (∀ sl M, J sl M → N sl M) → t { D with nx := N } sl M) (h2 : ∀ sl M, J sl M → u D sl M) : dSeq t u D sl M := sq (h1 (u D) h2)
/-- a test in between: what holds where it says k (J) -/
theorem ifS_cut {t : TTD} {A B : TSD} {D : EndsD} {sl : Slots} {M : Mem} (J : Bool → Mem → Prop) (h1 : ∀ N : Bool → Mem → Prop, (∀ k M, J k M → N k M) → t sl M N) (h2 : ∀ M1, J true M1 → A D sl M1) (h3 : ∀ M1, J false M1 → B D sl M1) : dIfS t A B D sl M := by
  refine h1 _ fun k M1 j => ?_
  cases k with
  | true => exact h2 M1 j
  | false => exact h3 M1 j
/-- a value in between: what holds of it (J) -/
theorem e_cut {t : TD} {sl : Slots} {M : Mem} {R : KD} (J : KD) (h1 : ∀ N : KD, (∀ x M, J x M → N x M) → t sl M N) (h2 : ∀ x M, J x M → R x M) : t sl M R := h1 R h2
/-- a comprehension whose turns change nothing: f says what each item gives -/
theorem lc_pure {items : List DV} {g : TGD} {tt : TTD} {te : TD} {vs : List Nat} {sl : Slots} {M1 : Mem} {R : KD} (f : DV → Option PyData) (hl : items.length < 1000000)
    (step : ∀ x, x ∈ items → ∀ (M' : Mem) (Y : KD) (Z : Mem → Prop), (∀ y, f x = some y → Y (.d y) M') → (f x = none → Z M') → g x (wipeD sl vs) M' fun sl2 M2 => tt sl2 M2 fun k M3 => if k = true then te sl2 M3 Y else Z M3)
    (h : R (.d (.list (items.filterMap f))) M1) : ∀ p, M1 p = none → ∃ P : Nat → Mem → Prop, P 0 (updM M1 p (.lst [])) ∧
      (∀ i x M, items[i]? = some x → P i M → g x (wipeD sl vs) M fun sl2 M2 => tt sl2 M2 fun k M3 => if k = true then te sl2 M3 fun y M4 => getL M4 p (fun acc => acc.length < sizeLine ∧ P (i + 1) (updM M4 p (.lst (acc ++ [y])))) else P (i + 1) M3) ∧
      ∀ M, P items.length M → getL M p fun xs => optP (allD xs) fun ds => R (.d (.list ds)) (delM M p) := by
  intro p np
  refine ⟨fun i M' => M' = updM M1 p (.lst (((items.take i).filterMap f).map DV.d)), rfl, ?_, ?_⟩
  · rintro i x M' hx rfl
    have hm : x ∈ items := List.mem_of_getElem? hx
    have ht : items.take (i + 1) = items.take i ++ [x] := by rw [List.take_add_one, hx]; rfl
    refine step x hm _ _ _ (fun y hy => getL_of updM_same ⟨smallL ?_, ?_⟩) fun hn => ?_
    · rw [List.length_map]
      have h1 := List.length_filterMap_le f (items.take i)
      rw [List.length_take] at h1
      omega
    · show updM (updM M1 p _) p _ = updM M1 p _
      rw [updM_upd, ht, List.filterMap_append, List.map_append]
      have : ([x].filterMap f) = [y] := by simp [hy]
      rw [this]
      rfl
    · show updM M1 p _ = updM M1 p _
      rw [ht, List.filterMap_append]
      have : ([x].filterMap f) = [] := by simp [hn]
      rw [this, List.append_nil]
  · rintro M' rfl
    refine getL_of updM_same (optP_of (allD_of _) ?_)
    rw [List.take_length, delM_upd np]
    exact h
/-- the same, its list put into a name -/
theorem lc_set {items : List DV} {g : TGD} {tt : TTD} {te : TD} {vs : List Nat} {sl sl' : Slots} {i0 : Nat} {nx : Slots → Mem → Prop} {M1 : Mem} (f : DV → Option PyData) (hl : items.length < 1000000)
    (step : ∀ x, x ∈ items → ∀ (M' : Mem) (Y : KD) (Z : Mem → Prop), (∀ y, f x = some y → Y (.d y) M') → (f x = none → Z M') → g x (wipeD sl vs) M' fun sl2 M2 => tt sl2 M2 fun k M3 => if k = true then te sl2 M3 Y else Z M3)
    (h : nx (sl'.set i0 (some (.d (.list (items.filterMap f))))) M1) : ∀ p, M1 p = none → ∃ P : Nat → Mem → Prop, P 0 (updM M1 p (.lst [])) ∧
      (∀ i x M, items[i]? = some x → P i M → g x (wipeD sl vs) M fun sl2 M2 => tt sl2 M2 fun k M3 => if k = true then te sl2 M3 fun y M4 => getL M4 p (fun acc => acc.length < sizeLine ∧ P (i + 1) (updM M4 p (.lst (acc ++ [y])))) else P (i + 1) M3) ∧
      ∀ M, P items.length M → getL M p fun xs => optP (allD xs) fun ds => nx (sl'.set i0 (some (.d (.list ds)))) (delM M p) :=
  lc_pure (R := fun x M => nx (sl'.set i0 (some x)) M) f hl step h
/-! ### what repr writes of a tuple of ints -/
/-- its repr can be written -/
def OkShow (x : PyData) : Prop := x.showable = true ∧ x.depth ≤ 60 ∧ x.shown.length ≤ sizeLine ∧ (x.hasDict = true → lstFree x = true)
theorem shown_int {i : Int} (h : i.natAbs.log2 < 1920) : (PyData.shown (.int i)).length ≤ 1921 := by
  unfold PyData.shown
  show (Str.ofString (toString i)).length ≤ 1921
  rw [PySem.ofString_length]
  exact int_text_length_le (by decide) h
theorem log2_of {i : Int} (h0 : 0 ≤ i) (h : i < 2 ^ 1000) : i.natAbs.log2 < 1920 := by
  have h1 : i.natAbs < 2 ^ 1000 := by omega
  exact Nat.lt_of_lt_of_le (PySem.Flt.log2_lt_of (by decide) h1) (by decide)
theorem okShow_int {i : Int} (h : i.natAbs.log2 < 1920) : OkShow (.int i) := by
  refine ⟨by simpa [PyData.showable] using h, Nat.zero_le _, Nat.le_trans (shown_int h) (by decide), fun q => (by simp [PyData.hasDict] at q)⟩
theorem okShow_bool (b : Bool) : OkShow (.bool b) := by
  refine ⟨rfl, Nat.zero_le _, ?_, fun q => (by simp [PyData.hasDict] at q)⟩
  cases b <;> decide +kernel
theorem showableAll_ints : ∀ ns : List Int, (∀ x ∈ ns, x.natAbs.log2 < 1920) → PyData.showableAll (dI ns) = true
  | [], _ => rfl
  | n :: ns, h => by
    show PyData.showableAll (.int n :: dI ns) = true
    rw [PyData.showableAll, showableAll_ints ns fun x hx => h x (List.mem_cons_of_mem _ hx)]
    simp [PyData.showable, h n List.mem_cons_self]
theorem piled_ints : ∀ ns : List Int, (∀ x ∈ ns, x.natAbs.log2 < 1920) → piled (PyData.shownAll (dI ns)) ≤ 1923 * ns.length
  | [], _ => Nat.zero_le _
  | n :: ns, h => by
    show piled (PyData.shownAll (.int n :: dI ns)) ≤ _
    rw [PyData.shownAll, piled_cons, List.length_cons]
    have h1 := shown_int (h n List.mem_cons_self)
    have h2 := piled_ints ns fun x hx => h x (List.mem_cons_of_mem _ hx)
    omega
theorem okShow_ti {ns : List Int} (hl : ns.length ≤ 5000) (h : ∀ x ∈ ns, x.natAbs.log2 < 1920) : OkShow (.tuple (dI ns)) := by
  refine ⟨by unfold PyData.showable; exact showableAll_ints ns h, by rw [depth_ti]; decide, ?_, fun q => (by rw [noDict_plain _ (plain_tup (plain_ints ns))] at q; cases q)⟩
  unfold PyData.shown
  have h1 := fmt_text (PyData.shownAll (dI ns))
  have h2 := piled_ints ns h
  have hs : sizeLine = 16777216 := sizeLine_eq
  omega
end DL

/-! The data layer: isinstance, all, any, dicts written down. -/
namespace DL
open PySem PySem.Spec PyProof.Rows L2
section
variable {X : Cx} {x : Str} {pos : Pos} {a b c e : Expr} {ta tb te : TD}
/-- a built-in class by name -/
theorem de_tyN {T : String} (hg : Gl X x) (hm : X.mg x = none) (hv : bootBuiltins x = some (.type T)) (hn : x ≠ "__name__" := by decide) (hd : (x == ("__debug__" : Str)) = false := by decide) : DE X (.Name x pos) (dC (.raw (.ty T))) :=
  de_const (pe_bltn (v := .ty T) hg hm hv rfl hn hd) fun _ => rfl
def isaG (T : String) (f : PyData → Bool) : GC
  | [.d x, .raw (.ty S)], M, R => S = T ∧ R (.d (.bool (f x))) M
  | _, _, _ => False
theorem cd_isa {T : String} {f : PyData → Bool}
    (h : ∀ (s : Shared) (v : Value) (d : PyData) (as : List Addr) (Q : Value → Shared → Prop) (E : Value → Shared → Prop), Reads s.heap v d as → (∀ tk, s.toks ≤ tk → Q (.bool (f d)) { s with toks := tk }) → wpAny (model X.prog X.w) X.A (call (.builtin "isinstance") [v, .type T]) Q E s) :
    CallD X (.builtin "isinstance") (isaG T f) := by
  intro pins s σ H vs us Q I r hh
  obtain ⟨xs, M, R, hm, rv, hg, k⟩ := hh
  match xs, hg with
  | [.d x, .raw (.ty S)], ⟨hT, hz⟩ =>
    subst hT
    cases rv with
    | cons r1 r2 =>
      cases r2 with
      | cons r3 r4 =>
        cases r4
        cases r3
        cases r with
        | cons q1 q2 =>
          cases q2 with
          | cons q3 q4 =>
            cases q4
            cases q3
            obtain ⟨as, rd⟩ := RD.reads I r1 q1
            exact h s _ x as _ _ rd fun tk _ => ⟨.bl _, H, I.tok _, rfl, k (.d (.bool (f x))) M hz _ H (Le.refl _ _) hm (.bl _)⟩
theorem cd_isaInt : CallD X (.builtin "isinstance") (isaG "int" PyData.isInt) := cd_isa fun _ _ _ _ _ _ r q => PySem.W.isinstance_int_data r q
theorem cd_isaBool : CallD X (.builtin "isinstance") (isaG "bool" PyData.isBool) := cd_isa fun _ _ _ _ _ _ r q => PySem.W.isinstance_bool_data r q
theorem cd_isaStr : CallD X (.builtin "isinstance") (isaG "str" PyData.isStr) := cd_isa fun _ _ _ _ _ _ r q => PySem.W.isinstance_str_data r q
theorem cd_isaTuple : CallD X (.builtin "isinstance") (isaG "tuple" PyData.isTuple) := cd_isa fun _ _ _ _ _ _ r q => PySem.W.isinstance_tuple_data r q
theorem cd_isaList : CallD X (.builtin "isinstance") (isaG "list" PyData.isList) := cd_isa fun _ _ _ _ _ _ r q => PySem.W.isinstance_list_data r q
theorem cd_isaDict : CallD X (.builtin "isinstance") (isaG "dict" PyData.isDict) := cd_isa fun _ _ _ _ _ _ r q => PySem.W.isinstance_dict_data r q
/-! ### all, any of a list of bools -/
def boolsD : List PyData → Option (List Bool)
  | [] => some []
  | .bool i :: r => (boolsD r).map (i :: ·)
  | _ :: _ => none
theorem boolsD_map : ∀ {ds : List PyData} {ns : List Bool}, boolsD ds = some ns → ds = ns.map PyData.bool
  | [], ns, h => by cases h; rfl
  | .bool i :: r, ns, h => by
    unfold boolsD at h
    cases e : boolsD r with
    | none => rw [e] at h; cases h
    | some es => rw [e] at h; cases h; rw [boolsD_map e]; rfl
  | .none :: _, ns, h => by cases h
  | .int _ :: _, ns, h => by cases h
  | .str _ :: _, ns, h => by cases h
  | .list _ :: _, ns, h => by cases h
  | .tuple _ :: _, ns, h => by cases h
  | .dict _ :: _, ns, h => by cases h
theorem boolsD_of : ∀ bs : List Bool, boolsD (bs.map PyData.bool) = some bs
  | [] => rfl
  | b :: bs => by
    show (boolsD (bs.map PyData.bool)).map (b :: ·) = _
    rw [boolsD_of bs]
    rfl
theorem rds_bools {K : PySem.W.Frag} {H : Hp} : ∀ {vs : List V} {bs : List Bool}, RDs K H vs (bs.map PyData.bool) → vs = bs.map V.bl
  | vs, [], h => by cases h; rfl
  | vs, b :: bs, h => by
    rw [List.map_cons] at h
    cases h with
    | cons h t =>
      cases h
      rw [rds_bools t]
      rfl
def allG : GC
  | [.d (.list xs)], M, R => optP (boolsD xs) fun bs => R (.d (.bool (bs.all id))) M
  | _, _, _ => False
def anyG : GC
  | [.d (.list xs)], M, R => optP (boolsD xs) fun bs => R (.d (.bool (bs.any id))) M
  | _, _, _ => False
theorem cd_all (hc : X.calm = true) : CallD X (.builtin "all") allG := by
  intro pins s σ H vs us Q I r hh
  obtain ⟨xs, M, R, hm, rv, hg, k⟩ := hh
  match xs, hg with
  | [.d (.list xs)], hg =>
    cases rv with
    | cons r1 r2 =>
      cases r2
      cases r1 with
      | lst h1 r1 =>
        obtain ⟨bs, e, hg'⟩ := optP_elim hg
        have e' := boolsD_map e
        subst e'
        have ev := rds_bools r1
        subst ev
        exact cr_all hc pins s σ H _ us Q I r ⟨_, bs, rfl, SqL.of (hide_sub _ _ _ _ h1), kt_same k hm hg' (.bl _)⟩
theorem cd_any (hc : X.calm = true) : CallD X (.builtin "any") anyG := by
  intro pins s σ H vs us Q I r hh
  obtain ⟨xs, M, R, hm, rv, hg, k⟩ := hh
  match xs, hg with
  | [.d (.list xs)], hg =>
    cases rv with
    | cons r1 r2 =>
      cases r2
      cases r1 with
      | lst h1 r1 =>
        obtain ⟨bs, e, hg'⟩ := optP_elim hg
        have e' := boolsD_map e
        subst e'
        have ev := rds_bools r1
        subst ev
        exact cr_any hc pins s σ H _ us Q I r ⟨_, bs, rfl, SqL.of (hide_sub _ _ _ _ h1), kt_same k hm hg' (.bl _)⟩
/-! ### dicts written down -/
def dNew (x : PyData) : TD := fun _ M R => R (.d x) M
theorem de_dic0 : DE X (.Dict [] [] pos) (dNew (.dict [])) :=
  PE.imp pe_dnewK fun σ H Q ⟨sl, M, R, hs, hm, ht, k⟩ => fun p n => kt_new k hm n ht (.dct (new_at hm n) .nil)
theorem de_dic1 {ke ve : Expr} {key : Key} {v : V} {d : PyData} (hk : PE X ke (tC (kV key))) (hv : PE X ve (tC v)) (rd : ∀ H, RD X.K H v d) : DE X (.Dict [some ke] [ve] pos) (dNew (.dict [(keyD key, d)])) :=
  PE.imp (pe_disp (trs := [(tC (kV key), tC v)]) (pps_cons hk hv pps_nil) rfl rfl (by simp) (by show 1 ≤ 15; decide)) fun σ H Q ⟨sl, M, R, hs, hm, ht, k⟩ => fun p n => by
    refine ⟨upd_same, [(key, v)], rfl, by show 1 ≤ 15; decide, ?_⟩
    rw [upd_upd]
    have e : mergeK [] [(key, v)] = [(key, v)] := by
      show putK [] key v = _
      rfl
    rw [e]
    exact kt_new k hm n ht (.dct (new_at hm n) (.cons (rd _) .nil))
end
/-- what holds of the cell at q alone -/
structure At (q : Addr) (S : Mem → Prop) : Prop where
  loc : ∀ A B : Mem, B q = A q → S A → S B
  some : ∀ M, S M → M q ≠ none
theorem at_src (q : Addr) : At q (fun M => Src M q) := ⟨fun _ _ e ⟨a, b, c, d, h⟩ => ⟨a, b, c, d, e.trans h⟩, fun M ⟨_, _, _, _, h⟩ e => by rw [h] at e; cases e⟩
/-- a comprehension whose turns change the cell at q alone -/
theorem lc_at {items : List DV} {g : TGD} {tt : TTD} {te : TD} {vs : List Nat} {sl : Slots} {M1 : Mem} {R : KD} {q : Addr} {S : Mem → Prop} (a0 : At q S) (Yp : PyData → Prop) (hl : items.length < 1000000) (hS : S M1)
    (step : ∀ x, x ∈ items → ∀ (M' : Mem) (N : KD) (Z : Mem → Prop), S M' → (∀ y M2, Yp y → Keeps q M' M2 → S M2 → N (.d y) M2) → g x (wipeD sl vs) M' fun sl2 M2 => tt sl2 M2 fun k M3 => if k = true then te sl2 M3 N else Z M3)
    (h : ∀ ys M2, ys.length = items.length → (∀ y ∈ ys, Yp y) → Keeps q M1 M2 → S M2 → R (.d (.list ys)) M2) : ∀ p, M1 p = none → ∃ P : Nat → Mem → Prop, P 0 (updM M1 p (.lst [])) ∧
      (∀ i x M, items[i]? = some x → P i M → g x (wipeD sl vs) M fun sl2 M2 => tt sl2 M2 fun k M3 => if k = true then te sl2 M3 fun y M4 => getL M4 p (fun acc => acc.length < sizeLine ∧ P (i + 1) (updM M4 p (.lst (acc ++ [y])))) else P (i + 1) M3) ∧
      ∀ M, P items.length M → getL M p fun xs => optP (allD xs) fun ds => R (.d (.list ds)) (delM M p) := by
  intro p np
  have npq : q ≠ p := by
    intro e
    subst e
    exact a0.some _ hS np
  refine ⟨fun i M => ∃ ys : List PyData, ys.length = i ∧ (∀ y ∈ ys, Yp y) ∧ M p = some (.lst (ys.map DV.d)) ∧ (∀ a, a ≠ q → a ≠ p → M a = M1 a) ∧ S M, ⟨[], rfl, fun y hy => (by cases hy), updM_same, fun a _ ha => updM_ne ha, a0.loc _ _ (updM_ne npq) hS⟩, ?_, ?_⟩
  · rintro i x M hx ⟨ys, hi, hy, hp, hk, hs⟩
    refine step x (List.mem_of_getElem? hx) M _ _ hs fun y M2 yy k2 s2 => ?_
    have hp2 : M2 p = some (.lst (ys.map DV.d)) := (k2 p (fun e => npq e.symm)).trans hp
    have hlt : i < items.length := by
      obtain ⟨h, _⟩ := List.getElem?_eq_some_iff.mp hx
      exact h
    refine getL_of hp2 ⟨smallL (by rw [List.length_map]; omega), ys ++ [y], by rw [List.length_append, hi]; rfl, ?_, ?_, fun a h1 h2 => ?_, a0.loc _ _ (updM_ne npq) s2⟩
    · intro z hz
      rcases List.mem_append.mp hz with hz | hz
      · exact hy z hz
      · rw [List.mem_singleton.mp hz]
        exact yy
    · rw [updM_same, List.map_append]
      rfl
    · rw [updM_ne h2, k2 a h1]
      exact hk a h1 h2
  · rintro M ⟨ys, hi, hy, hp, hk, hs⟩
    refine getL_of hp (optP_of (allD_of _) (h ys _ hi hy (fun a ha => ?_) (a0.loc _ _ (delM_ne npq) hs)))
    by_cases e : a = p
    · subst e
      rw [delM_same, np]
    · rw [delM_ne e]
      exact hk a ha e
/-- the same, its list put into a name -/
theorem lc_atS {items : List DV} {g : TGD} {tt : TTD} {te : TD} {vs : List Nat} {sl sl' : Slots} {i0 : Nat} {nx : Slots → Mem → Prop} {M1 : Mem} {q : Addr} {S : Mem → Prop} (a0 : At q S) (Yp : PyData → Prop) (hl : items.length < 1000000) (hS : S M1)
    (step : ∀ x, x ∈ items → ∀ (M' : Mem) (N : KD) (Z : Mem → Prop), S M' → (∀ y M2, Yp y → Keeps q M' M2 → S M2 → N (.d y) M2) → g x (wipeD sl vs) M' fun sl2 M2 => tt sl2 M2 fun k M3 => if k = true then te sl2 M3 N else Z M3)
    (h : ∀ ys M2, ys.length = items.length → (∀ y ∈ ys, Yp y) → Keeps q M1 M2 → S M2 → nx (sl'.set i0 (some (.d (.list ys)))) M2) : ∀ p, M1 p = none → ∃ P : Nat → Mem → Prop, P 0 (updM M1 p (.lst [])) ∧
      (∀ i x M, items[i]? = some x → P i M → g x (wipeD sl vs) M fun sl2 M2 => tt sl2 M2 fun k M3 => if k = true then te sl2 M3 fun y M4 => getL M4 p (fun acc => acc.length < sizeLine ∧ P (i + 1) (updM M4 p (.lst (acc ++ [y])))) else P (i + 1) M3) ∧
      ∀ M, P items.length M → getL M p fun xs => optP (allD xs) fun ds => nx (sl'.set i0 (some (.d (.list ds)))) (delM M p) :=
  lc_at (R := fun x M => nx (sl'.set i0 (some x)) M) a0 Yp hl hS step h
/-- the same; what is said of an item knows its place -/
theorem lc_ati {items : List DV} {g : TGD} {tt : TTD} {te : TD} {vs : List Nat} {sl : Slots} {M1 : Mem} {R : KD} {q : Addr} {S : Mem → Prop} (a0 : At q S) (Yp : Nat → PyData → Prop) (hl : items.length < 1000000) (hS : S M1)
    (step : ∀ i x, items[i]? = some x → ∀ (M' : Mem) (N : KD) (Z : Mem → Prop), S M' → (∀ y M2, Yp i y → Keeps q M' M2 → S M2 → N (.d y) M2) → g x (wipeD sl vs) M' fun sl2 M2 => tt sl2 M2 fun k M3 => if k = true then te sl2 M3 N else Z M3)
    (h : ∀ ys M2, ys.length = items.length → (∀ i y, ys[i]? = some y → Yp i y) → Keeps q M1 M2 → S M2 → R (.d (.list ys)) M2) : ∀ p, M1 p = none → ∃ P : Nat → Mem → Prop, P 0 (updM M1 p (.lst [])) ∧
      (∀ i x M, items[i]? = some x → P i M → g x (wipeD sl vs) M fun sl2 M2 => tt sl2 M2 fun k M3 => if k = true then te sl2 M3 fun y M4 => getL M4 p (fun acc => acc.length < sizeLine ∧ P (i + 1) (updM M4 p (.lst (acc ++ [y])))) else P (i + 1) M3) ∧
      ∀ M, P items.length M → getL M p fun xs => optP (allD xs) fun ds => R (.d (.list ds)) (delM M p) := by
  intro p np
  have npq : q ≠ p := by
    intro e
    subst e
    exact a0.some _ hS np
  refine ⟨fun i M => ∃ ys : List PyData, ys.length = i ∧ (∀ j y, ys[j]? = some y → Yp j y) ∧ M p = some (.lst (ys.map DV.d)) ∧ (∀ a, a ≠ q → a ≠ p → M a = M1 a) ∧ S M, ⟨[], rfl, fun j y hy => (by cases hy), updM_same, fun a _ ha => updM_ne ha, a0.loc _ _ (updM_ne npq) hS⟩, ?_, ?_⟩
  · rintro i x M hx ⟨ys, hi, hy, hp, hk, hs⟩
    refine step i x hx M _ _ hs fun y M2 yy k2 s2 => ?_
    have hp2 : M2 p = some (.lst (ys.map DV.d)) := (k2 p (fun e => npq e.symm)).trans hp
    have hlt : i < items.length := by
      obtain ⟨h, _⟩ := List.getElem?_eq_some_iff.mp hx
      exact h
    refine getL_of hp2 ⟨smallL (by rw [List.length_map]; omega), ys ++ [y], by rw [List.length_append, hi]; rfl, ?_, ?_, fun a h1 h2 => ?_, a0.loc _ _ (updM_ne npq) s2⟩
    · intro j z hz
      by_cases e : j < ys.length
      · rw [List.getElem?_append_left e] at hz
        exact hy j z hz
      · rw [List.getElem?_append_right (by omega)] at hz
        by_cases e2 : j - ys.length = 0
        · rw [e2] at hz
          have hz : some y = some z := hz
          cases hz
          rw [show j = i by omega]
          exact yy
        · rw [List.getElem?_eq_none (by show 1 ≤ j - ys.length; omega)] at hz
          cases hz
    · rw [updM_same, List.map_append]
      rfl
    · rw [updM_ne h2, k2 a h1]
      exact hk a h1 h2
  · rintro M ⟨ys, hi, hy, hp, hk, hs⟩
    refine getL_of hp (optP_of (allD_of _) (h ys _ hi hy (fun a ha => ?_) (a0.loc _ _ (delM_ne npq) hs)))
    by_cases e : a = p
    · subst e
      rw [delM_same, np]
    · rw [delM_ne e]
      exact hk a ha e
/-! ### the second source: [numbers, place, rest] -/
def srcO2 (nums : List Int) (i z : Int) : MO := .lst [.d (.list (dI nums)), .d (.int i), .d (.int z)]
def Src2 (M : Mem) (p : Addr) : Prop := ∃ nums i z, nums.length ≤ 14 ∧ M p = some (srcO2 nums i z)
theorem at_src2 (q : Addr) : At q (fun M => Src2 M q) := ⟨fun _ _ e ⟨a, b, c, l, h⟩ => ⟨a, b, c, l, e.trans h⟩, fun M ⟨_, _, _, _, h⟩ e => by rw [h] at e; cases e⟩
end DL

/-! The data layer: a, *b = t; dict index, dict(pairs); sorted; % and // of any sign. -/
namespace DL
open PySem PySem.Spec PyProof.Rows L2
section
variable {prog : Program} {w : World} {A : Around} {E : Value → Shared → Prop} {s : Shared}
/-- a tuple's iterator from its k-th item on -/
theorem walks_tail (hh : A.handled = none) (I ax : Addr) (hne : ax ≠ I) (items : Array Value) (k : Nat) :
    WalksS prog w A I [I, ax] [I] (fun a b => a = b) (items.size - k) (fun i v => items[k + i]? = some v) (fun i s => IsTupIter s.heap I ax (k + i) ∧ IsTup s.heap ax items) where
  sub := fun b hb => by simp at hb; simp [hb]
  grefl := fun _ => rfl
  gtrans := fun _ _ _ h k => h.trans k
  frame := fun _ s h' tk st _ hk => by
    obtain ⟨⟨o, e, r⟩, o2, e2, r2⟩ := st
    exact ⟨⟨o, hk I (by simp) o e, r⟩, o2, hk ax (by simp) o2 e2, r2⟩
  item := fun i s Q E hi st hQ => by
    have hlt : k + i < items.size := by omega
    refine next_tuple_item st.1 st.2 (x := items[k + i]) (by simp [hlt]) fun h' hit hs => ?_
    exact hQ _ _ (by simp [hlt]) ⟨hit, st.2.extBut hs.extBut hne⟩ ⟨fun b o hb e => hs.extBut b o (fun q => hb (by simp [q])) e, rfl, rfl, rfl, Nat.le_refl _⟩
  done := fun s Q E st hQ => next_tuple_end hh st.1 st.2 (by simp; omega) fun h' he => hQ _ ⟨fun b o hb e => he b o (fun q => hb (by simp [q])) e, rfl, rfl, rfl, Nat.le_refl _⟩
  self := fun i s Q E st hQ => wpAny_pyIter_tupleiter st.1 hQ
theorem items_tail {items acc : Array Value} (h : ItemsOf (fun i v => items[1 + i]? = some v) acc (items.size - 1)) : acc.toList = items.toList.drop 1 := by
  obtain ⟨h1, h2⟩ := h
  apply List.ext_getElem?
  intro i
  rw [List.getElem?_drop, Array.getElem?_toList, Array.getElem?_toList]
  cases e : acc[i]? with
  | some v => exact (h2 i v e).symm
  | none =>
    have : acc.size ≤ i := by simpa using e
    symm
    simp
    omega
theorem unpackItems_star {t : Addr} {items : Array Value} {x : Value} {Q : List Value → Shared → Prop} (hh : A.handled = none) (ht : IsTup s.heap t items) (h0 : items[0]? = some x) (hz : items.size ≤ sizeLine)
    (hQ : ∀ (h' : Heap) (tk : Nat), (∀ b o, s.heap.get? b = some o → h'.get? b = some o) → Q [x, .ref h'.objs.size] { s with heap := h'.push { cls := .type "list", data := .seq (items.toList.drop 1).toArray }, toks := tk }) :
    wpAny (model prog w) A (unpackItems (.ref t) 2 (some 1)) Q E s := by
  have hlt : t ≠ s.heap.objs.size := by obtain ⟨o, ho, _⟩ := ht; exact Nat.ne_of_lt (Heap.lt_size ho)
  have hsz : 0 < items.size := by
    obtain ⟨h, _⟩ := Array.getElem?_eq_some_iff.mp h0
    exact h
  have hx : items[0] = x := by
    obtain ⟨h, e⟩ := Array.getElem?_eq_some_iff.mp h0
    exact e
  unfold unpackItems
  refine wpAny_bind ?_
  unfold notIterableAtAll
  refine wpAny_bind (wpAny_specialOf ht.typeIs slot_tuple_iter.lookup ?_)
  refine wpAny_pure ?_
  simp only [Bool.false_eq_true, if_false]
  refine wpAny_bind (wpAny_holding (iter_tuple ht ?_))
  refine wpAny_bind (wpAny_holding (draw_tuple hlt 1 0 _ _ ⟨_, Heap.get?_push_size _ rfl, rfl, rfl⟩ (ht.push _) (by omega) fun h₁ hit₁ hs₁ => ?_))
  have e1 : List.take 1 (List.drop 0 items.toList) = [x] := by
    rw [List.drop_zero]
    cases hq : items.toList with
    | nil => rw [← Array.length_toList, hq] at hsz; cases hsz
    | cons y r =>
      have : items[0]? = some y := by rw [← Array.getElem?_toList, hq]; rfl
      rw [h0] at this
      cases this
      rfl
  rw [e1]
  rw [if_neg (by simp)]
  have ht₁ : IsTup h₁ t items := (ht.push _).extBut hs₁.extBut hlt
  have keep : ∀ b o, s.heap.get? b = some o → h₁.get? b = some o := fun b o e => hs₁.extBut b o (Nat.ne_of_lt (Heap.lt_size e)) (Heap.get?_push_of_some _ e)
  have hi1 : s.heap.objs.size < h₁.objs.size := by
    obtain ⟨o, ho, _⟩ := hit₁
    exact Heap.lt_size ho
  refine wpAny_bind (wpAny_holding (wpAny_collect_iter (I := s.heap.objs.size) (T := "tuple_iterator") (.inr (.inr (.inr rfl))) (walks_tail (A := A.in1) hh s.heap.objs.size t hlt items 1) (fun i s st => ?_) ⟨hit₁, ht₁⟩ (fun b hb => ?_) (by simp) (fun s' acc mv ia => ?_) (by omega)))
  · obtain ⟨⟨o, e, c, _⟩, _⟩ := st
    exact ⟨o, e, c⟩
  · simp only [List.mem_cons, List.not_mem_nil, or_false] at hb
    rcases hb with rfl | rfl
    · exact hi1
    · obtain ⟨o, ho, _⟩ := ht₁
      exact Heap.lt_size ho
  · have ea := items_tail ia
    rw [ea]
    have el : (items.toList.drop 1).length = items.size - 1 := by rw [List.length_drop, Array.length_toList]
    rw [if_neg (by omega)]
    have es : s' = { s with heap := s'.heap, toks := s'.toks } := by
      obtain ⟨h, g, d, t, o⟩ := s'
      obtain ⟨m1, m2, m3, m4, m5⟩ := mv
      cases m2
      cases m3
      cases m4
      rfl
    have et : List.take ((items.toList.drop 1).length - (2 - 1 - 1)) (items.toList.drop 1) = items.toList.drop 1 := List.take_of_length_le (by omega)
    have ed : List.drop ((items.toList.drop 1).length - (2 - 1 - 1)) (items.toList.drop 1) = [] := List.drop_of_length_le (by omega)
    refine wpAny_bind (wpAny_newList ?_ (by rw [et, el]; omega))
    rw [et, ed, es]
    refine wpAny_pure (hQ s'.heap s'.toks fun b o e => ?_)
    exact mv.heap b o (by simp; exact Nat.ne_of_lt (Heap.lt_size e)) (keep b o e)
end
section
variable {X : Cx} {pos : Pos}
/-- a, *b = a tuple -/
def gStar (K : PySem.W.Frag) (t1 t2 : TG) : TG := fun v σ H Q => ∃ a x xs, v = .ref a ∧ SqT K H a (x :: xs) ∧ ∀ p, H p = none → t1 x σ (upd H p (.lst xs)) fun σ1 H1 => t2 (.ref p) σ1 H1 Q
theorem pg_star {e1 e2 : Expr} {p2 : Pos} {k : Nat} {t1 t2 : TG} (hc : X.calm = true) (h1 : PG X e1 t1) (h2 : PG X e2 t2) (he : assignEach [e1, .Starred e2 p2] X.env = [(false, assign e1 X.env), (true, assign e2 X.env)] := by rfl) :
    PG X (.Tuple [e1, .Starred e2 p2] k pos) (gStar X.K t1 t2) := by
  refine ⟨fun pins s σ H v u Q I r hw => ?_⟩
  obtain ⟨a, x, xs, e, hq, hw⟩ := hw
  subst e
  cases r
  obtain ⟨its, rv, ht, hz⟩ := I.tuple hq
  cases rv with
  | cons rx rxs =>
    rename_i u0 us
    rw [arm_assign_Tuple, he]
    refine wpAny_bind (wpAny_standAt ?_)
    unfold unpack
    refine wpAny_bind (wpAny_holding (unpackItems_star (x := u0) (I.ok.hd hc) ht rfl (by rw [List.size_toArray, List.length_cons, ← rxs.length]; simpa using hz) fun h' tk hk => ?_))
    have hg : s.heap.get? h'.objs.size = none := by
      cases e : s.heap.get? h'.objs.size with
      | none => rfl
      | some o => exact absurd (Heap.lt_size (hk _ _ e)) (Nat.lt_irrefl _)
    have hn : H h'.objs.size = none := I.hok.gone hg
    have J : Inv X pins σ (upd H h'.objs.size (.lst xs)) { s with heap := h'.push { cls := .type "list", data := .seq us.toArray }, toks := tk } :=
      I.laidN (t' := tk) (fun b o e => Heap.get?_push_of_some _ (hk b o e)) hg hn ⟨by simp only [List.length_cons] at hz; omega, us, 0, rxs, Heap.get?_push_size _ rfl⟩
    refine assignInOrder_cons (thn (h1.run pins _ σ _ _ _ _ J rx (hw _ hn)) fun _ s1 ⟨σ1, H1, I1, q1⟩ => ?_)
    refine assignInOrder_cons (thn (h2.run pins s1 σ1 H1 (.ref h'.objs.size) _ _ I1 rfl q1) fun _ s2 ⟨σ2, H2, I2, q2⟩ => ?_)
    exact assignInOrder_nil ⟨σ2, H2, I2, q2⟩
def dgStar (g1 g2 : TGD) : TGD := fun x sl M R => match x with
  | .d (.tuple (y :: ys)) => g1 (.d y) sl M fun sl1 M1 => g2 (.d (.list ys)) sl1 M1 R
  | _ => False
theorem dg_star {e1 e2 : Expr} {p2 : Pos} {k : Nat} {s1 s2 : List Nat} {g1 g2 : TGD} (hc : X.calm = true) (h1 : DG X e1 s1 g1) (h2 : DG X e2 s2 g2) (he : assignEach [e1, .Starred e2 p2] X.env = [(false, assign e1 X.env), (true, assign e2 X.env)] := by rfl) :
    DG X (.Tuple [e1, .Starred e2 p2] k pos) (s1 ++ s2) (dgStar g1 g2) :=
  PG.imp (pg_star hc h1 h2 he) fun v σ H Q ⟨x, sl, M, R, hs, hm, rv, hg, k⟩ => by
    unfold dgStar at hg
    split at hg
    · rename_i y ys
      cases rv with
      | tup q1 q2 =>
        cases q2 with
        | cons q2 q3 =>
          refine ⟨_, _, _, rfl, sqT_sub (hide_sub _ _) q1, fun p n => ?_⟩
          refine ⟨.d y, sl, M, _, hs.sub (le_new n), rep_new hm n, RD.sub (le_new n) q2, hg, fun sl' M' h σ' H' l m r len fr => ⟨.d (.list ys), sl', M', R, r, m, RD.sub l (rd_lstN hm n q3), h, fun sl2 M2 h2 σ2 H2 l2 m2 r2 len2 fr2 => k sl2 M2 h2 σ2 H2 ((le_new n).trans (l.trans l2)) m2 r2 (len2.trans len) fun j hj => ?_⟩⟩
          rw [fr2 j (fun z => hj (List.mem_append_right _ z)), fr j (fun z => hj (List.mem_append_left _ z))]
    · exact hg.elim
/-! ### dicts: index, in, dict(pairs) -/
def sameK : PyData → Key → Bool
  | .int i, .inl j => decide (i = j)
  | .str x, .inr y => decide (x = y)
  | _, _ => false
theorem sameK_key (k k' : Key) : sameK (keyD k) k' = decide (k = k') := by
  cases k with
  | inl i =>
    cases k' with
    | inl j => exact (decide_eq_decide.mpr ⟨fun h => by rw [h], fun h => Sum.inl.inj h⟩)
    | inr y => exact (decide_eq_false (by simp)).symm
  | inr x =>
    cases k' with
    | inl j => exact (decide_eq_false (by simp)).symm
    | inr y => exact (decide_eq_decide.mpr ⟨fun h => by rw [h], fun h => Sum.inr.inj h⟩)
def lookD (kds : List (PyData × PyData)) (k : Key) : Option PyData := (kds.find? fun p => sameK p.1 k).map (·.2)
theorem RKs.look {K : PySem.W.Frag} {H : Hp} {key : Key} : ∀ {kvs : List (Key × V)} {kds : List (PyData × PyData)}, RKs K H kvs kds → (∃ d v, lookD kds key = some d ∧ valV kvs key = some v ∧ RD K H v d) ∨ (lookD kds key = none ∧ valV kvs key = none)
  | _, _, .nil => .inr ⟨rfl, rfl⟩
  | _, _, .cons (k := k) h q => by
    by_cases e : k = key
    · refine .inl ⟨_, _, ?_, ?_, h⟩
      · unfold lookD
        rw [List.find?_cons_of_pos (by rw [sameK_key]; exact decide_eq_true e)]
        rfl
      · unfold valV
        rw [List.find?_cons_of_pos (by exact decide_eq_true e)]
        rfl
    · have e1 : ∀ {kds : List (PyData × PyData)} {d : PyData}, lookD ((keyD k, d) :: kds) key = lookD kds key := fun {kds d} => by
        unfold lookD
        rw [List.find?_cons_of_neg (by rw [sameK_key, decide_eq_false e]; exact Bool.false_ne_true)]
      have e2 : ∀ {kvs : List (Key × V)} {v : V}, valV ((k, v) :: kvs) key = valV kvs key := fun {kvs v} => by
        unfold valV
        rw [List.find?_cons_of_neg (by rw [decide_eq_false e]; exact Bool.false_ne_true)]
      rw [e1, e2]
      exact RKs.look q
def keyOf : PyData → Option Key
  | .int i => some (.inl i)
  | .str x => some (.inr x)
  | _ => none
theorem keyOf_rd {K : PySem.W.Frag} {H : Hp} {v : V} {d : PyData} {k : Key} (r : RD K H v d) (e : keyOf d = some k) : v = kV k := by
  cases r <;> cases e <;> rfl
/-- d[k] of a dict -/
def ixK : G2
  | .d (.dict kds), .d y, M, R => optP (keyOf y) fun k => optP (lookD kds k) fun v => R (.d v) M
  | _, _, _, _ => False
variable {a b : Expr} {ta tb : TD}
theorem de_ixK {k : Nat} (hr : Room k X.A) (ha : DE X a ta) (hb : DE X b tb) (hs : NoSl b := by exact fun _ _ => rfl) : DE X (.Subscript a b pos) (dOp ixK ta tb) :=
  PE.imp (pe_dget (by have := hr.units; omega) ha hb hs) fun σ H Q ⟨sl, M, R, hs, hm, ht, k⟩ => ⟨sl, M, _, hs, hm, ht, fun x M1 h1 v H1 l1 m1 r1 => ⟨sl, M1, _, hs.sub l1, m1, h1, fun y M2 h2 u H2 l2 m2 r2 => by
    unfold ixK at h2
    split at h2
    · obtain ⟨key, e1, h2⟩ := optP_elim h2
      obtain ⟨d, e2, h2⟩ := optP_elim h2
      have r1 := RD.sub l2 r1
      cases r1 with
      | dct q1 q2 =>
        rcases RKs.look (key := key) q2 with ⟨d', v', f1, f2, f3⟩ | ⟨f1, _⟩
        · rw [e2] at f1
          cases f1
          exact ⟨_, v', rfl, .inl ⟨_, key, .inl (hide_sub _ _ _ _ q1), keyOf_rd r2 e1, f2.symm⟩, k _ M2 h2 _ _ (l1.trans l2) m2 f3⟩
        · rw [e2] at f1
          cases f1
    · exact h2.elim⟩⟩
/-- k in d, k not in d -/
def inK (neg : Bool) : G2
  | .d y, .d (.dict kds), M, R => optP (keyOf y) fun k => R (.d (.bool (if neg then !(lookD kds k).isSome else (lookD kds k).isSome))) M
  | _, _, _, _ => False
/-- dict(pairs), keys apart -/
def pairsD : List PyData → Option (List (Key × PyData))
  | [] => some []
  | .tuple [x, d] :: r => match keyOf x, pairsD r with
    | some k, some q => some ((k, d) :: q)
    | _, _ => none
  | _ :: _ => none
def dictG : GC
  | [.d (.list ps)], M, R => optP (pairsD ps) fun kds => (kds.map (·.1)).Nodup ∧ R (.d (.dict (kds.map fun p => (keyD p.1, p.2)))) M
  | _, _, _ => False
theorem pairs_rd {K : PySem.W.Frag} {H H0 : Hp} (hsub : Sub H H0) : ∀ {ps : List PyData} {vs : List V} {kds : List (Key × PyData)}, RDs K H vs ps → pairsD ps = some kds →
    ∃ (as : List Addr) (kvs : List (Key × V)), vs = as.map V.ref ∧ Paired (fun p kv => SqT K H0 p [kV kv.1, kv.2]) as kvs ∧ kvs.map (·.1) = kds.map (·.1) ∧ RKs K H kvs (kds.map fun p => (keyD p.1, p.2))
  | [], vs, kds, h, e => by
    cases h
    cases e
    exact ⟨[], [], rfl, .nil, rfl, .nil⟩
  | p :: ps, vs, kds, h, e => by
    unfold pairsD at e
    split at e
    · rename_i e0
      cases e0
    · rename_i x d r e0
      cases e0
      split at e
      · rename_i k q ek eq
        cases e
        cases h with
        | cons h t =>
          obtain ⟨as, kvs, e1, e2, e3, e4⟩ := pairs_rd hsub t eq
          cases h with
          | tup q1 q2 =>
            cases q2 with
            | cons q2 q3 =>
              cases q3 with
              | cons q3 q4 =>
                cases q4
                have ex := keyOf_rd q2 ek
                subst ex
                exact ⟨_ :: as, (k, _) :: kvs, by rw [e1]; rfl, .cons (sqT_sub hsub q1) e2, by rw [List.map_cons, List.map_cons, e3], .cons q3 e4⟩
      · cases e
    · cases e
theorem putK_new {kvs : List (Key × V)} {k : Key} {v : V} (h : k ∉ kvs.map (·.1)) : putK kvs k v = kvs ++ [(k, v)] := by
  unfold putK
  rw [if_neg]
  intro hq
  obtain ⟨x, hx, e⟩ := List.any_eq_true.mp hq
  exact h (List.mem_map.mpr ⟨x, hx, of_decide_eq_true e⟩)
theorem mergeK_new : ∀ (more kvs : List (Key × V)), ((kvs ++ more).map (·.1)).Nodup → mergeK kvs more = kvs ++ more
  | [], kvs, _ => by rw [List.append_nil]; rfl
  | p :: r, kvs, h => by
    have h1 : p.1 ∉ kvs.map (·.1) := by
      rw [List.map_append, List.map_cons] at h
      intro hm
      exact (List.nodup_append.mp h).2.2 _ hm _ List.mem_cons_self rfl
    show mergeK (putK kvs p.1 p.2) r = _
    rw [putK_new h1, mergeK_new r (kvs ++ [(p.1, p.2)]) (by simpa using h), List.append_assoc]
    rfl
theorem cd_dict (hc : X.calm = true) : CallD X (.type "dict") dictG := by
  intro pins s σ H vs us Q I r hh
  obtain ⟨xs, M, R, hm, rv, hg, k⟩ := hh
  match xs, hg with
  | [.d (.list ps)], hg =>
    cases rv with
    | cons r1 r2 =>
      cases r2
      cases r1 with
      | lst h1 r1 =>
        obtain ⟨kds, e, hn, hg'⟩ := optP_elim hg
        obtain ⟨as, kvs, e1, e2, e3, e4⟩ := pairs_rd (hide_sub H M) r1 e
        subst e1
        refine call_dictP hc pins s σ H _ us Q I r ⟨_, as, kvs, rfl, SqL.of (hide_sub _ _ _ _ h1), e2, fun p n => ?_⟩
        have em : mergeK [] kvs = kvs := mergeK_new kvs [] (by rw [List.nil_append, e3]; exact hn)
        rw [em]
        exact kt_new k hm n hg' (.dct (new_at hm n) (RKs.sub (le_new n) e4))
/-! ### sorted(list of ints) -/
def sortedG : GC
  | [.d (.list xs)], M, R => optP (intsD xs) fun ns => ∀ ns' : List Int, ns'.Perm ns → ns'.Pairwise (· ≤ ·) → R (.d (.list (dI ns'))) M
  | _, _, _ => False
theorem cd_sorted : CallD X (.builtin "sorted") sortedG := by
  intro pins s σ H vs us Q I r hh
  obtain ⟨xs, M, R, hm, rv, hg, k⟩ := hh
  match xs, hg with
  | [.d (.list xs)], hg =>
    cases rv with
    | cons r1 r2 =>
      cases r2
      cases r1 with
      | lst h1 r1 =>
        obtain ⟨ns, e, hg'⟩ := optP_elim hg
        have e' := intsD_map e
        subst e'
        have ev := rds_ints r1
        subst ev
        exact cr_sortedI pins s σ H _ us Q I r ⟨_, ns, rfl, SqL.of (hide_sub _ _ _ _ h1), fun ns' p h2 h3 n => kt_new k hm n (hg' ns' h2 h3) (rd_lstN hm n (rds_of_ints ns'))⟩
/-! ### % and // by divisors of any sign -/
def CDivA (_ j : Int) : Prop := j ≠ 0 ∧ j.natAbs.log2 < 9000
theorem op_fdivA : OpR X (binaryOp .FloorDiv) (rI CDivA fun i j => .int (i.fdiv j)) := opI fun _ _ _ _ _ _ _ hc q => floordiv_int hc.1 q (.inl (PyProof.noPylong_of_log2 hc.2))
theorem od_fdivA : OpD X (binaryOp .FloorDiv) (g2 (intOpC CDivA Int.fdiv)) := od_intC op_fdivA
theorem od_modA : OpD X (binaryOp .Mod) (g2 (intOpC (fun _ j => j ≠ 0) Int.fmod)) := od_intC op_modN
end
/-- nothing is promised -/
theorem fnG_none {P : Program} {w : World} {K : PySem.W.Frag} {mg : Str → Option Value} {base : Heap} {CX : CXT} {k : Nat} {f : Addr} {fd : FuncData} {ps : List Str} {sp : Sp} (h : ∀ vs H Q E, ¬ sp vs H Q E) : FnG P w K mg base CX k f fd ps sp :=
  ⟨fun vs H Q E q => (h vs H Q E q).elim, fun _ _ _ H _ _ vs Q E _ _ _ _ _ q => (h vs H Q E q).elim⟩
end DL

namespace Law
open PySem PySem.Spec PyProof.Rows L2 DL
def topS (i : Nat) : Stmt := PySem.Challenge.pw_limitrun_k15_values_of_expressions.main.body.getD i (.Pass ⟨0, 0, 0, 0⟩)
def c_COMPARISONS : DV := .d (.tuple [.str "=", .str "!=", .str "<", .str "<=", .str ">", .str ">="])
/-! expressions -/
inductive Op where
  | eq | ne | lt | le | gt | ge | add | sub | mul | mod | and | or | min | max
def Op.s : Op → Str
  | .eq => "=" | .ne => "!=" | .lt => "<" | .le => "<=" | .gt => ">" | .ge => ">=" | .add => "+" | .sub => "-" | .mul => "*" | .mod => "mod" | .and => "and" | .or => "or" | .min => "min" | .max => "max"
def Op.isCmp : Op → Bool
  | .eq | .ne | .lt | .le | .gt | .ge => true
  | _ => false
def Op.isLog : Op → Bool
  | .and | .or => true
  | _ => false
inductive Un where
  | neg | not
def Un.s : Un → Str
  | .neg => "neg" | .not => "not"
inductive Ex where
  | int (i : Int) | name (x : Str) | ite (a b c : Ex) | un (o : Un) (a : Ex) | bin (o : Op) (a b : Ex)
def Ex.d : Ex → PyData
  | .int i => .tuple [.str "int", .int i]
  | .name x => .tuple [.str "name", .str x]
  | .ite a b c => .tuple [.str "if", a.d, b.d, c.d]
  | .un o a => .tuple [.str o.s, a.d]
  | .bin o a b => .tuple [.str o.s, a.d, b.d]
def Ex.dep : Ex → Nat
  | .int _ => 0
  | .name _ => 0
  | .ite a b c => max a.dep (max b.dep c.dep) + 1
  | .un _ a => a.dep + 1
  | .bin _ a b => max a.dep b.dep + 1
def Ex.ok (names : List Str) : Ex → Prop
  | .int i => 0 ≤ i ∧ i < 2 ^ 20
  | .name x => x ∈ names
  | .ite a b c => a.ok names ∧ b.ok names ∧ c.ok names
  | .un _ a => a.ok names
  | .bin _ a b => a.ok names ∧ b.ok names
def b2 (b : Bool) : Int := if b then 1 else 0
def cmpB : Op → Int → Int → Bool
  | .eq, i, j => decide (i = j)
  | .ne, i, j => !decide (i = j)
  | .lt, i, j => decide (i < j)
  | .le, i, j => decide (i ≤ j)
  | .gt, i, j => decide (j < i)
  | .ge, i, j => decide (j ≤ i)
  | _, _, _ => false
def opV : Op → Int → Int → Int
  | .add, i, j => i + j
  | .sub, i, j => i - j
  | .mul, i, j => i * j
  | .mod, i, j => if j = 0 then 0 else i.fmod j
  | .and, i, j => b2 (!decide (i = 0) && !decide (j = 0))
  | .or, i, j => b2 (!decide (i = 0) || !decide (j = 0))
  | .min, i, j => if j < i then j else i
  | .max, i, j => if j > i then j else i
  | o, i, j => b2 (cmpB o i j)
def unV : Un → Int → Int
  | .neg, i => -i
  | .not, i => b2 (decide (i = 0))
abbrev Env := List (Str × Int)
def envD (env : Env) : PyData := .dict (env.map fun p => (.str p.1, .int p.2))
def Ex.val (env : Env) : Ex → Int
  | .int i => i
  | .name x => (env.lookup x).getD 0
  | .ite a b c => if a.val env = 0 then c.val env else b.val env
  | .un o a => unV o (a.val env)
  | .bin o a b => opV o (a.val env) (b.val env)
/-- the values' bits -/
def bd : Nat → Nat
  | 0 => 20
  | n + 1 => 2 * bd n + 1
theorem bd_mono {m n : Nat} (h : m ≤ n) : bd m ≤ bd n := by
  induction n with
  | zero => rw [Nat.le_zero.mp h]; exact Nat.le_refl _
  | succ n ih =>
    by_cases e : m = n + 1
    · rw [e]; exact Nat.le_refl _
    · have := ih (by omega)
      show bd m ≤ 2 * bd n + 1
      omega
def Lim (k : Nat) (i : Int) : Prop := i.natAbs < 2 ^ k
theorem Lim.mono {k m : Nat} {i : Int} (h : Lim k i) (hk : k ≤ m) : Lim m i := Nat.lt_of_lt_of_le h (Nat.pow_le_pow_right (by decide) hk)
theorem lim_b2 (k : Nat) (b : Bool) (hk : 0 < k) : Lim k (b2 b) := by
  have : 2 ^ 1 ≤ 2 ^ k := Nat.pow_le_pow_right (by decide) hk
  unfold Lim
  cases b
  · show 0 < 2 ^ k
    omega
  · show 1 < 2 ^ k
    omega
theorem lim_op {k : Nat} (hk : 0 < k) {i j : Int} (hi : Lim k i) (hj : Lim k j) : ∀ o : Op, Lim (2 * k + 1) (opV o i j) := by
  have hp : 2 ^ (2 * k + 1) = 2 * (2 ^ k * 2 ^ k) := by rw [Nat.pow_succ, Nat.two_mul, Nat.pow_add]; omega
  have h2 : 2 ≤ 2 ^ k := by
    have : 2 ^ 1 ≤ 2 ^ k := Nat.pow_le_pow_right (by decide) hk
    omega
  have hq : 2 ^ k * 2 ≤ 2 ^ k * 2 ^ k := Nat.mul_le_mul_left _ h2
  unfold Lim at hi hj ⊢
  intro o
  cases o with
  | add => show (i + j).natAbs < _; omega
  | sub => show (i - j).natAbs < _; omega
  | mul =>
    show (i * j).natAbs < _
    rw [Int.natAbs_mul]
    have := Nat.mul_lt_mul'' hi hj
    omega
  | mod =>
    show (if j = 0 then 0 else i.fmod j : Int).natAbs < _
    split
    · show 0 < _
      omega
    · rename_i h
      have hb : (i.fmod j).natAbs ≤ j.natAbs := by
        rcases Int.lt_or_gt_of_ne h with h | h
        · have e := Int.neg_fmod_neg (-i) (-j)
          rw [Int.neg_neg, Int.neg_neg] at e
          have h1 := Int.fmod_nonneg_of_pos (-i) (show 0 < -j by omega)
          have h2 := Int.fmod_lt_of_pos (-i) (show 0 < -j by omega)
          omega
        · have h1 := Int.fmod_nonneg_of_pos i h
          have h2 := Int.fmod_lt_of_pos i h
          omega
      omega
  | min => show (if j < i then j else i : Int).natAbs < _; split <;> omega
  | max => show (if j > i then j else i : Int).natAbs < _; split <;> omega
  | _ => exact lim_b2 _ _ (by omega)
theorem lim_un {k : Nat} (hk : 0 < k) {i : Int} (hi : Lim k i) : ∀ o : Un, Lim (2 * k + 1) (unV o i) := by
  intro o
  cases o with
  | neg =>
    show (-i).natAbs < _
    rw [Int.natAbs_neg]
    exact hi.mono (by omega)
  | not => exact lim_b2 _ _ (by omega)
theorem bd_pos : ∀ n, 0 < bd n
  | 0 => by decide
  | n + 1 => by show 0 < 2 * bd n + 1; omega
/-- the environment's values are small -/
def Small (env : Env) : Prop := ∀ p ∈ env, Lim 20 p.2
theorem look_lim {env : Env} (h : Small env) (x : Str) : Lim 20 ((env.lookup x).getD 0) := by
  induction env with
  | nil =>
    show (0 : Int).natAbs < 2 ^ 20
    decide
  | cons p r ih =>
    rw [List.lookup_cons]
    split
    · exact h p List.mem_cons_self
    · exact ih fun q hq => h q (List.mem_cons_of_mem _ hq)
theorem val_lim {env : Env} {names : List Str} (h : Small env) : ∀ e : Ex, e.ok names → Lim (bd e.dep) (e.val env)
  | .int i, ho => by
    have ho : 0 ≤ i ∧ i < 2 ^ 20 := ho
    show i.natAbs < 2 ^ 20
    omega
  | .name x, _ => look_lim h x
  | .ite a b c, ho => by
    have ho : a.ok names ∧ b.ok names ∧ c.ok names := ho
    have h1 := val_lim h b ho.2.1
    have h2 := val_lim h c ho.2.2
    have m1 : bd b.dep ≤ bd (Ex.ite a b c).dep := bd_mono (by show b.dep ≤ max a.dep (max b.dep c.dep) + 1; omega)
    have m2 : bd c.dep ≤ bd (Ex.ite a b c).dep := bd_mono (by show c.dep ≤ max a.dep (max b.dep c.dep) + 1; omega)
    show Lim _ (if a.val env = 0 then c.val env else b.val env)
    split
    · exact h2.mono m2
    · exact h1.mono m1
  | .un o a, ho => lim_un (bd_pos _) (val_lim h a ho) o
  | .bin o a b, ho => by
    have ho : a.ok names ∧ b.ok names := ho
    have h1 := (val_lim h a ho.1).mono (bd_mono (show a.dep ≤ max a.dep b.dep by omega))
    have h2 := (val_lim h b ho.2).mono (bd_mono (show b.dep ≤ max a.dep b.dep by omega))
    exact lim_op (bd_pos _) h1 h2 o
theorem lim_log {k : Nat} {i : Int} (hk : 0 < k) (h : Lim k i) : i.natAbs.log2 < k := PySem.Flt.log2_lt_of hk h
/-! tests of texts -/
theorem in_two (a b x : Str) : ([PyData.str a, .str b].any fun y => PyData.eqv y (.str x)) = (decide (a = x) || decide (b = x)) := by
  show (PyData.eqv (.str a) (.str x) || (PyData.eqv (.str b) (.str x) || false)) = _
  rw [eqv_str, eqv_str, Bool.or_false]
theorem in_six (a b c d e f x : Str) : ([PyData.str a, .str b, .str c, .str d, .str e, .str f].any fun y => PyData.eqv y (.str x)) = (decide (a = x) || (decide (b = x) || (decide (c = x) || (decide (d = x) || (decide (e = x) || decide (f = x)))))) := by
  show (PyData.eqv (.str a) (.str x) || (PyData.eqv (.str b) (.str x) || (PyData.eqv (.str c) (.str x) || (PyData.eqv (.str d) (.str x) || (PyData.eqv (.str e) (.str x) || (PyData.eqv (.str f) (.str x) || false)))))) = _
  rw [eqv_str, eqv_str, eqv_str, eqv_str, eqv_str, eqv_str, Bool.or_false]
theorem if_two {a b x : Str} {A B : Prop} (k : Bool) (e : (decide (a = x) || decide (b = x)) = k) (h : if k = true then A else B) : if ([PyData.str a, .str b].any fun y => PyData.eqv y (.str x)) = true then A else B := by
  rw [in_two, e]
  exact h
theorem if_six {a b c d e f x : Str} {A B : Prop} (k : Bool) (q : (decide (a = x) || (decide (b = x) || (decide (c = x) || (decide (d = x) || (decide (e = x) || decide (f = x)))))) = k) (h : if k = true then A else B) : if ([PyData.str a, .str b, .str c, .str d, .str e, .str f].any fun y => PyData.eqv y (.str x)) = true then A else B := by
  rw [in_six, q]
  exact h
theorem inOk_two (a b x : Str) : InOk [.str a, .str b] (.str x) := ⟨rfl, rfl, Nat.le_trans (Nat.min_le_right _ _) (Nat.zero_le _)⟩
theorem inOk_six (a b c d e f x : Str) : InOk [.str a, .str b, .str c, .str d, .str e, .str f] (.str x) := ⟨rfl, rfl, Nat.le_trans (Nat.min_le_right _ _) (Nat.zero_le _)⟩
theorem eqOk_bool (a b : Bool) : EqOk (.bool a) (.bool b) := ⟨rfl, rfl, Nat.zero_le _⟩
theorem eqv_bool (a b : Bool) : PyData.eqv (.bool a) (.bool b) = (a == b) := by
  unfold PyData.eqv
  rfl
theorem mul_ok {k m : Nat} {i j : Int} (hk : 0 < k) (hm : 0 < m) (hi : Lim k i) (hj : Lim m j) (h : k + m ≤ 1000000) : CMul i j ∨ CMulW i j := .inr (wide_mul hi hj hk hm h)
theorem ifStr {i : Nat} {x y : Str} {A B : TSD} {D : EndsD} {sl : Slots} {M : Mem} (k : Bool) (hs : sl[i]? = some (some (.d (.str x)))) (e : decide (x = y) = k) (h : if k = true then A D sl M else B D sl M) : dIfS (dB (dOp (g2 eqD) (dVar i) (dC (.d (.str y))))) A B D sl M := by
  unfold dIfS dB dOp dVar
  rw [hs]
  show if decide (x = y) = true then _ else _
  rw [e]
  exact h
theorem ifStrE {i : Nat} {x y : Str} {A B : TD} {R : KD} {sl : Slots} {M : Mem} (k : Bool) (hs : sl[i]? = some (some (.d (.str x)))) (e : decide (x = y) = k) (h : if k = true then A sl M R else B sl M R) : dIf (dB (dOp (g2 eqD) (dVar i) (dC (.d (.str y))))) A B sl M R := by
  unfold dIf dB dOp dVar
  rw [hs]
  show if decide (x = y) = true then _ else _
  rw [e]
  exact h
theorem op_ne (o : Op) : decide (o.s = "int") = false ∧ decide (o.s = "name") = false ∧ decide (o.s = "if") = false ∧ decide (o.s = "neg") = false ∧ decide (o.s = "not") = false := by
  cases o <;> decide +kernel
theorem un_ne (o : Un) : decide (o.s = "int") = false ∧ decide (o.s = "name") = false ∧ decide (o.s = "if") = false := by
  cases o <;> decide +kernel
theorem op_log (o : Op) : (decide (("and" : Str) = o.s) || decide (("or" : Str) = o.s)) = o.isLog := by
  cases o <;> decide +kernel
theorem op_cmp (o : Op) : (decide (("=" : Str) = o.s) || (decide (("!=" : Str) = o.s) || (decide (("<" : Str) = o.s) || (decide (("<=" : Str) = o.s) || (decide ((">" : Str) = o.s) || decide ((">=" : Str) = o.s)))))) = o.isCmp := by
  cases o <;> decide +kernel
/-! ### _law_source -/
abbrev s__law_source : Stmt := topS 7
abbrev N__law_source : List Str := ["script", "numbers", "number", "place"]
theorem sc__law_source : FnScope N__law_source ["script"] (defScope s__law_source) := ⟨rfl, rfl, rfl, by decide +kernel, rfl, by decide +kernel, by decide +kernel⟩
def sp__law_source : SpD := fun xs M R => ∃ ns : List Int, xs = [.scr ns] ∧ ns.length ≤ 63 ∧ ∀ p nums, nums.length ≤ 14 → M p = none → R (.raw (.ref p)) (updM M p (srcO2 nums 0 0))
def t__law_source : TSD := (dSeq (dSet 1 (dLcO (diSeq (dSl (dVar 0) dNoPart (dPart (dC (.d (.int 14)))))) (dgName 2) dYes (dCall (g1 absD) (dCons (dVar 2) dNil)) [2]))
  (dSeq (dFor (diEnum (dCons (dSl (dVar 0) (dPart (dC (.d (.int 14)))) (dPart (dC (.d (.int 63))))) dNil)) (dgTup 2 (dgCons (dgName 3) (dgCons (dgName 2) dgNil))) (dStore (dOp (g2 addD) (dOp ixD (dVar 1) (dOp (g2 (intOpC (fun _ j => 0 < j) (· % ·))) (dVar 3) (dC (.d (.int 14))))) (dCall (g1 absD) (dCons (dVar 2) dNil))) (dVar 1) (dOp (g2 (intOpC (fun _ j => 0 < j) (· % ·))) (dVar 3) (dC (.d (.int 14))))))
  (dFreeze 1 (dRet (dLstO (dCons (dVar 1) (dCons (dC (.d (.int 0))) (dCons (dC (.d (.int 0))) dNil))))))))

theorem len__law_source : ∀ xs M R, sp__law_source xs M R → xs.length = 1 := by
  rintro xs M R ⟨n, rfl, _⟩
  rfl
def iabs (i : Int) : Int := if i < 0 then -i else i
theorem pure__law_source : ∀ xs M R, sp__law_source xs M R → t__law_source { nx := fun _ M' => R (.d .none) M', rt := R } (startD N__law_source xs) M := by
  rintro xs M R ⟨ns, rfl, hl, h⟩
  have e1 : cutL ns none (some 14) = ns.take 14 := cut_to ns 14
  have l1 : (ns.take 14).length ≤ 14 := by rw [List.length_take]; omega
  refine sq fun q nq => ?_
  refine ⟨fun i M' => M' = updM M q (.lst (((ns.take 14).take i).map fun n => DV.d (.int (iabs n)))), rfl, ?_, ?_⟩
  · rintro i x M' hx rfl
    rw [e1] at hx
    obtain ⟨d, hd, rfl⟩ := map_get hx
    obtain ⟨n, hn, rfl⟩ : ∃ n, (ns.take 14)[i]? = some n ∧ d = .int n := by
      rw [List.getElem?_map] at hd
      cases e : (ns.take 14)[i]? with
      | none => rw [e] at hd; cases hd
      | some n => rw [e] at hd; cases hd; exact ⟨n, rfl, rfl⟩
    refine getL_of updM_same ⟨smallL (by rw [List.length_map, List.length_take]; omega), ?_⟩
    have et : (ns.take 14).take (i + 1) = (ns.take 14).take i ++ [n] := by
      have := List.take_add_one (l := ns.take 14) (i := i)
      rw [this, hn]
      rfl
    show updM (updM M q _) q _ = updM M q _
    rw [updM_upd, et, List.map_append]
    rfl
  · intro M' hM'
    have e2 : ((List.map DV.d ((cutL ns none (some 14)).map PyData.int))).length = (ns.take 14).length := by rw [e1, List.length_map, List.length_map]
    rw [e2, List.take_length] at hM'
    subst hM'
    -- the second loop
    have e3 : cutL ns (some 14) (some 63) = (ns.drop 14).take 49 := by
      unfold cutL
      rw [show HT.sIx ns.length 0 (some 14) = min 14 ns.length from HT.sIx_nat ns.length 0 14, show HT.sIx ns.length ns.length (some 63) = min 63 ns.length from HT.sIx_nat ns.length ns.length 63]
      by_cases hc : 14 ≤ ns.length
      · rw [Nat.min_eq_left hc]
        by_cases hd : 63 ≤ ns.length
        · rw [Nat.min_eq_left hd]
        · rw [Nat.min_eq_right (by omega), List.take_of_length_le (by rw [List.length_drop]; exact Nat.le_refl _), List.take_of_length_le (by rw [List.length_drop]; omega)]
      · have m1 : min 14 ns.length = ns.length := Nat.min_eq_right (by omega)
        rw [m1, List.drop_of_length_le (Nat.le_refl _), List.drop_of_length_le (show ns.length ≤ 14 by omega), List.take_nil, List.take_nil]
    refine sq ⟨fun i sl M' => ∃ (nums : List Int) (t2 t3 : Option DV), sl = [some (.scr ns), some (.raw (.ref q)), t2, t3] ∧ nums.length = (ns.take 14).length ∧ M' = updM M q (.lst ((dI nums).map DV.d)),
      ⟨(ns.take 14).map iabs, none, none, rfl, by rw [List.length_map], by rw [List.map_map, List.map_map]; rfl⟩, ?_, ?_⟩
    · rintro i x sl M' hx ⟨nums, t2, t3, rfl, hn, rfl⟩
      rw [e3, enumL_get] at hx
      cases hd : (dI ((ns.drop 14).take 49))[i]? with
      | none => rw [hd] at hx; cases hx
      | some d =>
        rw [hd] at hx
        cases hx
        obtain ⟨n, hnn, rfl⟩ : ∃ n, ((ns.drop 14).take 49)[i]? = some n ∧ d = .int n := by
          rw [List.getElem?_map] at hd
          cases e : ((ns.drop 14).take 49)[i]? with
          | none => rw [e] at hd; cases hd
          | some n => rw [e] at hd; cases hd; exact ⟨n, rfl, rfl⟩
        have hlong : 14 < ns.length := by
          have := (List.getElem?_eq_some_iff.mp hnn).1
          rw [List.length_take, List.length_drop] at this
          omega
        have hn14 : nums.length = 14 := by rw [hn, List.length_take]; omega
        have hm : (0 : Int) < 14 := by decide
        have hj : ∃ j : Nat, ((i : Int) % 14) = (j : Int) ∧ j < nums.length := ⟨i % 14, by omega, by omega⟩
        obtain ⟨j, ej, hj⟩ := hj
        have ea : atI ((dI nums).map DV.d) ((i : Int) % 14) = some (.d (.int nums[j])) := by
          rw [ej, atI_map, atI_map, atI_ge hj]
          rfl
        have ei : ixN ((dI nums).map DV.d).length ((i : Int) % 14) = some j := by
          rw [ej, List.length_map, List.length_map]
          unfold ixN
          rw [if_pos (by omega), if_pos (by omega), Int.toNat_natCast]
        refine ⟨rfl, hm, getL_of updM_same (optP_of ea ⟨hm, getL_of updM_same (optP_of ei ?_)⟩)⟩
        refine ⟨nums.set j (nums[j] + iabs n), _, _, rfl, by rw [List.length_set]; exact hn, ?_⟩
        rw [updM_upd]
        show updM M q (.lst (((dI nums).map DV.d).set j (.d (.int (nums[j] + iabs n))))) = _
        rw [show (dI (nums.set j (nums[j] + iabs n))) = (dI nums).set j (.int (nums[j] + iabs n)) from List.map_set, List.map_set]
    · rintro sl M' ⟨nums, t2, t3, rfl, hn, rfl⟩
      refine getL_of updM_same (optP_of (allD_of _) ⟨by show 3 ≤ sizeLine; decide, fun p np => ?_⟩)
      rw [delM_upd nq] at np ⊢
      exact h p nums (by rw [hn]; exact l1) np
theorem ok__law_source {P : Program} {w : World} {K : PySem.W.Frag} {mg : Str → Option Value} {base : Heap} {dV : Value} {f : Addr} {fd : FuncData} (F : FunA K "_law_source" "_law_source" s__law_source dV f fd) (b_abs : mg "abs" = none) (b_enumerate : mg "enumerate" = none) : FnG P w K mg base CX0 1 f fd ["script"] (liftSp K sp__law_source) :=
  F.data sc__law_source len__law_source t__law_source (fun cdv A outer s H E hg hr =>
    (dss_cons (ds_setLcO (i := 1) (own := [("number", 2)]) rfl sc__law_source.nd rfl rfl (sw_true rfl rfl rfl (by decide +kernel)) (di_seq (de_slice (de_var 0) do_none (do_some de_int))) (blkOk_by (own := [("number", 2)]) (N := N__law_source) (sc := defScope s__law_source) (by decide +kernel)) (fun _ _ _ _ _ => (dg_name (i := 2) sc__law_source.nd rfl (by first | exact Or.inl rfl | exact Or.inr rfl))) (fun _ _ _ _ _ => dts_nil) (fun _ _ _ _ _ => (de_callB cd_abs (by rfl) b_abs (by decide +kernel) (da_cons (de_var 2) da_nil))) (by decide))
      (dss_cons (ds_for PassesOwn.never rfl (di_enum (by rfl) b_enumerate (da_cons (de_slice (de_var 0) (do_some de_int) (do_some de_int)) da_nil)) (dg_tup rfl (dgs_cons (dg_name (i := 3) sc__law_source.nd rfl (by first | exact Or.inl rfl | exact Or.inr rfl)) (dgs_cons (dg_name (i := 2) sc__law_source.nd rfl (by first | exact Or.inl rfl | exact Or.inr rfl)) dgs_nil))) (dss_one (ds_store (de_op od_add (de_ix (de_var 1) (de_op od_mod (de_var 3) de_int)) (de_callB cd_abs (by rfl) b_abs (by decide +kernel) (da_cons (de_var 2) da_nil))) (de_var 1) (de_op od_mod (de_var 3) de_int))))
      (dss_freeze 1 (dss_one (ds_ret (de_lstO (da_cons (de_var 1) (da_cons de_int (da_cons de_int da_nil)))))))))) pure__law_source
/-! ### _law_mixed -/
abbrev s__law_mixed : Stmt := topS 6
abbrev N__law_mixed : List Str := ["number", "place", "prime", "value", "turn"]
theorem sc__law_mixed : FnScope N__law_mixed ["number", "place"] (defScope s__law_mixed) := ⟨rfl, rfl, rfl, by decide +kernel, rfl, by decide +kernel, by decide +kernel⟩
def sp__law_mixed : SpD := fun xs M R => ∃ n i : Int, xs = [.d (.int n), .d (.int i)] ∧ ∀ r, R (.d (.int r)) M
def t__law_mixed : TSD := (dSeq (dSet 2 (dC (.d (.int 2305843009213693951))))
  (dSeq (dSet 3 (dOp (g2 (intOpC (fun _ j => 0 < j) (· % ·))) (dOp (g2 addD) (dOp (g2 addD) (dOp (g2 mulD) (dOp (g2 (intOpC (fun _ j => 0 < j) (· % ·))) (dVar 0) (dVar 2)) (dOp (g2 addD) (dOp (g2 mulD) (dC (.d (.int 2))) (dVar 1)) (dC (.d (.int 3))))) (dOp (g2 mulD) (dC (.d (.int 7919))) (dVar 1))) (dC (.d (.int 104729)))) (dVar 2)))
  (dSeq (dFor (diRange1 (dCons (dC (.d (.int 4))) dNil)) (dgName 4) (dSet 3 (dOp (g2 (intOpC (fun _ j => 0 < j) (· % ·))) (dOp (g2 addD) (dOp (g2 addD) (dOp (g2 addD) (dOp (g2 mulD) (dVar 3) (dVar 3)) (dOp (g2 mulD) (dOp (g2 addD) (dVar 4) (dC (.d (.int 5)))) (dVar 3))) (dOp (g2 mulD) (dC (.d (.int 31))) (dVar 1))) (dC (.d (.int 1)))) (dVar 2))))
  (dRet (dOp (g2 addD) (dOp (g2 mulD) (dVar 3) (dVar 2)) (dOp (g2 (intOpC (fun _ j => 0 < j) (· % ·))) (dOp (g2 addD) (dOp (g2 mulD) (dVar 3) (dC (.d (.int 69621)))) (dVar 1)) (dVar 2)))))))

theorem len__law_mixed : ∀ xs M R, sp__law_mixed xs M R → xs.length = 2 := by
  rintro xs M R ⟨n, i, rfl, _⟩
  rfl
theorem pure__law_mixed : ∀ xs M R, sp__law_mixed xs M R → t__law_mixed { nx := fun _ M' => R (.d .none) M', rt := R } (startD N__law_mixed xs) M := by
  rintro xs M R ⟨n, i, rfl, h⟩
  have hm : (0 : Int) < 2305843009213693951 := by decide
  have n0 := Int.emod_nonneg n (show (2305843009213693951 : Int) ≠ 0 by decide)
  have n1 := Int.emod_lt_of_pos n hm
  refine sq (sq ⟨hm, .inl (.inl ⟨by decide, by decide⟩), .inl (.inl ⟨by show -(2 ^ 64) < n % 2305843009213693951; omega, by show n % 2305843009213693951 < 2 ^ 64; omega⟩), .inl (.inl ⟨by decide, by decide⟩), hm, ?_⟩)
  refine sq ⟨⟨by decide, by decide⟩, fun k sl M' => ∃ (f : Int) (t : Option DV), sl = [some (.d (.int n)), some (.d (.int i)), some (.d (.int 2305843009213693951)), some (.d (.int f)), t] ∧ M' = M ∧ 0 ≤ f ∧ f < 2305843009213693951,
    ⟨_, none, rfl, rfl, Int.emod_nonneg _ (by decide), Int.emod_lt_of_pos _ (by decide)⟩, ?_, ?_⟩
  · rintro k x sl M' hx ⟨f, t, rfl, rfl, h0, h1⟩
    obtain ⟨rfl, hk⟩ := range_get hx
    refine ⟨.inl (.inl ⟨by omega, by omega⟩), .inl (.inr ⟨by omega, by omega⟩), .inl (.inl ⟨by decide, by decide⟩), hm, ?_⟩
    exact ⟨_, _, rfl, rfl, Int.emod_nonneg _ (by decide), Int.emod_lt_of_pos _ (by decide)⟩
  · rintro sl M' ⟨f, t, rfl, rfl, h0, h1⟩
    exact ⟨.inl (.inr ⟨by decide, by decide⟩), .inl (.inr ⟨by decide, by decide⟩), hm, h _⟩
theorem ok__law_mixed {P : Program} {w : World} {K : PySem.W.Frag} {mg : Str → Option Value} {base : Heap} {dV : Value} {f : Addr} {fd : FuncData} (F : FunA K "_law_mixed" "_law_mixed" s__law_mixed dV f fd) (b_range : mg "range" = none) : FnG P w K mg base CX0 1 f fd ["number", "place"] (liftSp K sp__law_mixed) :=
  F.data sc__law_mixed len__law_mixed t__law_mixed (fun cdv A outer s H E hg hr =>
    (dss_cons (ds_set (i := 2) sc__law_mixed.nd rfl (by first | exact Or.inl rfl | exact Or.inr rfl) de_int)
      (dss_cons (ds_set (i := 3) sc__law_mixed.nd rfl (by first | exact Or.inl rfl | exact Or.inr rfl) (de_op od_mod (de_op od_add (de_op od_add (de_op od_mul (de_op od_mod (de_var 0) (de_var 2)) (de_op od_add (de_op od_mul de_int (de_var 1)) de_int)) (de_op od_mul de_int (de_var 1))) de_int) (de_var 2)))
      (dss_cons (ds_for PassesOwn.never rfl (di_range1 (by rfl) b_range (da_cons de_int da_nil)) (dg_name (i := 4) sc__law_mixed.nd rfl (by first | exact Or.inl rfl | exact Or.inr rfl)) (dss_one (ds_set (i := 3) sc__law_mixed.nd rfl (by first | exact Or.inl rfl | exact Or.inr rfl) (de_op od_mod (de_op od_add (de_op od_add (de_op od_add (de_op od_mul (de_var 3) (de_var 3)) (de_op od_mul (de_op od_add (de_var 4) de_int) (de_var 3))) (de_op od_mul de_int (de_var 1))) de_int) (de_var 2)))))
      (dss_one (ds_ret (de_op od_add (de_op od_mul (de_var 3) (de_var 2)) (de_op od_mod (de_op od_add (de_op od_mul (de_var 3) de_int) (de_var 1)) (de_var 2))))))))) pure__law_mixed
/-! ### _law_pick -/
abbrev s__law_pick : Stmt := topS 8
abbrev N__law_pick : List Str := ["source", "many", "numbers", "place", "number", "found"]
theorem sc__law_pick : FnScope N__law_pick ["source", "many"] (defScope s__law_pick) := ⟨rfl, rfl, rfl, by decide +kernel, rfl, by decide +kernel, by decide +kernel⟩
def sp__law_pick : SpD := fun xs M R => ∃ (p : Addr) (b : Int), xs = [.raw (.ref p), .d (.int b)] ∧ 0 < b ∧ b < 2 ^ 200 ∧ Src2 M p ∧ ∀ r M', 0 ≤ r → r < b → Keeps p M M' → Src2 M' p → R (.d (.int r)) M'
def t__law_pick : TSD := (dSeq (dIfS (dB (dOp (g2 ltD) (dOp ixD (dVar 0) (dC (.d (.int 2)))) (dVar 1))) (dSeq (dPar 2 3 (dCons (dOp ixD (dVar 0) (dC (.d (.int 0)))) (dCons (dOp ixD (dVar 0) (dC (.d (.int 1)))) dNil)))
  (dSeq (dSet 4 (dIf (dB (dOp (g2 neD) (dVar 2) (dLst dNil))) (dOp ixD (dVar 2) (dOp (g2 (intOpC (fun _ j => 0 < j) (· % ·))) (dVar 3) (dCall lenG (dCons (dVar 2) dNil)))) (dC (.d (.int 0)))))
  (dSeq (dIfS (dOr (dB (dOp (g2 ltD) (dVar 4) (dOp (g2 (intOpC CPow fun i j => i ^ j.toNat)) (dC (.d (.int 10))) (dC (.d (.int 18)))))) (dB (dOp (g2 (intCmp fun i j => decide (j ≤ i))) (dVar 3) (dCall lenG (dCons (dVar 2) dNil))))) (dSet 4 (dCall sp__law_mixed (dCons (dOp (g2 addD) (dOp (g2 (intOpC (fun _ j => 0 < j) (· % ·))) (dVar 4) (dOp (g2 (intOpC CPow fun i j => i ^ j.toNat)) (dC (.d (.int 10))) (dC (.d (.int 15))))) (dOp (g2 (intOpC CDivW (· / ·))) (dVar 3) (dOp (g2 addD) (dCall lenG (dCons (dVar 2) dNil)) (dC (.d (.int 1)))))) (dCons (dVar 3) dNil)))) dNext)
  (dSeq (dStore (dOp (g2 addD) (dVar 3) (dC (.d (.int 1)))) (dVar 0) (dC (.d (.int 1))))
  (dStore (dVar 4) (dVar 0) (dC (.d (.int 2)))))))) dNext)
  (dSeq (dSet 5 (dOp (g2 (intOpC (fun _ j => 0 < j) (· % ·))) (dOp ixD (dVar 0) (dC (.d (.int 2)))) (dVar 1)))
  (dSeq (dStore (dOp (g2 (intOpC CDivW (· / ·))) (dOp ixD (dVar 0) (dC (.d (.int 2)))) (dVar 1)) (dVar 0) (dC (.d (.int 2))))
  (dRet (dVar 5)))))

theorem len__law_pick : ∀ xs M R, sp__law_pick xs M R → xs.length = 2 := by
  rintro xs M R ⟨p, b, rfl, _⟩
  rfl
theorem at3_0 {a b c : DV} : atI [a, b, c] 0 = some a := rfl
theorem at3_1 {a b c : DV} : atI [a, b, c] 1 = some b := rfl
theorem at3_2 {a b c : DV} : atI [a, b, c] 2 = some c := rfl
theorem pure__law_pick : ∀ xs M R, sp__law_pick xs M R → t__law_pick { nx := fun _ M' => R (.d .none) M', rt := R } (startD N__law_pick xs) M := by
  rintro xs M R ⟨p, b, rfl, hb, hb2, ⟨nums, i, z, hl14, hM⟩, h⟩
  refine seq_cut (fun sl M1 => ∃ (nums : List Int) (i z : Int) (t2 t3 t4 : Option DV), sl = [some (.raw (.ref p)), some (.d (.int b)), t2, t3, t4, none] ∧ Keeps p M M1 ∧ nums.length ≤ 14 ∧ M1 p = some (srcO2 nums i z)) (fun N hN => ?_) ?_
  · refine getL_of hM (optP_of at3_2 ?_)
    refine if_dec (fun hc => ?_) (fun hc => hN _ _ ⟨nums, i, z, _, _, _, rfl, Keeps.refl p M, hl14, hM⟩)
    refine sq (getL_of hM (optP_of at3_0 ?_))
    refine getL_of hM (optP_of at3_1 ?_)
    refine seq_cut (fun sl M1 => M1 = M ∧ ∃ number : Int, sl = [some (.raw (.ref p)), some (.d (.int b)), some (.d (.list (dI nums))), some (.d (.int i)), some (.d (.int number)), none]) (fun N1 hN1 => ?_) ?_
    · refine optP_of rfl ⟨Nat.zero_le _, eqOk_L (plain_ints _), ?_⟩
      rw [eqv_nil]
      refine if_ndec (fun h1 => ?_) (fun h1 => hN1 _ _ ⟨rfl, 0, rfl⟩)
      have hne : nums ≠ [] := fun z => h1 (dI_nil.mpr z)
      have hl : 0 < nums.length := List.length_pos_iff.mpr hne
      have hl2 : (0 : Int) < ((dI nums).length : Int) := by rw [List.length_map]; omega
      refine ⟨hl2, ?_⟩
      have hj : ∃ j : Nat, i % ((dI nums).length : Int) = (j : Int) ∧ j < nums.length := by
        have a1 := Int.emod_nonneg i (show ((dI nums).length : Int) ≠ 0 by omega)
        have a2 := Int.emod_lt_of_pos i hl2
        rw [List.length_map] at a1 a2 ⊢
        exact ⟨(i % (nums.length : Int)).toNat, by omega, by omega⟩
      obtain ⟨j, ej, hj⟩ := hj
      exact optP_of (by show atI (dI nums) (i % _) = _; rw [ej, atI_map, atI_ge hj]; rfl) (hN1 _ _ ⟨rfl, nums[j], rfl⟩)
    · rintro sl M1 ⟨rfl, number, rfl⟩
      refine seq_cut (fun sl M2 => M2 = M1 ∧ ∃ number : Int, sl = [some (.raw (.ref p)), some (.d (.int b)), some (.d (.list (dI nums))), some (.d (.int i)), some (.d (.int number)), none]) (fun N2 hN2 => ?_) ?_
      · have h15 : (0 : Int) < 10 ^ (Int.toNat 15) := by decide
        have hd : CDivW i (((dI nums).length : Int) + 1) := by
          rw [List.length_map]
          refine wide_div (by omega) (b := 60) ?_ (by decide) (by decide)
          omega
        refine ⟨⟨by decide, by decide, by decide⟩, ?_⟩
        refine if_dec (fun h1 => ?_) (fun h1 => if_dec (fun h2 => ?_) (fun h2 => hN2 _ _ ⟨rfl, number, rfl⟩))
        · exact ⟨⟨by decide, by decide, by decide⟩, h15, hd, _, _, rfl, fun r => hN2 _ _ ⟨rfl, r, rfl⟩⟩
        · exact ⟨⟨by decide, by decide, by decide⟩, h15, hd, _, _, rfl, fun r => hN2 _ _ ⟨rfl, r, rfl⟩⟩
      · rintro sl M2 ⟨rfl, n2, rfl⟩
        refine sq (getL_of hM (optP_of (x := 1) rfl ?_))
        refine getL_of updM_same (optP_of (x := 2) rfl ?_)
        exact hN _ _ ⟨nums, i + 1, n2, _, _, _, rfl, ((Keeps.refl p M2).upd _).upd _, hl14, by rw [updM_same]; rfl⟩
  · rintro sl M1 ⟨nums, i, z, t2, t3, t4, rfl, hk, hl14, hM1⟩
    have hW : CDivW z b := wide_div hb (b := 200) (by omega) (by decide) (by decide)
    refine sq (getL_of hM1 (optP_of at3_2 ⟨hb, ?_⟩))
    refine sq (getL_of hM1 (optP_of at3_2 ⟨hW, ?_⟩))
    refine getL_of hM1 (optP_of (x := 2) rfl ?_)
    refine h _ _ (Int.emod_nonneg _ (by omega)) (Int.emod_lt_of_pos _ hb) (hk.upd _) ⟨nums, i, z / b, hl14, ?_⟩
    rw [updM_same]
    rfl
theorem ok__law_pick {P : Program} {w : World} {K : PySem.W.Frag} {mg : Str → Option Value} {base : Heap} {dV : Value} {f : Addr} {fd : FuncData} (F : FunA K "_law_pick" "_law_pick" s__law_pick dV f fd) (D__law_mixed : Def P w K mg base "_law_mixed" 1 sp__law_mixed) (b_len : mg "len" = none) : FnG P w K mg base CX0 2 f fd ["source", "many"] (liftSp K sp__law_pick) :=
  F.data sc__law_pick len__law_pick t__law_pick (fun cdv A outer s H E hg hr =>
    (dss_cons (ds_if (dt_cmp (od_lt hr) (de_ix (de_var 0) de_int) (de_var 1) (nomark _)) (dss_cons (ds_par (i := 2) (j := 3) rfl sc__law_pick.nd rfl rfl (by decide) rfl rfl (da_cons (de_ix (de_var 0) de_int) (da_cons (de_ix (de_var 0) de_int) da_nil)) (by rfl))
      (dss_cons (ds_set (i := 4) sc__law_pick.nd rfl (by first | exact Or.inl rfl | exact Or.inr rfl) (de_if (dt_cmp (od_ne hr) (de_var 2) (de_lst da_nil) (nomark _)) (de_ix (de_var 2) (de_op od_mod (de_var 3) (de_callB cd_len (by rfl) b_len (by decide +kernel) (da_cons (de_var 2) da_nil)))) de_int))
      (dss_cons (ds_if (dt_w (dw_or (dt_cmp (od_lt hr) (de_var 4) (de_op od_pow de_int de_int) (nomark _)) (dw_or1 (dt_cmp od_ge (de_var 3) (de_callB cd_len (by rfl) b_len (by decide +kernel) (da_cons (de_var 2) da_nil)) (nomark _))))) (dss_one (ds_set (i := 4) sc__law_pick.nd rfl (by first | exact Or.inl rfl | exact Or.inr rfl) (D__law_mixed.de hg (hr.mono (by decide)) (by rfl) (da_cons (de_op od_add (de_op od_mod (de_var 4) (de_op od_pow de_int de_int)) (de_op od_fdiv (de_var 3) (de_op od_add (de_callB cd_len (by rfl) b_len (by decide +kernel) (da_cons (de_var 2) da_nil)) de_int))) (da_cons (de_var 3) da_nil))))) dss_nil)
      (dss_cons (ds_store (de_op od_add (de_var 3) de_int) (de_var 0) de_int)
      (dss_one (ds_store (de_var 4) (de_var 0) de_int)))))) dss_nil)
      (dss_cons (ds_set (i := 5) sc__law_pick.nd rfl (by first | exact Or.inl rfl | exact Or.inr rfl) (de_op od_mod (de_ix (de_var 0) de_int) (de_var 1)))
      (dss_cons (ds_store (de_op od_fdiv (de_ix (de_var 0) de_int) (de_var 1)) (de_var 0) de_int)
      (dss_one (ds_ret (de_var 5))))))) pure__law_pick
/-! ### _law_choose -/
abbrev s__law_choose : Stmt := topS 9
abbrev N__law_choose : List Str := ["source", "options"]
theorem sc__law_choose : FnScope N__law_choose ["source", "options"] (defScope s__law_choose) := ⟨rfl, rfl, rfl, by decide +kernel, rfl, by decide +kernel, by decide +kernel⟩
def sp__law_choose : SpD := fun xs M R => ∃ (p : Addr) (ds : List PyData), xs = [.raw (.ref p), .d (.list ds)] ∧ 0 < ds.length ∧ ds.length ≤ 100000 ∧ Src2 M p ∧ ∀ d M', d ∈ ds → Keeps p M M' → Src2 M' p → R (.d d) M'
def t__law_choose : TSD := (dRet (dOp ixD (dVar 1) (dCall sp__law_pick (dCons (dVar 0) (dCons (dCall lenG (dCons (dVar 1) dNil)) dNil)))))

theorem len__law_choose : ∀ xs M R, sp__law_choose xs M R → xs.length = 2 := by
  rintro xs M R ⟨p, b, rfl, _⟩
  rfl
theorem pure__law_choose : ∀ xs M R, sp__law_choose xs M R → t__law_choose { nx := fun _ M' => R (.d .none) M', rt := R } (startD N__law_choose xs) M := by
  rintro xs M R ⟨p, ds, rfl, h0, h1, hs, h⟩
  refine ⟨p, (ds.length : Int), rfl, by omega, by omega, hs, fun r M' r0 r1 hk hs' => ?_⟩
  obtain ⟨j, rfl⟩ : ∃ j : Nat, r = (j : Int) := ⟨r.toNat, by omega⟩
  have hj : j < ds.length := by omega
  exact optP_of (atI_ge hj) (h _ M' (List.getElem_mem hj) hk hs')
theorem ok__law_choose {P : Program} {w : World} {K : PySem.W.Frag} {mg : Str → Option Value} {base : Heap} {dV : Value} {f : Addr} {fd : FuncData} (F : FunA K "_law_choose" "_law_choose" s__law_choose dV f fd) (D__law_pick : Def P w K mg base "_law_pick" 2 sp__law_pick) (b_len : mg "len" = none) : FnG P w K mg base CX0 3 f fd ["source", "options"] (liftSp K sp__law_choose) :=
  F.data sc__law_choose len__law_choose t__law_choose (fun cdv A outer s H E hg hr =>
    (dss_one (ds_ret (de_ix (de_var 1) (D__law_pick.de hg (hr.mono (by decide)) (by rfl) (da_cons (de_var 0) (da_cons (de_callB cd_len (by rfl) b_len (by decide +kernel) (da_cons (de_var 1) da_nil)) da_nil))))))) pure__law_choose
/-! ### _law_expression -/
abbrev s__law_expression : Stmt := topS 11
abbrev N__law_expression : List Str := ["source", "names", "depth", "way", "parts", "k", "operators"]
theorem sc__law_expression : FnScope N__law_expression ["source", "names", "depth"] (defScope s__law_expression) := ⟨rfl, rfl, rfl, by decide +kernel, rfl, by decide +kernel, by decide +kernel⟩
def sp__law_expression (n : Nat) : SpD := fun xs M R => ∃ (p : Addr) (names : List Str) (k : Nat), xs = [.raw (.ref p), .d (.list (names.map PyData.str)), .d (.int (k : Nat))] ∧ k < n ∧ names ≠ [] ∧ names.length ≤ 1000 ∧ Src2 M p ∧ ∀ (e : Ex) M', e.ok names → e.dep ≤ k → Keeps p M M' → Src2 M' p → R (.d e.d) M'
theorem none__law_expression : ∀ xs M R, ¬ sp__law_expression 0 xs M R := by
  rintro xs M R ⟨p, names, k, rfl, hk, _⟩
  omega
def opsL : List Op := [.eq, .ne, .lt, .le, .gt, .ge, .add, .sub, .mul, .mod, .and, .or, .min, .max, .add, .sub]
theorem three_of {ys : List PyData} {Q : PyData → Prop} (h : ys.length = 3) (hq : ∀ y ∈ ys, Q y) : ∃ a b c, ys = [a, b, c] ∧ Q a ∧ Q b ∧ Q c := by
  match ys, h with
  | [a, b, c], _ => exact ⟨a, b, c, rfl, hq a (by simp), hq b (by simp), hq c (by simp)⟩
theorem two_of {ys : List PyData} {Q : PyData → Prop} (h : ys.length = 2) (hq : ∀ y ∈ ys, Q y) : ∃ a b, ys = [a, b] ∧ Q a ∧ Q b := by
  match ys, h with
  | [a, b], _ => exact ⟨a, b, rfl, hq a (by simp), hq b (by simp)⟩
def t__law_expression (n : Nat) : TSD := (dSeq (dSet 3 (dIf (dB (dOp (g2 (intCmp fun i j => decide (j < i))) (dVar 2) (dC (.d (.int 0))))) (dCall sp__law_pick (dCons (dVar 0) (dCons (dC (.d (.int 12))) dNil))) (dCall sp__law_pick (dCons (dVar 0) (dCons (dC (.d (.int 2))) dNil)))))
  (dSeq (dIfS (dB (dOp (g2 eqD) (dVar 3) (dC (.d (.int 0))))) (dRet (dTup (dCons (dC (.d (.str "int"))) (dCons (dCall sp__law_choose (dCons (dVar 0) (dCons (dLst (dCons (dC (.d (.int 0))) (dCons (dC (.d (.int 1))) (dCons (dC (.d (.int 2))) (dCons (dC (.d (.int 3))) (dCons (dC (.d (.int 7))) (dCons (dC (.d (.int 10))) (dCons (dC (.d (.int 999999))) dNil)))))))) dNil))) dNil)))) dNext)
  (dSeq (dIfS (dB (dOp (g2 ltD) (dVar 3) (dC (.d (.int 3))))) (dRet (dTup (dCons (dC (.d (.str "name"))) (dCons (dCall sp__law_choose (dCons (dVar 0) (dCons (dVar 1) dNil))) dNil)))) dNext)
  (dSeq (dSet 4 (dLc (diRange1 (dCons (dIf (dB (dOp (g2 eqD) (dVar 3) (dC (.d (.int 3))))) (dC (.d (.int 3))) (dC (.d (.int 2)))) dNil)) (dgName 5) dYes (dCall (sp__law_expression n) (dCons (dVar 0) (dCons (dVar 1) (dCons (dOp (g2 (intOp (· - ·))) (dVar 2) (dC (.d (.int 1)))) dNil)))) [5]))
  (dSeq (dIfS (dB (dOp (g2 eqD) (dVar 3) (dC (.d (.int 3))))) (dRet (dTup (dCons (dC (.d (.str "if"))) (dCons (dOp ixD (dVar 4) (dC (.d (.int 0)))) (dCons (dOp ixD (dVar 4) (dC (.d (.int 1)))) (dCons (dOp ixD (dVar 4) (dC (.d (.int 2)))) dNil)))))) dNext)
  (dSeq (dIfS (dB (dOp (g2 eqD) (dVar 3) (dC (.d (.int 4))))) (dRet (dTup (dCons (dCall sp__law_choose (dCons (dVar 0) (dCons (dLst (dCons (dC (.d (.str "not"))) (dCons (dC (.d (.str "neg"))) dNil))) dNil))) (dCons (dOp ixD (dVar 4) (dC (.d (.int 0)))) dNil)))) dNext)
  (dSeq (dSet 6 (dLst (dCons (dC (.d (.str "="))) (dCons (dC (.d (.str "!="))) (dCons (dC (.d (.str "<"))) (dCons (dC (.d (.str "<="))) (dCons (dC (.d (.str ">"))) (dCons (dC (.d (.str ">="))) (dCons (dC (.d (.str "+"))) (dCons (dC (.d (.str "-"))) (dCons (dC (.d (.str "*"))) (dCons (dC (.d (.str "mod"))) (dCons (dC (.d (.str "and"))) (dCons (dC (.d (.str "or"))) (dCons (dC (.d (.str "min"))) (dCons (dC (.d (.str "max"))) (dCons (dC (.d (.str "+"))) (dCons (dC (.d (.str "-"))) dNil))))))))))))))))))
  (dRet (dTup (dCons (dCall sp__law_choose (dCons (dVar 0) (dCons (dVar 6) dNil))) (dCons (dOp ixD (dVar 4) (dC (.d (.int 0)))) (dCons (dOp ixD (dVar 4) (dC (.d (.int 1)))) dNil))))))))))))

theorem len__law_expression : ∀ n xs M R, sp__law_expression n xs M R → xs.length = 3 := by
  rintro n xs M R ⟨p, names, k, rfl, _⟩
  rfl
theorem pure__law_expression : ∀ n xs M R, sp__law_expression (n + 1) xs M R → t__law_expression n { nx := fun _ M' => R (.d .none) M', rt := R } (startD N__law_expression xs) M := by
  rintro n xs M R ⟨p, names, k, rfl, hk, hne, hnl, hS, h⟩
  refine seq_cut (fun sl M1 => ∃ (way : Int), sl = [some (.raw (.ref p)), some (.d (.list (names.map PyData.str))), some (.d (.int (k : Nat))), some (.d (.int way)), none, none, none] ∧ 0 ≤ way ∧ (k = 0 → way < 2) ∧ Keeps p M M1 ∧ Src2 M1 p) (fun N hN => ?_) ?_
  · refine if_dec (fun hc => ?_) (fun hc => ?_)
    · exact ⟨p, 12, rfl, by decide, by decide, hS, fun r M1 r0 r1 k1 s1 => hN _ _ ⟨r, rfl, r0, fun e => by omega, k1, s1⟩⟩
    · exact ⟨p, 2, rfl, by decide, by decide, hS, fun r M1 r0 r1 k1 s1 => hN _ _ ⟨r, rfl, r0, fun e => by omega, k1, s1⟩⟩
  rintro sl M1 ⟨way, rfl, w0, wk, k1, s1⟩
  refine sq (if_dec (fun hw => ?_) (fun hw => ?_))
  · refine disp ?_
    refine ⟨p, _, rfl, by decide, by decide, s1, fun d M2 hd k2 s2 => ?_⟩
    obtain ⟨i, rfl, i0, i1⟩ : ∃ i : Int, d = .int i ∧ 0 ≤ i ∧ i < 2 ^ 20 := by
      simp only [List.mem_cons, List.not_mem_nil, or_false] at hd
      rcases hd with rfl | rfl | rfl | rfl | rfl | rfl | rfl <;> exact ⟨_, rfl, by decide, by decide⟩
    exact disp (h (.int i) M2 ⟨i0, i1⟩ (Nat.zero_le _) (k1.trans k2) s2)
  refine sq (if_dec (fun hw3 => ?_) (fun hw3 => ?_))
  · refine ⟨p, _, rfl, ?_, ?_, s1, fun d M2 hd k2 s2 => ?_⟩
    · rw [List.length_map]
      exact List.length_pos_iff.mpr hne
    · rw [List.length_map]
      omega
    obtain ⟨x, hx, rfl⟩ := List.mem_map.mp hd
    exact disp (h (.name x) M2 hx (Nat.zero_le _) (k1.trans k2) s2)
  have hk0 : 0 < k := by
    rcases Nat.eq_zero_or_pos k with e | e
    · have := wk e
      omega
    · exact e
  obtain ⟨m, rfl⟩ : ∃ m, k = m + 1 := ⟨k - 1, by omega⟩
  have ek : (((m + 1 : Nat) : Int) - 1) = (m : Nat) := by omega
  refine seq_cut (fun sl M2 => ∃ (ys : List PyData) (t5 : Option DV), sl = [some (.raw (.ref p)), some (.d (.list (names.map PyData.str))), some (.d (.int ((m + 1 : Nat) : Int))), some (.d (.int way)), some (.d (.list ys)), t5, none] ∧ ys.length = (if way = 3 then 3 else 2) ∧ (∀ y ∈ ys, ∃ e : Ex, y = e.d ∧ e.ok names ∧ e.dep ≤ m) ∧ Keeps p M M2 ∧ Src2 M2 p) (fun N hN => ?_) ?_
  · have body : ∀ c : Nat, c ≤ 3 → c = (if way = 3 then 3 else 2) → diRange1 (fun _ M R => R [.d (.int (c : Nat))] M) [some (.raw (.ref p)), some (.d (.list (names.map PyData.str))), some (.d (.int ((m + 1 : Nat) : Int))), some (.d (.int way)), none, none, none] M1 fun items M2 => ∀ q, M2 q = none → ∃ P : Nat → Mem → Prop, P 0 (updM M2 q (.lst [])) ∧
      (∀ i x M', items[i]? = some x → P i M' → dgName 5 x (wipeD [some (.raw (.ref p)), some (.d (.list (names.map PyData.str))), some (.d (.int ((m + 1 : Nat) : Int))), some (.d (.int way)), none, none, none] [5]) M' fun sl2 M3 => dYes sl2 M3 fun k M4 => if k = true then dCall (sp__law_expression n) (dCons (dVar 0) (dCons (dVar 1) (dCons (dOp (g2 (DL.intOp (· - ·))) (dVar 2) (dC (.d (.int 1)))) dNil))) sl2 M4 fun y M5 => getL M5 q (fun acc => acc.length < sizeLine ∧ P (i + 1) (updM M5 q (.lst (acc ++ [y])))) else P (i + 1) M4) ∧
      ∀ M', P items.length M' → getL M' q fun xs => optP (allD xs) fun ds => N (List.set [some (.raw (.ref p)), some (.d (.list (names.map PyData.str))), some (.d (.int ((m + 1 : Nat) : Int))), some (.d (.int way)), none, none, none] 4 (some (.d (.list ds)))) (delM M' q) := by
      intro c hc ec
      refine ⟨⟨by omega, by omega⟩, ?_⟩
      refine lc_atS (items := rangeL 0 ((c : Nat) : Int).toNat) (at_src2 p) (fun y => ∃ e : Ex, y = e.d ∧ e.ok names ∧ e.dep ≤ m) (by rw [rangeL_len]; omega) s1 ?_ ?_
      · intro x hx M' N' Z hS' hN'
        refine ⟨p, names, m, ?_, by omega, hne, hnl, hS', fun e M2 eo ed k2 s2 => hN' _ _ ⟨e, rfl, eo, ed⟩ k2 s2⟩
        show [_, _, DV.d (.int (((m + 1 : Nat) : Int) - 1))] = _
        rw [ek]
      · intro ys M2 hyl hy k2 s2
        rw [rangeL_len] at hyl
        exact hN _ _ ⟨ys, _, rfl, by rw [hyl, ← ec]; omega, hy, k1.trans k2, s2⟩
    refine if_dec (fun h3 => ?_) (fun h3 => ?_)
    · exact body 3 (by decide) (if_pos h3).symm
    · exact body 2 (by decide) (if_neg h3).symm
  rintro sl M2 ⟨ys, t5, rfl, hyl, hy, k2, s2⟩
  refine sq (if_dec (fun h3 => ?_) (fun h3 => ?_))
  · rw [if_pos h3] at hyl
    obtain ⟨a, b, c, rfl, ⟨ea, rfl, oa, da⟩, ⟨eb, rfl, ob, db⟩, ⟨ec, rfl, oc, dc⟩⟩ := three_of hyl hy
    exact optP_of (show atI _ ((0 : Nat) : Int) = some _ from atI_nat rfl) (optP_of (show atI _ ((1 : Nat) : Int) = some _ from atI_nat rfl) (optP_of (show atI _ ((2 : Nat) : Int) = some _ from atI_nat rfl) (disp (h (.ite ea eb ec) M2 ⟨oa, ob, oc⟩ (by show max ea.dep (max eb.dep ec.dep) + 1 ≤ m + 1; omega) k2 s2))))
  · rw [if_neg h3] at hyl
    obtain ⟨a, b, rfl, ⟨ea, rfl, oa, da⟩, ⟨eb, rfl, ob, db⟩⟩ := two_of hyl hy
    refine sq (if_dec (fun h4 => ?_) (fun h4 => ?_))
    · refine disp ?_
      refine ⟨p, _, rfl, by decide, by decide, s2, fun d M3 hd k3 s3 => optP_of (show atI _ ((0 : Nat) : Int) = some _ from atI_nat rfl) ?_⟩
      obtain ⟨o, rfl⟩ : ∃ o : Un, d = .str o.s := by
        simp only [List.mem_cons, List.not_mem_nil, or_false] at hd
        rcases hd with rfl | rfl
        · exact ⟨.not, rfl⟩
        · exact ⟨.neg, rfl⟩
      exact disp (h (.un o ea) M3 oa (by show ea.dep + 1 ≤ m + 1; omega) (k2.trans k3) s3)
    · refine sq (disp ?_)
      refine ⟨p, _, rfl, by decide, by decide, s2, fun d M3 hd k3 s3 => optP_of (show atI _ ((0 : Nat) : Int) = some _ from atI_nat rfl) (optP_of (show atI _ ((1 : Nat) : Int) = some _ from atI_nat rfl) ?_)⟩
      obtain ⟨o, rfl⟩ : ∃ o : Op, d = .str o.s := by
        have hd : d ∈ opsL.map fun o => PyData.str o.s := hd
        obtain ⟨o, _, rfl⟩ := List.mem_map.mp hd
        exact ⟨o, rfl⟩
      exact disp (h (.bin o ea eb) M3 ⟨oa, ob⟩ (by show max ea.dep eb.dep + 1 ≤ m + 1; omega) (k2.trans k3) s3)
theorem ok__law_expression (n : Nat) {P : Program} {w : World} {K : PySem.W.Frag} {mg : Str → Option Value} {base : Heap} {dV : Value} {f : Addr} {fd : FuncData} (F : FunA K "_law_expression" "_law_expression" s__law_expression dV f fd) (D__law_pick : Def P w K mg base "_law_pick" 2 sp__law_pick) (D__law_choose : Def P w K mg base "_law_choose" 3 sp__law_choose) (D__law_expression : Def P w K mg base "_law_expression" (4 + n) (sp__law_expression n)) (b_range : mg "range" = none) : FnG P w K mg base CX0 (4 + n + 1) f fd ["source", "names", "depth"] (liftSp K (sp__law_expression (n + 1))) :=
  F.data sc__law_expression (len__law_expression (n + 1)) (t__law_expression n) (fun cdv A outer s H E hg hr =>
    (dss_cons (ds_set (i := 3) sc__law_expression.nd rfl (by first | exact Or.inl rfl | exact Or.inr rfl) (de_if (dt_cmp od_gt (de_var 2) de_int (nomark _)) (D__law_pick.de hg (hr.mono (by omega)) (by rfl) (da_cons (de_var 0) (da_cons de_int da_nil))) (D__law_pick.de hg (hr.mono (by omega)) (by rfl) (da_cons (de_var 0) (da_cons de_int da_nil)))))
      (dss_cons (ds_if (dt_cmp (od_eq hr) (de_var 3) de_int (nomark _)) (dss_one (ds_ret (de_tup (da_cons de_str (da_cons (D__law_choose.de hg (hr.mono (by omega)) (by rfl) (da_cons (de_var 0) (da_cons (de_lst (da_cons de_int (da_cons de_int (da_cons de_int (da_cons de_int (da_cons de_int (da_cons de_int (da_cons de_int da_nil)))))))) da_nil))) da_nil))))) dss_nil)
      (dss_cons (ds_if (dt_cmp (od_lt hr) (de_var 3) de_int (nomark _)) (dss_one (ds_ret (de_tup (da_cons de_str (da_cons (D__law_choose.de hg (hr.mono (by omega)) (by rfl) (da_cons (de_var 0) (da_cons (de_var 1) da_nil))) da_nil))))) dss_nil)
      (dss_cons (ds_setLc (i := 4) (own := [("k", 5)]) rfl sc__law_expression.nd rfl rfl (sw_true rfl rfl rfl (by decide +kernel)) (di_range1 (by rfl) b_range (da_cons (de_if (dt_cmp (od_eq hr) (de_var 3) de_int (nomark _)) de_int de_int) da_nil)) (blkOk_by (own := [("k", 5)]) (N := N__law_expression) (sc := defScope s__law_expression) (by decide +kernel)) (fun _ _ _ _ _ => (dg_name (i := 5) sc__law_expression.nd rfl (by first | exact Or.inl rfl | exact Or.inr rfl))) (fun _ _ _ _ _ => dts_nil) (fun _ _ _ _ _ => (D__law_expression.de hg (hr.mono (Nat.le_refl _)) (by rfl) (da_cons (de_var 0) (da_cons (de_var 1) (da_cons (de_op od_sub (de_var 2) de_int) da_nil))))) (by decide))
      (dss_cons (ds_if (dt_cmp (od_eq hr) (de_var 3) de_int (nomark _)) (dss_one (ds_ret (de_tup (da_cons de_str (da_cons (de_ix (de_var 4) de_int) (da_cons (de_ix (de_var 4) de_int) (da_cons (de_ix (de_var 4) de_int) da_nil))))))) dss_nil)
      (dss_cons (ds_if (dt_cmp (od_eq hr) (de_var 3) de_int (nomark _)) (dss_one (ds_ret (de_tup (da_cons (D__law_choose.de hg (hr.mono (by omega)) (by rfl) (da_cons (de_var 0) (da_cons (de_lst (da_cons de_str (da_cons de_str da_nil))) da_nil))) (da_cons (de_ix (de_var 4) de_int) da_nil))))) dss_nil)
      (dss_cons (ds_set (i := 6) sc__law_expression.nd rfl (by first | exact Or.inl rfl | exact Or.inr rfl) (de_lst (da_cons de_str (da_cons de_str (da_cons de_str (da_cons de_str (da_cons de_str (da_cons de_str (da_cons de_str (da_cons de_str (da_cons de_str (da_cons de_str (da_cons de_str (da_cons de_str (da_cons de_str (da_cons de_str (da_cons de_str (da_cons de_str da_nil))))))))))))))))))
      (dss_one (ds_ret (de_tup (da_cons (D__law_choose.de hg (hr.mono (by omega)) (by rfl) (da_cons (de_var 0) (da_cons (de_var 6) da_nil))) (da_cons (de_ix (de_var 4) de_int) (da_cons (de_ix (de_var 4) de_int) da_nil)))))))))))))) (pure__law_expression n)
/-! ### compare_values -/
abbrev s_compare_values : Stmt := topS 2
abbrev N_compare_values : List Str := ["operator", "first", "second"]
theorem sc_compare_values : FnScope N_compare_values ["operator", "first", "second"] (defScope s_compare_values) := ⟨rfl, rfl, rfl, by decide +kernel, rfl, by decide +kernel, by decide +kernel⟩
def sp_compare_values : SpD := fun xs M R => ∃ (o : Op) (i j : Int), xs = [.d (.str o.s), .d (.int i), .d (.int j)] ∧ o.isCmp = true ∧ R (.d (.bool (cmpB o i j))) M
def t_compare_values : TSD := (dSeq (dIfS (dB (dOp (g2 (inD false)) (dVar 0) (dTup (dCons (dC (.d (.str "="))) (dCons (dC (.d (.str "!="))) dNil))))) (dRet (dOp (g2 eqD) (dOp (g2 eqD) (dVar 1) (dVar 2)) (dOp (g2 eqD) (dVar 0) (dC (.d (.str "=")))))) dNext)
  (dSeq (dIfS (dB (dOp (g2 (inD false)) (dVar 0) (dTup (dCons (dC (.d (.str "<"))) (dCons (dC (.d (.str ">="))) dNil))))) (dRet (dOp (g2 eqD) (dOp (g2 ltD) (dVar 1) (dVar 2)) (dOp (g2 eqD) (dVar 0) (dC (.d (.str "<")))))) dNext)
  (dRet (dOp (g2 eqD) (dOp (g2 (intCmp fun i j => decide (j < i))) (dVar 1) (dVar 2)) (dOp (g2 eqD) (dVar 0) (dC (.d (.str ">"))))))))

theorem len_compare_values : ∀ xs M R, sp_compare_values xs M R → xs.length = 3 := by
  rintro xs M R ⟨o, i, j, rfl, _⟩
  rfl
theorem beq_t (b : Bool) : (b == true) = b := by cases b <;> rfl
theorem beq_f (b : Bool) : (b == false) = !b := by cases b <;> rfl
theorem nlt_le (i j : Int) : (!decide (i < j)) = decide (j ≤ i) := by
  by_cases h : i < j
  · rw [decide_eq_true h, decide_eq_false (by omega)]; rfl
  · rw [decide_eq_false h, decide_eq_true (by omega)]; rfl
theorem cmp_end {R : KD} {M : Mem} {a : Bool} {x y : Str} {r : Bool} (k : Bool) (e : decide (x = y) = k) (er : (a == k) = r) (h : R (.d (.bool r)) M) : EqOk (.bool a) (.bool (decide (x = y))) ∧ R (.d (.bool (PyData.eqv (.bool a) (.bool (decide (x = y)))))) M := by
  refine ⟨eqOk_bool _ _, ?_⟩
  rw [eqv_bool, e, er]
  exact h
theorem pure_compare_values : ∀ xs M R, sp_compare_values xs M R → t_compare_values { nx := fun _ M' => R (.d .none) M', rt := R } (startD N_compare_values xs) M := by
  rintro xs M R ⟨o, i, j, rfl, ho, h⟩
  refine sq (disp ?_)
  refine ⟨inOk_two _ _ _, ?_⟩
  cases o with
  | eq => exact if_two true (by decide +kernel) (if_yes rfl (cmp_end true (by decide +kernel) (beq_t _) h))
  | ne => exact if_two true (by decide +kernel) (if_yes rfl (cmp_end false (by decide +kernel) (beq_f _) h))
  | lt =>
    refine if_two false (by decide +kernel) (if_no rfl (sq (disp ?_)))
    exact ⟨inOk_two _ _ _, if_two true (by decide +kernel) (if_yes rfl (cmp_end true (by decide +kernel) (beq_t _) h))⟩
  | ge =>
    refine if_two false (by decide +kernel) (if_no rfl (sq (disp ?_)))
    exact ⟨inOk_two _ _ _, if_two true (by decide +kernel) (if_yes rfl (cmp_end false (by decide +kernel) ((beq_f _).trans (nlt_le i j)) h))⟩
  | gt =>
    refine if_two false (by decide +kernel) (if_no rfl (sq (disp ?_)))
    exact ⟨inOk_two _ _ _, if_two false (by decide +kernel) (if_no rfl (cmp_end true (by decide +kernel) (beq_t _) h))⟩
  | le =>
    refine if_two false (by decide +kernel) (if_no rfl (sq (disp ?_)))
    exact ⟨inOk_two _ _ _, if_two false (by decide +kernel) (if_no rfl (cmp_end false (by decide +kernel) ((beq_f _).trans (nlt_le j i)) h))⟩
  | _ => cases ho
theorem ok_compare_values {P : Program} {w : World} {K : PySem.W.Frag} {mg : Str → Option Value} {base : Heap} {dV : Value} {f : Addr} {fd : FuncData} (F : FunA K "compare_values" "compare_values" s_compare_values dV f fd)  : FnG P w K mg base CX0 1 f fd ["operator", "first", "second"] (liftSp K sp_compare_values) :=
  F.data sc_compare_values len_compare_values t_compare_values (fun cdv A outer s H E hg hr =>
    (dss_cons (ds_if (dt_cmp (od_in hr) (de_var 0) (de_tup (da_cons de_str (da_cons de_str da_nil))) rfl) (dss_one (ds_ret (de_cmp (od_eq hr) (de_cmp (od_eq hr) (de_var 1) (de_var 2) (nomark _)) (de_cmp (od_eq hr) (de_var 0) de_str (nomark _)) (nomark _)))) dss_nil)
      (dss_cons (ds_if (dt_cmp (od_in hr) (de_var 0) (de_tup (da_cons de_str (da_cons de_str da_nil))) rfl) (dss_one (ds_ret (de_cmp (od_eq hr) (de_cmp (od_lt hr) (de_var 1) (de_var 2) (nomark _)) (de_cmp (od_eq hr) (de_var 0) de_str (nomark _)) (nomark _)))) dss_nil)
      (dss_one (ds_ret (de_cmp (od_eq hr) (de_cmp od_gt (de_var 1) (de_var 2) (nomark _)) (de_cmp (od_eq hr) (de_var 0) de_str (nomark _)) (nomark _))))))) pure_compare_values
/-! ### arithmetic -/
abbrev s_arithmetic : Stmt := topS 3
abbrev N_arithmetic : List Str := ["operator", "first", "second"]
theorem sc_arithmetic : FnScope N_arithmetic ["operator", "first", "second"] (defScope s_arithmetic) := ⟨rfl, rfl, rfl, by decide +kernel, rfl, by decide +kernel, by decide +kernel⟩
def sp_arithmetic : SpD := fun xs M R => ∃ (o : Op) (i j : Int), xs = [.d (.str o.s), .d (.int i), .d (.int j)] ∧ o.isCmp = false ∧ o.isLog = false ∧ Lim 400000 i ∧ Lim 400000 j ∧ R (.d (.int (opV o i j))) M
def t_arithmetic : TSD := (dSeq (dIfS (dB (dOp (g2 eqD) (dVar 0) (dC (.d (.str "+"))))) (dRet (dOp (g2 addD) (dVar 1) (dVar 2))) dNext)
  (dSeq (dIfS (dB (dOp (g2 eqD) (dVar 0) (dC (.d (.str "-"))))) (dRet (dOp (g2 (intOp (· - ·))) (dVar 1) (dVar 2))) dNext)
  (dSeq (dIfS (dB (dOp (g2 eqD) (dVar 0) (dC (.d (.str "*"))))) (dRet (dOp (g2 mulD) (dVar 1) (dVar 2))) dNext)
  (dSeq (dIfS (dB (dOp (g2 eqD) (dVar 0) (dC (.d (.str "mod"))))) (dRet (dIf (dB (dOp (g2 neD) (dVar 2) (dC (.d (.int 0))))) (dOp (g2 (intOpC (fun _ j => j ≠ 0) Int.fmod)) (dVar 1) (dVar 2)) (dC (.d (.int 0))))) dNext)
  (dRet (dIf (dB (dOp (g2 eqD) (dVar 0) (dC (.d (.str "min"))))) (dCall minG (dCons (dVar 1) (dCons (dVar 2) dNil))) (dCall maxG (dCons (dVar 1) (dCons (dVar 2) dNil)))))))))

theorem len_arithmetic : ∀ xs M R, sp_arithmetic xs M R → xs.length = 3 := by
  rintro xs M R ⟨o, i, j, rfl, _⟩
  rfl
theorem pure_arithmetic : ∀ xs M R, sp_arithmetic xs M R → t_arithmetic { nx := fun _ M' => R (.d .none) M', rt := R } (startD N_arithmetic xs) M := by
  rintro xs M R ⟨o, i, j, rfl, h1, h2, hi, hj, h⟩
  cases o with
  | add =>
    refine sq (ifStr true rfl (by decide +kernel) (if_yes rfl ?_))
    exact h
  | sub =>
    refine sq (ifStr false rfl (by decide +kernel) (if_no rfl ?_))
    refine sq (ifStr true rfl (by decide +kernel) (if_yes rfl ?_))
    exact h
  | mul =>
    refine sq (ifStr false rfl (by decide +kernel) (if_no rfl ?_))
    refine sq (ifStr false rfl (by decide +kernel) (if_no rfl ?_))
    refine sq (ifStr true rfl (by decide +kernel) (if_yes rfl ?_))
    exact ⟨mul_ok (by decide) (by decide) hi hj (by decide), h⟩
  | mod =>
    refine sq (ifStr false rfl (by decide +kernel) (if_no rfl ?_))
    refine sq (ifStr false rfl (by decide +kernel) (if_no rfl ?_))
    refine sq (ifStr false rfl (by decide +kernel) (if_no rfl ?_))
    refine sq (ifStr true rfl (by decide +kernel) (if_yes rfl ?_))
    refine if_ndec (fun hz => ⟨hz, ?_⟩) (fun hz => ?_)
    · rw [show opV .mod i j = i.fmod j from if_neg hz] at h
      exact h
    · rw [show opV .mod i j = 0 from if_pos hz] at h
      exact h
  | min =>
    refine sq (ifStr false rfl (by decide +kernel) (if_no rfl ?_))
    refine sq (ifStr false rfl (by decide +kernel) (if_no rfl ?_))
    refine sq (ifStr false rfl (by decide +kernel) (if_no rfl ?_))
    refine sq (ifStr false rfl (by decide +kernel) (if_no rfl ?_))
    exact ifStrE (i := 0) (x := Op.min.s) (y := "min") (A := dCall minG (dCons (dVar 1) (dCons (dVar 2) dNil))) (B := dCall maxG (dCons (dVar 1) (dCons (dVar 2) dNil))) (R := R) (sl := startD N_arithmetic [.d (.str Op.min.s), .d (.int i), .d (.int j)]) (M := M) true rfl (by decide +kernel) (if_yes rfl h)
  | max =>
    refine sq (ifStr false rfl (by decide +kernel) (if_no rfl ?_))
    refine sq (ifStr false rfl (by decide +kernel) (if_no rfl ?_))
    refine sq (ifStr false rfl (by decide +kernel) (if_no rfl ?_))
    refine sq (ifStr false rfl (by decide +kernel) (if_no rfl ?_))
    exact ifStrE (i := 0) (x := Op.max.s) (y := "min") (A := dCall minG (dCons (dVar 1) (dCons (dVar 2) dNil))) (B := dCall maxG (dCons (dVar 1) (dCons (dVar 2) dNil))) (R := R) (sl := startD N_arithmetic [.d (.str Op.max.s), .d (.int i), .d (.int j)]) (M := M) false rfl (by decide +kernel) (if_no rfl h)
  | and => cases h2
  | or => cases h2
  | _ => cases h1
theorem ok_arithmetic {P : Program} {w : World} {K : PySem.W.Frag} {mg : Str → Option Value} {base : Heap} {dV : Value} {f : Addr} {fd : FuncData} (F : FunA K "arithmetic" "arithmetic" s_arithmetic dV f fd) (b_min : mg "min" = none) (b_max : mg "max" = none) : FnG P w K mg base CX0 1 f fd ["operator", "first", "second"] (liftSp K sp_arithmetic) :=
  F.data sc_arithmetic len_arithmetic t_arithmetic (fun cdv A outer s H E hg hr =>
    (dss_cons (ds_if (dt_cmp (od_eq hr) (de_var 0) de_str (nomark _)) (dss_one (ds_ret (de_op od_add (de_var 1) (de_var 2)))) dss_nil)
      (dss_cons (ds_if (dt_cmp (od_eq hr) (de_var 0) de_str (nomark _)) (dss_one (ds_ret (de_op od_sub (de_var 1) (de_var 2)))) dss_nil)
      (dss_cons (ds_if (dt_cmp (od_eq hr) (de_var 0) de_str (nomark _)) (dss_one (ds_ret (de_op od_mul (de_var 1) (de_var 2)))) dss_nil)
      (dss_cons (ds_if (dt_cmp (od_eq hr) (de_var 0) de_str (nomark _)) (dss_one (ds_ret (de_if (dt_cmp (od_ne hr) (de_var 2) de_int (nomark _)) (de_op od_modA (de_var 1) (de_var 2)) de_int))) dss_nil)
      (dss_one (ds_ret (de_if (dt_cmp (od_eq hr) (de_var 0) de_str (nomark _)) (de_callB (cd_min rfl) (by rfl) b_min (by decide +kernel) (da_cons (de_var 1) (da_cons (de_var 2) da_nil))) (de_callB (cd_max rfl) (by rfl) b_max (by decide +kernel) (da_cons (de_var 1) (da_cons (de_var 2) da_nil))))))))))) pure_arithmetic
/-! ### evaluate -/
abbrev s_evaluate : Stmt := topS 4
abbrev N_evaluate : List Str := ["expression", "values", "operator", "parts", "results", "part", "holds", "result"]
theorem sc_evaluate : FnScope N_evaluate ["expression", "values"] (defScope s_evaluate) := ⟨rfl, rfl, rfl, by decide +kernel, rfl, by decide +kernel, by decide +kernel⟩
theorem look_env (env : Env) (x : Str) : lookD (env.map fun p => (PyData.str p.1, PyData.int p.2)) (.inr x) = (env.lookup x).map PyData.int := by
  induction env with
  | nil => rfl
  | cons p r ih =>
    by_cases e : p.1 = x
    · show (List.find? _ ((PyData.str p.1, PyData.int p.2) :: _)).map _ = _
      rw [List.find?_cons_of_pos (by exact decide_eq_true e), List.lookup_cons]
      rw [show (x == p.1) = true from beq_iff_eq.mpr e.symm]
      rfl
    · show (List.find? _ ((PyData.str p.1, PyData.int p.2) :: _)).map _ = _
      rw [List.find?_cons_of_neg (by show ¬ decide (p.1 = x) = true; rw [decide_eq_false e]; exact Bool.false_ne_true), List.lookup_cons]
      rw [show (x == p.1) = false from beq_eq_false_iff_ne.mpr fun q => e q.symm]
      exact ih
theorem look_some {env : Env} {names : List Str} {x : Str} (hn : env.map (·.1) = names) (hx : x ∈ names) : env.lookup x = some ((env.lookup x).getD 0) := by
  subst hn
  induction env with
  | nil => cases hx
  | cons p r ih =>
    rw [List.lookup_cons]
    by_cases e : x = p.1
    · rw [show (x == p.1) = true from beq_iff_eq.mpr e]
      rfl
    · rw [show (x == p.1) = false from beq_eq_false_iff_ne.mpr e]
      rcases List.mem_cons.mp (show x ∈ p.1 :: r.map (·.1) from hx) with h | h
      · exact absurd h e
      · exact ih h
def sp_evaluate (n : Nat) : SpD := fun xs M R => ∃ (e : Ex) (env : Env), xs = [.d e.d, .d (envD env)] ∧ e.dep < n ∧ n ≤ 8 ∧ e.ok (env.map (·.1)) ∧ Small env ∧ R (.d (.int (e.val env))) M
theorem none_evaluate : ∀ xs M R, ¬ sp_evaluate 0 xs M R := by
  rintro xs M R ⟨e, env, rfl, hk, _⟩
  omega
def fval (env : Env) (f : PyData → Option Int) : DV → Option PyData
  | .d x => (f x).map PyData.int
  | _ => none
def fnz : DV → Option PyData
  | .d (.int i) => some (.bool (!decide (i = 0)))
  | _ => none
def t_evaluate (n : Nat) : TSD := (dSeq (dAsg (dVar 0) (dgStar (dgName 2) (dgName 3)))
  (dSeq (dIfS (dB (dOp (g2 eqD) (dVar 2) (dC (.d (.str "int"))))) (dRet (dOp ixD (dVar 3) (dC (.d (.int 0))))) dNext)
  (dSeq (dIfS (dB (dOp (g2 eqD) (dVar 2) (dC (.d (.str "name"))))) (dRet (dOp ixK (dVar 1) (dOp ixD (dVar 3) (dC (.d (.int 0)))))) dNext)
  (dSeq (dIfS (dB (dOp (g2 eqD) (dVar 2) (dC (.d (.str "if"))))) (dRet (dCall (sp_evaluate n) (dCons (dIf (dB (dOp (g2 neD) (dCall (sp_evaluate n) (dCons (dOp ixD (dVar 3) (dC (.d (.int 0)))) (dCons (dVar 1) dNil))) (dC (.d (.int 0))))) (dOp ixD (dVar 3) (dC (.d (.int 1)))) (dOp ixD (dVar 3) (dC (.d (.int 2))))) (dCons (dVar 1) dNil)))) dNext)
  (dSeq (dSet 4 (dLc (diSeq (dVar 3)) (dgName 5) dYes (dCall (sp_evaluate n) (dCons (dVar 5) (dCons (dVar 1) dNil))) [5]))
  (dSeq (dIfS (dB (dOp (g2 eqD) (dVar 2) (dC (.d (.str "neg"))))) (dRet (dUn negD (dOp ixD (dVar 4) (dC (.d (.int 0)))))) dNext)
  (dSeq (dIfS (dB (dOp (g2 eqD) (dVar 2) (dC (.d (.str "not"))))) (dRet (dCall (g1 intG) (dCons (dOp (g2 eqD) (dOp ixD (dVar 4) (dC (.d (.int 0)))) (dC (.d (.int 0)))) dNil))) dNext)
  (dSeq (dIfS (dB (dOp (g2 (inD false)) (dVar 2) (dTup (dCons (dC (.d (.str "and"))) (dCons (dC (.d (.str "or"))) dNil))))) (dSeq (dSet 6 (dLc (diSeq (dVar 4)) (dgName 7) dYes (dOp (g2 neD) (dVar 7) (dC (.d (.int 0)))) [7]))
  (dRet (dCall (g1 intG) (dCons (dIf (dB (dOp (g2 eqD) (dVar 2) (dC (.d (.str "and"))))) (dCall allG (dCons (dVar 6) dNil)) (dCall anyG (dCons (dVar 6) dNil))) dNil)))) dNext)
  (dSeq (dIfS (dB (dOp (g2 (inD false)) (dVar 2) (dC c_COMPARISONS))) (dRet (dCall (g1 intG) (dCons (dCall sp_compare_values (dCons (dVar 2) (dCons (dOp ixD (dVar 4) (dC (.d (.int 0)))) (dCons (dOp ixD (dVar 4) (dC (.d (.int 1)))) dNil)))) dNil))) dNext)
  (dRet (dCall sp_arithmetic (dCons (dVar 2) (dCons (dOp ixD (dVar 4) (dC (.d (.int 0)))) (dCons (dOp ixD (dVar 4) (dC (.d (.int 1)))) dNil))))))))))))))

theorem len_evaluate : ∀ n xs M R, sp_evaluate n xs M R → xs.length = 2 := by
  rintro n xs M R ⟨e, env, rfl, _⟩
  rfl
theorem lim_in {e : Ex} {env : Env} {n : Nat} (h : e.ok (env.map (·.1))) (hs : Small env) (hd : e.dep ≤ 8) : Lim 400000 (e.val env) := (val_lim hs e h).mono (Nat.le_trans (bd_mono hd) (by decide))
theorem pure_evaluate : ∀ n xs M R, sp_evaluate (n + 1) xs M R → t_evaluate n { nx := fun _ M' => R (.d .none) M', rt := R } (startD N_evaluate xs) M := by
  rintro n xs M R ⟨e, env, rfl, hd, hn, ho, hs, h⟩
  cases e with
  | int i =>
    refine sq (sq (ifStr true rfl (by decide +kernel) (if_yes rfl ?_)))
    exact optP_of (show atI _ ((0 : Nat) : Int) = some _ from atI_nat rfl) h
  | name x =>
    refine sq (sq (ifStr false rfl (by decide +kernel) (if_no rfl (sq (ifStr true rfl (by decide +kernel) (if_yes rfl ?_))))))
    refine optP_of (show atI _ ((0 : Nat) : Int) = some _ from atI_nat rfl) (optP_of rfl (optP_of ?_ h))
    rw [look_env, look_some rfl ho]
    rfl
  | ite a b c =>
    have ho : a.ok _ ∧ b.ok _ ∧ c.ok _ := ho
    have hd : max a.dep (max b.dep c.dep) + 1 < n + 1 := hd
    refine sq (sq (ifStr false rfl (by decide +kernel) (if_no rfl (sq (ifStr false rfl (by decide +kernel) (if_no rfl (sq (ifStr true rfl (by decide +kernel) (if_yes rfl ?_)))))))))
    refine optP_of (show atI _ ((0 : Nat) : Int) = some _ from atI_nat rfl) ?_
    refine ⟨a, env, rfl, by omega, by omega, ho.1, hs, ?_⟩
    have h : R (.d (.int (if a.val env = 0 then c.val env else b.val env))) M := h
    refine if_ndec (fun hz => ?_) (fun hz => ?_)
    · rw [if_neg hz] at h
      exact optP_of (show atI _ ((1 : Nat) : Int) = some _ from atI_nat rfl) ⟨b, env, rfl, by omega, by omega, ho.2.1, hs, h⟩
    · rw [if_pos hz] at h
      exact optP_of (show atI _ ((2 : Nat) : Int) = some _ from atI_nat rfl) ⟨c, env, rfl, by omega, by omega, ho.2.2, hs, h⟩
  | un o a =>
    have ho : a.ok _ := ho
    have hd : a.dep + 1 < n + 1 := hd
    obtain ⟨n1, n2, n3⟩ := un_ne o
    refine sq (sq (ifStr false rfl n1 (if_no rfl (sq (ifStr false rfl n2 (if_no rfl (sq (ifStr false rfl n3 (if_no rfl ?_)))))))))
    refine sq ?_
    refine lc_set (items := [.d a.d]) (fun _ => some (.int (a.val env))) (by show 1 < 1000000; decide) ?_ ?_
    · intro x hx M' Y Z hy hz
      rw [List.mem_singleton.mp hx]
      exact ⟨a, env, rfl, by omega, by omega, ho, hs, hy _ rfl⟩
    cases o with
    | neg =>
      refine sq (ifStr true rfl (by decide +kernel) (if_yes rfl ?_))
      exact optP_of (show atI _ ((0 : Nat) : Int) = some (.int (a.val env)) from atI_nat rfl) h
    | not =>
      refine sq (ifStr false rfl (by decide +kernel) (if_no rfl (sq (ifStr true rfl (by decide +kernel) (if_yes rfl ?_)))))
      exact optP_of (show atI _ ((0 : Nat) : Int) = some (.int (a.val env)) from atI_nat rfl) h
  | bin o a b =>
    have ho : a.ok _ ∧ b.ok _ := ho
    have hd : max a.dep b.dep + 1 < n + 1 := hd
    obtain ⟨n1, n2, n3, n4, n5⟩ := op_ne o
    have la := lim_in (n := n) ho.1 hs (by omega)
    have lb := lim_in (n := n) ho.2 hs (by omega)
    refine sq (sq (ifStr false rfl n1 (if_no rfl (sq (ifStr false rfl n2 (if_no rfl (sq (ifStr false rfl n3 (if_no rfl ?_)))))))))
    have h : R (.d (.int (opV o (a.val env) (b.val env)))) M := h
    refine seq_cut (fun sl M' => ∃ t5, sl = [some (.d (Ex.bin o a b).d), some (.d (envD env)), some (.d (.str o.s)), some (.d (.list [a.d, b.d])), some (.d (.list [.int (a.val env), .int (b.val env)])), t5, none, none] ∧ M' = M) (fun N hN => ?_) ?_
    · intro q nq
      refine ⟨fun i M' => M' = updM M q (.lst (([PyData.int (a.val env), .int (b.val env)].take i).map DV.d)), rfl, ?_, ?_⟩
      · rintro i x M' hx rfl
        match i, hx with
        | 0, hx =>
          cases hx
          refine ⟨a, env, rfl, by omega, by omega, ho.1, hs, getL_of updM_same ⟨smallL (by show 0 < 1000000; decide), ?_⟩⟩
          rw [updM_upd]
          rfl
        | 1, hx =>
          cases hx
          refine ⟨b, env, rfl, by omega, by omega, ho.2, hs, getL_of updM_same ⟨smallL (by show 1 < 1000000; decide), ?_⟩⟩
          rw [updM_upd]
          rfl
        | j + 2, hx => cases hx
      · rintro M' rfl
        refine getL_of updM_same (optP_of (allD_of _) ?_)
        rw [delM_upd nq]
        exact hN _ _ ⟨_, rfl, rfl⟩
    rintro sl M' ⟨t5, rfl, rfl⟩
    refine sq (ifStr false rfl n4 (if_no rfl (sq (ifStr false rfl n5 (if_no rfl ?_)))))
    refine sq (disp ?_)
    refine ⟨inOk_two _ _ _, if_two o.isLog (op_log o) ?_⟩
    cases hl : o.isLog with
    | true =>
      refine if_yes rfl (sq ?_)
      refine lc_set (items := [.d (.int (a.val env)), .d (.int (b.val env))]) fnz (by show 2 < 1000000; decide) ?_ ?_
      · intro x hx M' Y Z hy hz
        simp only [List.mem_cons, List.not_mem_nil, or_false] at hx
        rcases hx with rfl | rfl
        · exact hy _ rfl
        · exact hy _ rfl
      cases o with
      | and =>
        refine optP_of (boolsD_of [!decide (a.val env = 0), !decide (b.val env = 0)]) ?_
        have e : ([!decide (a.val env = 0), !decide (b.val env = 0)].all id) = (!decide (a.val env = 0) && !decide (b.val env = 0)) := by simp
        show R (.d (.int (if ([!decide (a.val env = 0), !decide (b.val env = 0)].all id) = true then 1 else 0))) _
        rw [e]
        exact h
      | or =>
        refine optP_of (boolsD_of [!decide (a.val env = 0), !decide (b.val env = 0)]) ?_
        have e : ([!decide (a.val env = 0), !decide (b.val env = 0)].any id) = (!decide (a.val env = 0) || !decide (b.val env = 0)) := by simp
        show R (.d (.int (if ([!decide (a.val env = 0), !decide (b.val env = 0)].any id) = true then 1 else 0))) _
        rw [e]
        exact h
      | _ => cases hl
    | false =>
      refine if_no rfl (sq ⟨inOk_six _ _ _ _ _ _ _, if_six o.isCmp (op_cmp o) ?_⟩)
      cases hq : o.isCmp with
      | true =>
        refine if_yes rfl (optP_of (show atI _ ((0 : Nat) : Int) = some _ from atI_nat rfl) (optP_of (show atI _ ((1 : Nat) : Int) = some _ from atI_nat rfl) ⟨o, _, _, rfl, hq, ?_⟩))
        have e : opV o (a.val env) (b.val env) = b2 (cmpB o (a.val env) (b.val env)) := by cases o <;> first | rfl | cases hq
        rw [e] at h
        exact h
      | false => exact if_no rfl (optP_of (show atI _ ((0 : Nat) : Int) = some _ from atI_nat rfl) (optP_of (show atI _ ((1 : Nat) : Int) = some _ from atI_nat rfl) ⟨o, _, _, rfl, hq, hl, la, lb, h⟩))
theorem ok_evaluate (n : Nat) {P : Program} {w : World} {K : PySem.W.Frag} {mg : Str → Option Value} {base : Heap} {dV : Value} {f : Addr} {fd : FuncData} (F : FunA K "evaluate" "evaluate" s_evaluate dV f fd) (D_evaluate : Def P w K mg base "evaluate" (2 + n) (sp_evaluate n)) (D_compare_values : Def P w K mg base "compare_values" 1 sp_compare_values) (D_arithmetic : Def P w K mg base "arithmetic" 1 sp_arithmetic) (b_int : mg "int" = none) (b_all : mg "all" = none) (b_any : mg "any" = none) (g_COMPARISONS : Glb K mg "COMPARISONS" c_COMPARISONS) : FnG P w K mg base CX0 (2 + n + 1) f fd ["expression", "values"] (liftSp K (sp_evaluate (n + 1))) :=
  F.data sc_evaluate (len_evaluate (n + 1)) (t_evaluate n) (fun cdv A outer s H E hg hr =>
    (dss_cons (ds_asg (de_var 0) (dg_star rfl (dg_name (i := 2) sc_evaluate.nd rfl (by first | exact Or.inl rfl | exact Or.inr rfl)) (dg_name (i := 3) sc_evaluate.nd rfl (by first | exact Or.inl rfl | exact Or.inr rfl))))
      (dss_cons (ds_if (dt_cmp (od_eq hr) (de_var 2) de_str (nomark _)) (dss_one (ds_ret (de_ix (de_var 3) de_int))) dss_nil)
      (dss_cons (ds_if (dt_cmp (od_eq hr) (de_var 2) de_str (nomark _)) (dss_one (ds_ret (de_ixK hr (de_var 1) (de_ix (de_var 3) de_int)))) dss_nil)
      (dss_cons (ds_if (dt_cmp (od_eq hr) (de_var 2) de_str (nomark _)) (dss_one (ds_ret (D_evaluate.de hg (hr.mono (Nat.le_refl _)) (by rfl) (da_cons (de_if (dt_cmp (od_ne hr) (D_evaluate.de hg (hr.mono (Nat.le_refl _)) (by rfl) (da_cons (de_ix (de_var 3) de_int) (da_cons (de_var 1) da_nil))) de_int (nomark _)) (de_ix (de_var 3) de_int) (de_ix (de_var 3) de_int)) (da_cons (de_var 1) da_nil))))) dss_nil)
      (dss_cons (ds_setLc (i := 4) (own := [("part", 5)]) rfl sc_evaluate.nd rfl rfl (sw_true rfl rfl rfl (by decide +kernel)) (di_seq (de_var 3)) (blkOk_by (own := [("part", 5)]) (N := N_evaluate) (sc := defScope s_evaluate) (by decide +kernel)) (fun _ _ _ _ _ => (dg_name (i := 5) sc_evaluate.nd rfl (by first | exact Or.inl rfl | exact Or.inr rfl))) (fun _ _ _ _ _ => dts_nil) (fun _ _ _ _ _ => (D_evaluate.de hg (hr.mono (Nat.le_refl _)) (by rfl) (da_cons (de_var 5) (da_cons (de_var 1) da_nil)))) (by decide))
      (dss_cons (ds_if (dt_cmp (od_eq hr) (de_var 2) de_str (nomark _)) (dss_one (ds_ret (de_neg (de_ix (de_var 4) de_int)))) dss_nil)
      (dss_cons (ds_if (dt_cmp (od_eq hr) (de_var 2) de_str (nomark _)) (dss_one (ds_ret (de_callTy cd_int (by rfl) b_int (by decide +kernel) (da_cons (de_cmp (od_eq hr) (de_ix (de_var 4) de_int) de_int (nomark _)) da_nil)))) dss_nil)
      (dss_cons (ds_if (dt_cmp (od_in hr) (de_var 2) (de_tup (da_cons de_str (da_cons de_str da_nil))) rfl) (dss_cons (ds_setLc (i := 6) (own := [("result", 7)]) rfl sc_evaluate.nd rfl rfl (sw_true rfl rfl rfl (by decide +kernel)) (di_seq (de_var 4)) (blkOk_by (own := [("result", 7)]) (N := N_evaluate) (sc := defScope s_evaluate) (by decide +kernel)) (fun _ _ _ _ _ => (dg_name (i := 7) sc_evaluate.nd rfl (by first | exact Or.inl rfl | exact Or.inr rfl))) (fun _ _ _ _ _ => dts_nil) (fun _ _ _ _ _ => (de_cmp (od_ne hr) (de_var 7) de_int (nomark _))) (by decide))
      (dss_one (ds_ret (de_callTy cd_int (by rfl) b_int (by decide +kernel) (da_cons (de_if (dt_cmp (od_eq hr) (de_var 2) de_str (nomark _)) (de_callB (cd_all rfl) (by rfl) b_all (by decide +kernel) (da_cons (de_var 6) da_nil)) (de_callB (cd_any rfl) (by rfl) b_any (by decide +kernel) (da_cons (de_var 6) da_nil))) da_nil))))) dss_nil)
      (dss_cons (ds_if (dt_cmp (od_in hr) (de_var 2) (g_COMPARISONS.de (by rfl)) rfl) (dss_one (ds_ret (de_callTy cd_int (by rfl) b_int (by decide +kernel) (da_cons (D_compare_values.de hg (hr.mono (by omega)) (by rfl) (da_cons (de_var 2) (da_cons (de_ix (de_var 4) de_int) (da_cons (de_ix (de_var 4) de_int) da_nil)))) da_nil)))) dss_nil)
      (dss_one (ds_ret (D_arithmetic.de hg (hr.mono (by omega)) (by rfl) (da_cons (de_var 2) (da_cons (de_ix (de_var 4) de_int) (da_cons (de_ix (de_var 4) de_int) da_nil)))))))))))))))) (pure_evaluate n)
/-! ### _law_equal -/
abbrev s__law_equal : Stmt := topS 10
abbrev N__law_equal : List Str := ["found", "expected"]
theorem sc__law_equal : FnScope N__law_equal ["found", "expected"] (defScope s__law_equal) := ⟨rfl, rfl, rfl, by decide +kernel, rfl, by decide +kernel, by decide +kernel⟩
def sp__law_equal : SpD := fun xs M R => ∃ x : PyData, xs = [.d x, .d x] ∧ OkShow x ∧ R (.d (.bool true)) M
def t__law_equal : TSD := (dRet (dOp (g2 eqD) (dCall (g1 reprD) (dCons (dVar 0) dNil)) (dCall (g1 reprD) (dCons (dVar 1) dNil))))

theorem len__law_equal : ∀ xs M R, sp__law_equal xs M R → xs.length = 2 := by
  rintro xs M R ⟨x, rfl, _⟩
  rfl
theorem pure__law_equal : ∀ xs M R, sp__law_equal xs M R → t__law_equal { nx := fun _ M' => R (.d .none) M', rt := R } (startD N__law_equal xs) M := by
  rintro xs M R ⟨x, rfl, ⟨h1, h2, h3, h4⟩, h⟩
  refine ⟨h1, h2, h3, h4, h1, h2, h3, h4, ?_⟩
  show R (.d (.bool (decide (x.shown = x.shown)))) M
  rw [decide_eq_true rfl]
  exact h
theorem ok__law_equal {P : Program} {w : World} {K : PySem.W.Frag} {mg : Str → Option Value} {base : Heap} {dV : Value} {f : Addr} {fd : FuncData} (F : FunA K "_law_equal" "_law_equal" s__law_equal dV f fd) (b_repr : mg "repr" = none) : FnG P w K mg base CX0 1 f fd ["found", "expected"] (liftSp K sp__law_equal) :=
  F.data sc__law_equal len__law_equal t__law_equal (fun cdv A outer s H E hg hr =>
    (dss_one (ds_ret (de_cmp (od_eq hr) (de_callB (cd_repr hr hg) (by rfl) b_repr (by decide +kernel) (da_cons (de_var 0) da_nil)) (de_callB (cd_repr hr hg) (by rfl) b_repr (by decide +kernel) (da_cons (de_var 1) da_nil)) (nomark _))))) pure__law_equal
/-! ### _law_two -/
abbrev s__law_two : Stmt := topS 12
abbrev N__law_two : List Str := ["operator", "first", "second"]
theorem sc__law_two : FnScope N__law_two ["operator", "first", "second"] (defScope s__law_two) := ⟨rfl, rfl, rfl, by decide +kernel, rfl, by decide +kernel, by decide +kernel⟩
theorem b2_if (b : Bool) : (if b = true then (1 : Int) else 0) = b2 b := by cases b <;> rfl
theorem pair_sorted {ns : List Int} {i j : Int} (h : ns.Perm [i, j]) (hs : ns.Pairwise (· ≤ ·)) : ns = [if j < i then j else i, if j > i then j else i] := by
  have hl := h.length_eq
  match ns, hl with
  | [a, b], _ =>
    have hab : a ≤ b := by
      have := (List.pairwise_cons.mp hs).1 b (by simp)
      exact this
    have ha : a ∈ [i, j] := h.mem_iff.mp (by simp)
    simp only [List.mem_cons, List.not_mem_nil, or_false] at ha
    have : (a = i ∧ b = j) ∨ (a = j ∧ b = i) := by
      rcases ha with rfl | rfl
      · have h2 := (List.perm_cons a).mp h
        have := List.perm_singleton.mp h2
        exact .inl ⟨rfl, by simpa using this⟩
      · have h2 := (List.perm_cons a).mp (h.trans (List.Perm.swap a i []))
        have := List.perm_singleton.mp h2
        exact .inr ⟨rfl, by simpa using this⟩
    rcases this with ⟨rfl, rfl⟩ | ⟨rfl, rfl⟩
    · congr 1
      · split <;> omega
      · congr 1
        split <;> omega
    · congr 1
      · split <;> omega
      · congr 1
        split <;> omega
theorem nle_lt (i j : Int) : (!decide (i ≤ j)) = decide (j < i) := by
  by_cases h : i ≤ j
  · rw [decide_eq_true h, decide_eq_false (by omega)]; rfl
  · rw [decide_eq_false h, decide_eq_true (by omega)]; rfl
def sp__law_two : SpD := fun xs M R => ∃ (o : Op) (i j : Int), xs = [.d (.str o.s), .d (.int i), .d (.int j)] ∧ Lim 8000 i ∧ Lim 8000 j ∧ R (.d (.int (opV o i j))) M
def t__law_two : TSD := (dSeq (dIfS (dB (dOp (g2 (inD false)) (dVar 0) (dTup (dCons (dC (.d (.str "and"))) (dCons (dC (.d (.str "or"))) dNil))))) (dRet (dIf (dB (dOp (g2 eqD) (dVar 0) (dC (.d (.str "and"))))) (dCall minG (dCons (dCall (g1 intG) (dCons (dOp (g2 neD) (dVar 1) (dC (.d (.int 0)))) dNil)) (dCons (dCall (g1 intG) (dCons (dOp (g2 neD) (dVar 2) (dC (.d (.int 0)))) dNil)) dNil))) (dCall maxG (dCons (dCall (g1 intG) (dCons (dOp (g2 neD) (dVar 1) (dC (.d (.int 0)))) dNil)) (dCons (dCall (g1 intG) (dCons (dOp (g2 neD) (dVar 2) (dC (.d (.int 0)))) dNil)) dNil))))) dNext)
  (dSeq (dIfS (dB (dOp (g2 (inD false)) (dVar 0) (dTup (dCons (dC (.d (.str "="))) (dCons (dC (.d (.str "!="))) dNil))))) (dRet (dCall (g1 intG) (dCons (dOp (g2 eqD) (dOp (g2 eqD) (dVar 1) (dVar 2)) (dOp (g2 eqD) (dVar 0) (dC (.d (.str "="))))) dNil))) dNext)
  (dSeq (dIfS (dB (dOp (g2 (inD false)) (dVar 0) (dTup (dCons (dC (.d (.str "<"))) (dCons (dC (.d (.str ">="))) dNil))))) (dRet (dCall (g1 intG) (dCons (dOp (g2 eqD) (dOp (g2 ltD) (dVar 1) (dVar 2)) (dOp (g2 eqD) (dVar 0) (dC (.d (.str "<"))))) dNil))) dNext)
  (dSeq (dIfS (dB (dOp (g2 (inD false)) (dVar 0) (dTup (dCons (dC (.d (.str "<="))) (dCons (dC (.d (.str ">"))) dNil))))) (dRet (dCall (g1 intG) (dCons (dOp (g2 eqD) (dOp (g2 (intCmp fun i j => decide (i ≤ j))) (dVar 1) (dVar 2)) (dOp (g2 eqD) (dVar 0) (dC (.d (.str "<="))))) dNil))) dNext)
  (dSeq (dIfS (dB (dOp (g2 (inD false)) (dVar 0) (dTup (dCons (dC (.d (.str "+"))) (dCons (dC (.d (.str "-"))) dNil))))) (dRet (dOp (g2 addD) (dVar 1) (dOp (g2 mulD) (dVar 2) (dIf (dB (dOp (g2 eqD) (dVar 0) (dC (.d (.str "+"))))) (dC (.d (.int 1))) (dUn negD (dC (.d (.int 1)))))))) dNext)
  (dSeq (dIfS (dB (dOp (g2 eqD) (dVar 0) (dC (.d (.str "*"))))) (dRet (dOp (g2 mulD) (dVar 1) (dVar 2))) dNext)
  (dSeq (dIfS (dB (dOp (g2 eqD) (dVar 0) (dC (.d (.str "mod"))))) (dRet (dIf (dB (dOp (g2 eqD) (dVar 2) (dC (.d (.int 0))))) (dC (.d (.int 0))) (dOp (g2 (intOp (· - ·))) (dVar 1) (dOp (g2 mulD) (dVar 2) (dOp (g2 (intOpC CDivA Int.fdiv)) (dVar 1) (dVar 2)))))) dNext)
  (dRet (dOp ixD (dCall sortedG (dCons (dLst (dCons (dVar 1) (dCons (dVar 2) dNil))) dNil)) (dCall (g1 intG) (dCons (dOp (g2 eqD) (dVar 0) (dC (.d (.str "max")))) dNil)))))))))))

theorem len__law_two : ∀ xs M R, sp__law_two xs M R → xs.length = 3 := by
  rintro xs M R ⟨o, i, j, rfl, _⟩
  rfl
theorem pure__law_two : ∀ xs M R, sp__law_two xs M R → t__law_two { nx := fun _ M' => R (.d .none) M', rt := R } (startD N__law_two xs) M := by
  rintro xs M R ⟨o, i, j, rfl, hi, hj, h⟩
  cases o with
  | and =>
    refine sq (disp ?_)
    refine ⟨inOk_two _ _ _, if_two true (by decide +kernel) (if_yes rfl ?_)⟩
    show R (.d (.int (if (if (!decide (j = 0)) = true then (1 : Int) else 0) < (if (!decide (i = 0)) = true then (1 : Int) else 0) then (if (!decide (j = 0)) = true then (1 : Int) else 0) else (if (!decide (i = 0)) = true then (1 : Int) else 0)))) M
    have e : (if (if (!decide (j = 0)) = true then (1 : Int) else 0) < (if (!decide (i = 0)) = true then (1 : Int) else 0) then (if (!decide (j = 0)) = true then (1 : Int) else 0) else (if (!decide (i = 0)) = true then (1 : Int) else 0)) = opV .and i j := by
      show _ = b2 (!decide (i = 0) && !decide (j = 0))
      cases (!decide (i = 0)) <;> cases (!decide (j = 0)) <;> rfl
    rw [e]
    exact h
  | or =>
    refine sq (disp ?_)
    refine ⟨inOk_two _ _ _, if_two true (by decide +kernel) (if_yes rfl ?_)⟩
    show R (.d (.int (if (if (!decide (j = 0)) = true then (1 : Int) else 0) > (if (!decide (i = 0)) = true then (1 : Int) else 0) then (if (!decide (j = 0)) = true then (1 : Int) else 0) else (if (!decide (i = 0)) = true then (1 : Int) else 0)))) M
    have e : (if (if (!decide (j = 0)) = true then (1 : Int) else 0) > (if (!decide (i = 0)) = true then (1 : Int) else 0) then (if (!decide (j = 0)) = true then (1 : Int) else 0) else (if (!decide (i = 0)) = true then (1 : Int) else 0)) = opV .or i j := by
      show _ = b2 (!decide (i = 0) || !decide (j = 0))
      cases (!decide (i = 0)) <;> cases (!decide (j = 0)) <;> rfl
    rw [e]
    exact h
  | eq =>
    refine sq (disp ?_)
    refine ⟨inOk_two _ _ _, if_two false (by decide +kernel) (if_no rfl ?_)⟩
    refine sq (disp ?_)
    refine ⟨inOk_two _ _ _, if_two true (by decide +kernel) (if_yes rfl ?_)⟩
    exact cmp_end (R := fun x M' => g1 intG [x] M' R) true (by decide +kernel) (beq_t _) h
  | ne =>
    refine sq (disp ?_)
    refine ⟨inOk_two _ _ _, if_two false (by decide +kernel) (if_no rfl ?_)⟩
    refine sq (disp ?_)
    refine ⟨inOk_two _ _ _, if_two true (by decide +kernel) (if_yes rfl ?_)⟩
    exact cmp_end (R := fun x M' => g1 intG [x] M' R) false (by decide +kernel) (beq_f _) h
  | lt =>
    refine sq (disp ?_)
    refine ⟨inOk_two _ _ _, if_two false (by decide +kernel) (if_no rfl ?_)⟩
    refine sq (disp ?_)
    refine ⟨inOk_two _ _ _, if_two false (by decide +kernel) (if_no rfl ?_)⟩
    refine sq (disp ?_)
    refine ⟨inOk_two _ _ _, if_two true (by decide +kernel) (if_yes rfl ?_)⟩
    exact cmp_end (R := fun x M' => g1 intG [x] M' R) true (by decide +kernel) (beq_t _) h
  | ge =>
    refine sq (disp ?_)
    refine ⟨inOk_two _ _ _, if_two false (by decide +kernel) (if_no rfl ?_)⟩
    refine sq (disp ?_)
    refine ⟨inOk_two _ _ _, if_two false (by decide +kernel) (if_no rfl ?_)⟩
    refine sq (disp ?_)
    refine ⟨inOk_two _ _ _, if_two true (by decide +kernel) (if_yes rfl ?_)⟩
    exact cmp_end (R := fun x M' => g1 intG [x] M' R) false (by decide +kernel) ((beq_f _).trans (nlt_le i j)) h
  | le =>
    refine sq (disp ?_)
    refine ⟨inOk_two _ _ _, if_two false (by decide +kernel) (if_no rfl ?_)⟩
    refine sq (disp ?_)
    refine ⟨inOk_two _ _ _, if_two false (by decide +kernel) (if_no rfl ?_)⟩
    refine sq (disp ?_)
    refine ⟨inOk_two _ _ _, if_two false (by decide +kernel) (if_no rfl ?_)⟩
    refine sq (disp ?_)
    refine ⟨inOk_two _ _ _, if_two true (by decide +kernel) (if_yes rfl ?_)⟩
    exact cmp_end (R := fun x M' => g1 intG [x] M' R) true (by decide +kernel) (beq_t _) h
  | gt =>
    refine sq (disp ?_)
    refine ⟨inOk_two _ _ _, if_two false (by decide +kernel) (if_no rfl ?_)⟩
    refine sq (disp ?_)
    refine ⟨inOk_two _ _ _, if_two false (by decide +kernel) (if_no rfl ?_)⟩
    refine sq (disp ?_)
    refine ⟨inOk_two _ _ _, if_two false (by decide +kernel) (if_no rfl ?_)⟩
    refine sq (disp ?_)
    refine ⟨inOk_two _ _ _, if_two true (by decide +kernel) (if_yes rfl ?_)⟩
    exact cmp_end (R := fun x M' => g1 intG [x] M' R) false (by decide +kernel) ((beq_f _).trans (nle_lt i j)) h
  | add =>
    refine sq (disp ?_)
    refine ⟨inOk_two _ _ _, if_two false (by decide +kernel) (if_no rfl ?_)⟩
    refine sq (disp ?_)
    refine ⟨inOk_two _ _ _, if_two false (by decide +kernel) (if_no rfl ?_)⟩
    refine sq (disp ?_)
    refine ⟨inOk_two _ _ _, if_two false (by decide +kernel) (if_no rfl ?_)⟩
    refine sq (disp ?_)
    refine ⟨inOk_two _ _ _, if_two false (by decide +kernel) (if_no rfl ?_)⟩
    refine sq (disp ?_)
    refine ⟨inOk_two _ _ _, if_two true (by decide +kernel) (if_yes rfl ?_)⟩
    refine ⟨.inl (.inr ⟨by decide, by decide⟩), ?_⟩
    have h : R (.d (.int (i + j))) M := h
    show R (.d (.int (i + j * 1))) M
    rw [Int.mul_one]
    exact h
  | sub =>
    refine sq (disp ?_)
    refine ⟨inOk_two _ _ _, if_two false (by decide +kernel) (if_no rfl ?_)⟩
    refine sq (disp ?_)
    refine ⟨inOk_two _ _ _, if_two false (by decide +kernel) (if_no rfl ?_)⟩
    refine sq (disp ?_)
    refine ⟨inOk_two _ _ _, if_two false (by decide +kernel) (if_no rfl ?_)⟩
    refine sq (disp ?_)
    refine ⟨inOk_two _ _ _, if_two false (by decide +kernel) (if_no rfl ?_)⟩
    refine sq (disp ?_)
    refine ⟨inOk_two _ _ _, if_two true (by decide +kernel) (if_yes rfl ?_)⟩
    refine ⟨.inl (.inr ⟨by decide, by decide⟩), ?_⟩
    have h : R (.d (.int (i - j))) M := h
    show R (.d (.int (i + j * -1))) M
    rw [show i + j * -1 = i - j by omega]
    exact h
  | mul =>
    refine sq (disp ?_)
    refine ⟨inOk_two _ _ _, if_two false (by decide +kernel) (if_no rfl ?_)⟩
    refine sq (disp ?_)
    refine ⟨inOk_two _ _ _, if_two false (by decide +kernel) (if_no rfl ?_)⟩
    refine sq (disp ?_)
    refine ⟨inOk_two _ _ _, if_two false (by decide +kernel) (if_no rfl ?_)⟩
    refine sq (disp ?_)
    refine ⟨inOk_two _ _ _, if_two false (by decide +kernel) (if_no rfl ?_)⟩
    refine sq (disp ?_)
    refine ⟨inOk_two _ _ _, if_two false (by decide +kernel) (if_no rfl ?_)⟩
    refine sq (ifStr true rfl (by decide +kernel) (if_yes rfl ?_))
    exact ⟨mul_ok (by decide) (by decide) hi hj (by decide), h⟩
  | mod =>
    refine sq (disp ?_)
    refine ⟨inOk_two _ _ _, if_two false (by decide +kernel) (if_no rfl ?_)⟩
    refine sq (disp ?_)
    refine ⟨inOk_two _ _ _, if_two false (by decide +kernel) (if_no rfl ?_)⟩
    refine sq (disp ?_)
    refine ⟨inOk_two _ _ _, if_two false (by decide +kernel) (if_no rfl ?_)⟩
    refine sq (disp ?_)
    refine ⟨inOk_two _ _ _, if_two false (by decide +kernel) (if_no rfl ?_)⟩
    refine sq (disp ?_)
    refine ⟨inOk_two _ _ _, if_two false (by decide +kernel) (if_no rfl ?_)⟩
    refine sq (ifStr false rfl (by decide +kernel) (if_no rfl ?_))
    refine sq (ifStr true rfl (by decide +kernel) (if_yes rfl ?_))
    refine if_dec (fun hz => ?_) (fun hz => ?_)
    · rw [show opV .mod i j = 0 from if_pos hz] at h
      exact h
    · rw [show opV .mod i j = i.fmod j from if_neg hz] at h
      have hq : Lim 8001 (i.fdiv j) := by
        have e := Int.mul_fdiv_self i j
        have hb : (i.fmod j).natAbs ≤ j.natAbs := by
          rcases Int.lt_or_gt_of_ne hz with z | z
          · have e := Int.neg_fmod_neg (-i) (-j)
            rw [Int.neg_neg, Int.neg_neg] at e
            have h1 := Int.fmod_nonneg_of_pos (-i) (show 0 < -j by omega)
            have h2 := Int.fmod_lt_of_pos (-i) (show 0 < -j by omega)
            omega
          · have h1 := Int.fmod_nonneg_of_pos i z
            have h2 := Int.fmod_lt_of_pos i z
            omega
        have hm : (j * i.fdiv j).natAbs = j.natAbs * (i.fdiv j).natAbs := Int.natAbs_mul _ _
        have hj1 : 1 ≤ j.natAbs := by omega
        have hle : 1 * (i.fdiv j).natAbs ≤ j.natAbs * (i.fdiv j).natAbs := Nat.mul_le_mul_right _ hj1
        have h3 : (i - i.fmod j).natAbs ≤ i.natAbs + (i.fmod j).natAbs := by omega
        rw [e] at hm
        have hi' : i.natAbs < 2 ^ 8000 := hi
        have hj' : j.natAbs < 2 ^ 8000 := hj
        show (i.fdiv j).natAbs < 2 ^ 8001
        rw [Nat.pow_succ]
        omega
      refine ⟨⟨hz, Nat.lt_trans (lim_log (by decide) hj) (by decide)⟩, mul_ok (by decide) (by decide) hj hq (by decide), ?_⟩
      show R (.d (.int (i - j * i.fdiv j))) M
      rw [← Int.fmod_def]
      exact h
  | min =>
    refine sq (disp ?_)
    refine ⟨inOk_two _ _ _, if_two false (by decide +kernel) (if_no rfl ?_)⟩
    refine sq (disp ?_)
    refine ⟨inOk_two _ _ _, if_two false (by decide +kernel) (if_no rfl ?_)⟩
    refine sq (disp ?_)
    refine ⟨inOk_two _ _ _, if_two false (by decide +kernel) (if_no rfl ?_)⟩
    refine sq (disp ?_)
    refine ⟨inOk_two _ _ _, if_two false (by decide +kernel) (if_no rfl ?_)⟩
    refine sq (disp ?_)
    refine ⟨inOk_two _ _ _, if_two false (by decide +kernel) (if_no rfl ?_)⟩
    refine sq (ifStr false rfl (by decide +kernel) (if_no rfl ?_))
    refine sq (ifStr false rfl (by decide +kernel) (if_no rfl ?_))
    refine disp (optP_of rfl fun ns h1 h2 => ?_)
    rw [pair_sorted h1 h2]
    exact optP_of (show atI _ ((0 : Nat) : Int) = some _ from atI_nat rfl) h
  | max =>
    refine sq (disp ?_)
    refine ⟨inOk_two _ _ _, if_two false (by decide +kernel) (if_no rfl ?_)⟩
    refine sq (disp ?_)
    refine ⟨inOk_two _ _ _, if_two false (by decide +kernel) (if_no rfl ?_)⟩
    refine sq (disp ?_)
    refine ⟨inOk_two _ _ _, if_two false (by decide +kernel) (if_no rfl ?_)⟩
    refine sq (disp ?_)
    refine ⟨inOk_two _ _ _, if_two false (by decide +kernel) (if_no rfl ?_)⟩
    refine sq (disp ?_)
    refine ⟨inOk_two _ _ _, if_two false (by decide +kernel) (if_no rfl ?_)⟩
    refine sq (ifStr false rfl (by decide +kernel) (if_no rfl ?_))
    refine sq (ifStr false rfl (by decide +kernel) (if_no rfl ?_))
    refine disp (optP_of rfl fun ns h1 h2 => ?_)
    rw [pair_sorted h1 h2]
    exact optP_of (show atI _ ((1 : Nat) : Int) = some _ from atI_nat rfl) h
theorem ok__law_two {P : Program} {w : World} {K : PySem.W.Frag} {mg : Str → Option Value} {base : Heap} {dV : Value} {f : Addr} {fd : FuncData} (F : FunA K "_law_two" "_law_two" s__law_two dV f fd) (b_min : mg "min" = none) (b_int : mg "int" = none) (b_max : mg "max" = none) (b_sorted : mg "sorted" = none) : FnG P w K mg base CX0 1 f fd ["operator", "first", "second"] (liftSp K sp__law_two) :=
  F.data sc__law_two len__law_two t__law_two (fun cdv A outer s H E hg hr =>
    (dss_cons (ds_if (dt_cmp (od_in hr) (de_var 0) (de_tup (da_cons de_str (da_cons de_str da_nil))) rfl) (dss_one (ds_ret (de_if (dt_cmp (od_eq hr) (de_var 0) de_str (nomark _)) (de_callB (cd_min rfl) (by rfl) b_min (by decide +kernel) (da_cons (de_callTy cd_int (by rfl) b_int (by decide +kernel) (da_cons (de_cmp (od_ne hr) (de_var 1) de_int (nomark _)) da_nil)) (da_cons (de_callTy cd_int (by rfl) b_int (by decide +kernel) (da_cons (de_cmp (od_ne hr) (de_var 2) de_int (nomark _)) da_nil)) da_nil))) (de_callB (cd_max rfl) (by rfl) b_max (by decide +kernel) (da_cons (de_callTy cd_int (by rfl) b_int (by decide +kernel) (da_cons (de_cmp (od_ne hr) (de_var 1) de_int (nomark _)) da_nil)) (da_cons (de_callTy cd_int (by rfl) b_int (by decide +kernel) (da_cons (de_cmp (od_ne hr) (de_var 2) de_int (nomark _)) da_nil)) da_nil)))))) dss_nil)
      (dss_cons (ds_if (dt_cmp (od_in hr) (de_var 0) (de_tup (da_cons de_str (da_cons de_str da_nil))) rfl) (dss_one (ds_ret (de_callTy cd_int (by rfl) b_int (by decide +kernel) (da_cons (de_cmp (od_eq hr) (de_cmp (od_eq hr) (de_var 1) (de_var 2) (nomark _)) (de_cmp (od_eq hr) (de_var 0) de_str (nomark _)) (nomark _)) da_nil)))) dss_nil)
      (dss_cons (ds_if (dt_cmp (od_in hr) (de_var 0) (de_tup (da_cons de_str (da_cons de_str da_nil))) rfl) (dss_one (ds_ret (de_callTy cd_int (by rfl) b_int (by decide +kernel) (da_cons (de_cmp (od_eq hr) (de_cmp (od_lt hr) (de_var 1) (de_var 2) (nomark _)) (de_cmp (od_eq hr) (de_var 0) de_str (nomark _)) (nomark _)) da_nil)))) dss_nil)
      (dss_cons (ds_if (dt_cmp (od_in hr) (de_var 0) (de_tup (da_cons de_str (da_cons de_str da_nil))) rfl) (dss_one (ds_ret (de_callTy cd_int (by rfl) b_int (by decide +kernel) (da_cons (de_cmp (od_eq hr) (de_cmp od_le (de_var 1) (de_var 2) (nomark _)) (de_cmp (od_eq hr) (de_var 0) de_str (nomark _)) (nomark _)) da_nil)))) dss_nil)
      (dss_cons (ds_if (dt_cmp (od_in hr) (de_var 0) (de_tup (da_cons de_str (da_cons de_str da_nil))) rfl) (dss_one (ds_ret (de_op od_add (de_var 1) (de_op od_mul (de_var 2) (de_if (dt_cmp (od_eq hr) (de_var 0) de_str (nomark _)) de_int (de_neg de_int)))))) dss_nil)
      (dss_cons (ds_if (dt_cmp (od_eq hr) (de_var 0) de_str (nomark _)) (dss_one (ds_ret (de_op od_mul (de_var 1) (de_var 2)))) dss_nil)
      (dss_cons (ds_if (dt_cmp (od_eq hr) (de_var 0) de_str (nomark _)) (dss_one (ds_ret (de_if (dt_cmp (od_eq hr) (de_var 2) de_int (nomark _)) de_int (de_op od_sub (de_var 1) (de_op od_mul (de_var 2) (de_op od_fdivA (de_var 1) (de_var 2))))))) dss_nil)
      (dss_one (ds_ret (de_ix (de_callB cd_sorted (by rfl) b_sorted (by decide +kernel) (da_cons (de_lst (da_cons (de_var 1) (da_cons (de_var 2) da_nil))) da_nil)) (de_callTy cd_int (by rfl) b_int (by decide +kernel) (da_cons (de_cmp (od_eq hr) (de_var 0) de_str (nomark _)) da_nil))))))))))))) pure__law_two
/-! ### _law_value -/
abbrev s__law_value : Stmt := topS 13
abbrev N__law_value : List Str := ["expression", "values", "operator", "first"]
theorem sc__law_value : FnScope N__law_value ["expression", "values"] (defScope s__law_value) := ⟨rfl, rfl, rfl, by decide +kernel, rfl, by decide +kernel, by decide +kernel⟩
def sp__law_value (n : Nat) : SpD := fun xs M R => ∃ (e : Ex) (env : Env), xs = [.d e.d, .d (envD env)] ∧ e.dep < n ∧ n ≤ 8 ∧ e.ok (env.map (·.1)) ∧ Small env ∧ R (.d (.int (e.val env))) M
theorem none__law_value : ∀ xs M R, ¬ sp__law_value 0 xs M R := by
  rintro xs M R ⟨e, env, rfl, hk, _⟩
  omega
theorem lim_in8 {e : Ex} {env : Env} (h : e.ok (env.map (·.1))) (hs : Small env) (hd : e.dep ≤ 8) : Lim 8000 (e.val env) := (val_lim hs e h).mono (Nat.le_trans (bd_mono hd) (by decide))
def t__law_value (n : Nat) : TSD := (dSeq (dSet 2 (dOp ixD (dVar 0) (dC (.d (.int 0)))))
  (dSeq (dIfS (dB (dOp (g2 eqD) (dVar 2) (dC (.d (.str "int"))))) (dRet (dOp ixD (dVar 0) (dC (.d (.int 1))))) dNext)
  (dSeq (dIfS (dB (dOp (g2 eqD) (dVar 2) (dC (.d (.str "name"))))) (dRet (dOp ixK (dVar 1) (dOp ixD (dVar 0) (dC (.d (.int 1)))))) dNext)
  (dSeq (dIfS (dB (dOp (g2 eqD) (dVar 2) (dC (.d (.str "if"))))) (dRet (dCall (sp__law_value n) (dCons (dOp ixD (dVar 0) (dIf (dB (dOp (g2 neD) (dCall (sp__law_value n) (dCons (dOp ixD (dVar 0) (dC (.d (.int 1)))) (dCons (dVar 1) dNil))) (dC (.d (.int 0))))) (dC (.d (.int 2))) (dC (.d (.int 3))))) (dCons (dVar 1) dNil)))) dNext)
  (dSeq (dSet 3 (dCall (sp__law_value n) (dCons (dOp ixD (dVar 0) (dC (.d (.int 1)))) (dCons (dVar 1) dNil))))
  (dSeq (dIfS (dB (dOp (g2 eqD) (dVar 2) (dC (.d (.str "neg"))))) (dRet (dOp (g2 (intOp (· - ·))) (dC (.d (.int 0))) (dVar 3))) dNext)
  (dSeq (dIfS (dB (dOp (g2 eqD) (dVar 2) (dC (.d (.str "not"))))) (dRet (dCall (g1 intG) (dCons (dOp (g2 eqD) (dVar 3) (dC (.d (.int 0)))) dNil))) dNext)
  (dRet (dCall sp__law_two (dCons (dVar 2) (dCons (dVar 3) (dCons (dCall (sp__law_value n) (dCons (dOp ixD (dVar 0) (dC (.d (.int 2)))) (dCons (dVar 1) dNil))) dNil))))))))))))

theorem len__law_value : ∀ n xs M R, sp__law_value n xs M R → xs.length = 2 := by
  rintro n xs M R ⟨e, env, rfl, _⟩
  rfl
theorem pure__law_value : ∀ n xs M R, sp__law_value (n + 1) xs M R → t__law_value n { nx := fun _ M' => R (.d .none) M', rt := R } (startD N__law_value xs) M := by
  rintro n xs M R ⟨e, env, rfl, hd, hn, ho, hs, h⟩
  cases e with
  | int i =>
    refine sq (optP_of (show atI _ ((0 : Nat) : Int) = some _ from atI_nat rfl) ?_)
    refine sq (ifStr true rfl (by decide +kernel) (if_yes rfl ?_))
    exact optP_of (show atI _ ((1 : Nat) : Int) = some _ from atI_nat rfl) h
  | name x =>
    refine sq (optP_of (show atI _ ((0 : Nat) : Int) = some _ from atI_nat rfl) ?_)
    refine sq (ifStr false rfl (by decide +kernel) (if_no rfl (sq (ifStr true rfl (by decide +kernel) (if_yes rfl ?_)))))
    refine optP_of (show atI _ ((1 : Nat) : Int) = some _ from atI_nat rfl) (optP_of rfl (optP_of ?_ h))
    rw [look_env, look_some rfl ho]
    rfl
  | ite a b c =>
    have ho : a.ok _ ∧ b.ok _ ∧ c.ok _ := ho
    have hd : max a.dep (max b.dep c.dep) + 1 < n + 1 := hd
    refine sq (optP_of (show atI _ ((0 : Nat) : Int) = some _ from atI_nat rfl) ?_)
    refine sq (ifStr false rfl (by decide +kernel) (if_no rfl (sq (ifStr false rfl (by decide +kernel) (if_no rfl (sq (ifStr true rfl (by decide +kernel) (if_yes rfl ?_))))))))
    refine optP_of (show atI _ ((1 : Nat) : Int) = some _ from atI_nat rfl) ?_
    refine ⟨a, env, rfl, by omega, by omega, ho.1, hs, ?_⟩
    have h : R (.d (.int (if a.val env = 0 then c.val env else b.val env))) M := h
    refine if_ndec (fun hz => ?_) (fun hz => ?_)
    · rw [if_neg hz] at h
      exact optP_of (show atI _ ((2 : Nat) : Int) = some _ from atI_nat rfl) ⟨b, env, rfl, by omega, by omega, ho.2.1, hs, h⟩
    · rw [if_pos hz] at h
      exact optP_of (show atI _ ((3 : Nat) : Int) = some _ from atI_nat rfl) ⟨c, env, rfl, by omega, by omega, ho.2.2, hs, h⟩
  | un o a =>
    have ho : a.ok _ := ho
    have hd : a.dep + 1 < n + 1 := hd
    obtain ⟨n1, n2, n3⟩ := un_ne o
    refine sq (optP_of (show atI _ ((0 : Nat) : Int) = some _ from atI_nat rfl) ?_)
    refine sq (ifStr false rfl n1 (if_no rfl (sq (ifStr false rfl n2 (if_no rfl (sq (ifStr false rfl n3 (if_no rfl ?_))))))))
    refine sq (optP_of (show atI _ ((1 : Nat) : Int) = some _ from atI_nat rfl) ⟨a, env, rfl, by omega, by omega, ho, hs, ?_⟩)
    cases o with
    | neg =>
      refine sq (ifStr true rfl (by decide +kernel) (if_yes rfl ?_))
      have h : R (.d (.int (-(a.val env)))) M := h
      show R (.d (.int (0 - a.val env))) M
      rw [show (0 : Int) - a.val env = -(a.val env) by omega]
      exact h
    | not => exact sq (ifStr false rfl (by decide +kernel) (if_no rfl (sq (ifStr true rfl (by decide +kernel) (if_yes rfl h)))))
  | bin o a b =>
    have ho : a.ok _ ∧ b.ok _ := ho
    have hd : max a.dep b.dep + 1 < n + 1 := hd
    obtain ⟨n1, n2, n3, n4, n5⟩ := op_ne o
    refine sq (optP_of (show atI _ ((0 : Nat) : Int) = some _ from atI_nat rfl) ?_)
    refine sq (ifStr false rfl n1 (if_no rfl (sq (ifStr false rfl n2 (if_no rfl (sq (ifStr false rfl n3 (if_no rfl ?_))))))))
    refine sq (optP_of (show atI _ ((1 : Nat) : Int) = some _ from atI_nat rfl) ⟨a, env, rfl, by omega, by omega, ho.1, hs, ?_⟩)
    refine sq (ifStr false rfl n4 (if_no rfl (sq (ifStr false rfl n5 (if_no rfl ?_)))))
    exact optP_of (show atI _ ((2 : Nat) : Int) = some _ from atI_nat rfl) ⟨b, env, rfl, by omega, by omega, ho.2, hs, ⟨o, _, _, rfl, lim_in8 ho.1 hs (by omega), lim_in8 ho.2 hs (by omega), h⟩⟩
theorem ok__law_value (n : Nat) {P : Program} {w : World} {K : PySem.W.Frag} {mg : Str → Option Value} {base : Heap} {dV : Value} {f : Addr} {fd : FuncData} (F : FunA K "_law_value" "_law_value" s__law_value dV f fd) (D__law_value : Def P w K mg base "_law_value" (2 + n) (sp__law_value n)) (D__law_two : Def P w K mg base "_law_two" 1 sp__law_two) (b_int : mg "int" = none) : FnG P w K mg base CX0 (2 + n + 1) f fd ["expression", "values"] (liftSp K (sp__law_value (n + 1))) :=
  F.data sc__law_value (len__law_value (n + 1)) (t__law_value n) (fun cdv A outer s H E hg hr =>
    (dss_cons (ds_set (i := 2) sc__law_value.nd rfl (by first | exact Or.inl rfl | exact Or.inr rfl) (de_ix (de_var 0) de_int))
      (dss_cons (ds_if (dt_cmp (od_eq hr) (de_var 2) de_str (nomark _)) (dss_one (ds_ret (de_ix (de_var 0) de_int))) dss_nil)
      (dss_cons (ds_if (dt_cmp (od_eq hr) (de_var 2) de_str (nomark _)) (dss_one (ds_ret (de_ixK hr (de_var 1) (de_ix (de_var 0) de_int)))) dss_nil)
      (dss_cons (ds_if (dt_cmp (od_eq hr) (de_var 2) de_str (nomark _)) (dss_one (ds_ret (D__law_value.de hg (hr.mono (Nat.le_refl _)) (by rfl) (da_cons (de_ix (de_var 0) (de_if (dt_cmp (od_ne hr) (D__law_value.de hg (hr.mono (Nat.le_refl _)) (by rfl) (da_cons (de_ix (de_var 0) de_int) (da_cons (de_var 1) da_nil))) de_int (nomark _)) de_int de_int)) (da_cons (de_var 1) da_nil))))) dss_nil)
      (dss_cons (ds_set (i := 3) sc__law_value.nd rfl (by first | exact Or.inl rfl | exact Or.inr rfl) (D__law_value.de hg (hr.mono (Nat.le_refl _)) (by rfl) (da_cons (de_ix (de_var 0) de_int) (da_cons (de_var 1) da_nil))))
      (dss_cons (ds_if (dt_cmp (od_eq hr) (de_var 2) de_str (nomark _)) (dss_one (ds_ret (de_op od_sub de_int (de_var 3)))) dss_nil)
      (dss_cons (ds_if (dt_cmp (od_eq hr) (de_var 2) de_str (nomark _)) (dss_one (ds_ret (de_callTy cd_int (by rfl) b_int (by decide +kernel) (da_cons (de_cmp (od_eq hr) (de_var 3) de_int (nomark _)) da_nil)))) dss_nil)
      (dss_one (ds_ret (D__law_two.de hg (hr.mono (by omega)) (by rfl) (da_cons (de_var 2) (da_cons (de_var 3) (da_cons (D__law_value.de hg (hr.mono (Nat.le_refl _)) (by rfl) (da_cons (de_ix (de_var 0) de_int) (da_cons (de_var 1) da_nil))) da_nil)))))))))))))) (pure__law_value n)
/-! ### law -/
abbrev s_law : Stmt := topS 14
abbrev N_law : List Str := ["script", "source", "turn", "names", "expression", "time", "values", "name", "before", "found"]
theorem sc_law : FnScope N_law ["script"] (defScope s_law) := ⟨rfl, rfl, rfl, by decide +kernel, rfl, by decide +kernel, by decide +kernel⟩
def sp_law : SpD := fun xs M R => ∃ ns : List Int, xs = [.scr ns] ∧ ns.length ≤ 63 ∧ ∀ M', R (.d (.bool true)) M'
theorem law_says : ∀ ns M R, ns.length ≤ 63 → (∀ M', R (.d (.bool true)) M') → sp_law [.scr ns] M R := fun ns M R hl h => ⟨ns, rfl, hl, h⟩
def nm3 : List Str := ["x", "count", "a1"]
def pairD (p : Str × Int) : PyData := .tuple [.str p.1, .int p.2]
theorem pairs_env : ∀ env : Env, pairsD (env.map pairD) = some (env.map fun p => (Sum.inr p.1, PyData.int p.2))
  | [] => rfl
  | p :: r => by
    show (match keyOf (.str p.1), pairsD (r.map pairD) with | some k, some q => some ((k, PyData.int p.2) :: q) | _, _ => none) = _
    rw [pairs_env r]
    rfl
theorem env_of : ∀ (names : List Str) (ys : List PyData), ys.length = names.length → (∀ (i : Nat) (y : PyData), ys[i]? = some y → ∃ x v, names[i]? = some x ∧ y = PyData.tuple [.str x, .int v] ∧ -9 ≤ v ∧ v ≤ 9) → ∃ env : Env, env.map (·.1) = names ∧ ys = env.map pairD ∧ ∀ p ∈ env, -9 ≤ p.2 ∧ p.2 ≤ 9
  | [], [], _, _ => ⟨[], rfl, rfl, fun p hp => (by cases hp)⟩
  | [], _ :: _, h, _ => by cases h
  | _ :: _, [], h, _ => by cases h
  | x :: names, y :: ys, h, hy => by
    obtain ⟨env, e1, e2, e3⟩ := env_of names ys (by simpa using h) fun i z hz => by simpa using hy (i + 1) z (by simpa using hz)
    obtain ⟨x', v, hx, rfl, v0, v1⟩ := hy 0 y rfl
    cases hx
    refine ⟨(x, v) :: env, by rw [List.map_cons, e1], by rw [List.map_cons, e2]; rfl, fun p hp => ?_⟩
    rcases List.mem_cons.mp hp with hp | hp
    · rw [hp]; exact ⟨v0, v1⟩
    · exact e3 p hp
theorem keyKv (env : Env) : (env.map fun p => ((Sum.inr p.1 : Key), PyData.int p.2)).map (fun p => (keyD p.1, p.2)) = env.map fun p => (PyData.str p.1, PyData.int p.2) := by
  rw [List.map_map]
  rfl
theorem int9 {v : Int} (h0 : -9 ≤ v) (h1 : v ≤ 9) : v.natAbs.log2 < 1920 := by
  have : v.natAbs < 2 ^ 4 := by omega
  exact Nat.lt_trans (PySem.Flt.log2_lt_of (by decide) this) (by decide)
theorem showKv : ∀ env : Env, (∀ p ∈ env, -9 ≤ p.2 ∧ p.2 ≤ 9) → PyData.showableKv (env.map fun p => (PyData.str p.1, PyData.int p.2)) = true
  | [], _ => rfl
  | p :: r, h => by
    rw [List.map_cons, PyData.showableKv, showKv r fun q hq => h q (List.mem_cons_of_mem _ hq)]
    have h1 := h p List.mem_cons_self
    have : PyData.showable (.int p.2) = true := (okShow_int (int9 h1.1 h1.2)).1
    rw [this]
    rfl
theorem lenKv : ∀ env : Env, (∀ p ∈ env, p.1 ∈ nm3 ∧ -9 ≤ p.2 ∧ p.2 ≤ 9) → ((PyData.shownKv (env.map fun p => (PyData.str p.1, PyData.int p.2))).map (·.length)).sum ≤ 2000 * env.length
  | [], _ => Nat.le_refl _
  | p :: r, h => by
    have ih := lenKv r fun q hq => h q (List.mem_cons_of_mem _ hq)
    have h1 := h p List.mem_cons_self
    have hi := shown_int (int9 h1.2.1 h1.2.2)
    have hk : (PyData.shown (.str p.1)).length ≤ 20 := by
      have := h1.1
      simp only [nm3, List.mem_cons, List.not_mem_nil, or_false] at this
      rcases this with e | e | e <;> rw [e] <;> decide +kernel
    rw [List.map_cons, PyData.shownKv, List.map_cons, List.sum_cons, List.length_cons]
    show (PyData.shown (.str p.1) ++ Str.ofString ": " ++ PyData.shown (.int p.2)).length + _ ≤ _
    rw [strLen_append, strLen_append]
    have h2 : (Str.ofString ": ").length = 2 := by decide +kernel
    omega
theorem kvLen : ∀ env : Env, (PyData.shownKv (env.map fun p => (PyData.str p.1, PyData.int p.2))).length = env.length
  | [] => rfl
  | p :: r => by rw [List.map_cons, PyData.shownKv, List.length_cons, List.length_cons, kvLen r]
theorem lstKv : ∀ env : Env, lstFreeKv (env.map fun p => (PyData.str p.1, PyData.int p.2)) = true
  | [] => rfl
  | p :: r => by rw [List.map_cons, lstFreeKv, lstKv r]; rfl
theorem depKv : ∀ env : Env, PyData.depthKv (env.map fun p => (PyData.str p.1, PyData.int p.2)) = 0
  | [] => rfl
  | p :: r => by rw [List.map_cons, PyData.depthKv, depKv r]; rfl
theorem okEnv {env : Env} (hl : env.length ≤ 3) (h : ∀ p ∈ env, p.1 ∈ nm3 ∧ -9 ≤ p.2 ∧ p.2 ≤ 9) : OkShow (envD env) := by
  refine ⟨?_, ?_, ?_, fun _ => ?_⟩
  · unfold envD PyData.showable
    exact showKv env fun p hp => (h p hp).2
  · unfold envD PyData.depth
    rw [depKv]
    decide
  · unfold envD PyData.shown
    have h1 := dictText_len_le (PyData.shownKv (env.map fun p => (PyData.str p.1, PyData.int p.2)))
    have h2 := lenKv env h
    have h3 := kvLen env
    have hs : sizeLine = 16777216 := sizeLine_eq
    omega
  · unfold envD lstFree
    exact lstKv env
theorem okVal {e : Ex} {env : Env} (h : e.ok (env.map (·.1))) (hs : Small env) (hd : e.dep ≤ 5) : OkShow (.int (e.val env)) :=
  okShow_int (Nat.lt_of_lt_of_le (lim_log (by decide) ((val_lim hs e h).mono (bd_mono hd))) (by decide))
def t_law : TSD := (dSeq (dSet 1 (dCall sp__law_source (dCons (dVar 0) dNil)))
  (dSeq (dFor (diRange1 (dCons (dC (.d (.int 6))) dNil)) (dgName 2) (dSeq (dSet 3 (dSl (dLst (dCons (dC (.d (.str "x"))) (dCons (dC (.d (.str "count"))) (dCons (dC (.d (.str "a1"))) dNil)))) dNoPart (dPart (dOp (g2 addD) (dC (.d (.int 1))) (dCall sp__law_pick (dCons (dVar 1) (dCons (dC (.d (.int 3))) dNil)))))))
  (dSeq (dSet 4 (dCall (sp__law_expression 8) (dCons (dVar 1) (dCons (dVar 3) (dCons (dOp (g2 addD) (dC (.d (.int 1))) (dCall sp__law_pick (dCons (dVar 1) (dCons (dC (.d (.int 5))) dNil)))) dNil)))))
  (dFor (diRange1 (dCons (dC (.d (.int 4))) dNil)) (dgName 5) (dSeq (dSet 6 (dCall dictG (dCons (dLc (diSeq (dVar 3)) (dgName 7) dYes (dTup (dCons (dVar 7) (dCons (dOp (g2 (intOp (· - ·))) (dCall sp__law_pick (dCons (dVar 1) (dCons (dC (.d (.int 19))) dNil))) (dC (.d (.int 9)))) dNil))) [7]) dNil)))
  (dSeq (dSet 8 (dCall (g1 reprD) (dCons (dVar 6) dNil)))
  (dSeq (dSet 9 (dCall (sp_evaluate 8) (dCons (dVar 4) (dCons (dVar 6) dNil))))
  (dIfS (dOr (dNot (dB (dCall sp__law_equal (dCons (dVar 9) (dCons (dCall (sp__law_value 8) (dCons (dVar 4) (dCons (dVar 6) dNil))) dNil))))) (dB (dOp (g2 neD) (dCall (g1 reprD) (dCons (dVar 6) dNil)) (dVar 8)))) (dRet (dC (.d (.bool false)))) dNext))))))))
  (dRet (dC (.d (.bool true))))))

theorem len_law : ∀ xs M R, sp_law xs M R → xs.length = 1 := by
  rintro xs M R ⟨ns, rfl, _⟩
  rfl
theorem pure_law : ∀ xs M R, sp_law xs M R → t_law { nx := fun _ M' => R (.d .none) M', rt := R } (startD N_law xs) M := by
  rintro xs M R ⟨ns, rfl, hl, h⟩
  refine sq ⟨ns, rfl, hl, fun p nums hnl np => ?_⟩
  refine sq ⟨⟨by decide, by decide⟩, fun i sl M' => ∃ t2 t3 t4 t5 t6 t7 t8 t9 : Option DV, sl = [some (.scr ns), some (.raw (.ref p)), t2, t3, t4, t5, t6, t7, t8, t9] ∧ Src2 M' p, ⟨_, _, _, _, _, _, _, _, rfl, ⟨nums, 0, 0, hnl, updM_same⟩⟩, ?_, ?_⟩
  · rintro i x sl M' hx ⟨t2, t3, t4, t5, t6, t7, t8, t9, rfl, hS⟩
    obtain ⟨rfl, hi⟩ := range_get hx
    refine seq_cut (fun sl M1 => ∃ (names : List Str) (t2 t4 t5 t6 t7 t8 t9 : Option DV), sl = [some (.scr ns), some (.raw (.ref p)), t2, some (.d (.list (names.map PyData.str))), t4, t5, t6, t7, t8, t9] ∧ names ≠ [] ∧ names.length ≤ 3 ∧ names.Nodup ∧ (∀ x ∈ names, x ∈ nm3) ∧ Src2 M1 p) (fun N hN => ?_) ?_
    · refine disp ?_
      refine ⟨p, 3, rfl, by decide, by decide, hS, fun r M1 r0 r1 k1 s1 => ?_⟩
      obtain ⟨k, rfl⟩ : ∃ k : Nat, r = (k : Nat) := ⟨r.toNat, by omega⟩
      have hc : cutL (nm3.map PyData.str) none (some (1 + ((k : Nat) : Int))) = (nm3.take (k + 1)).map PyData.str := by
        rw [show (1 : Int) + ((k : Nat) : Int) = ((k + 1 : Nat) : Int) by omega, cut_to, List.map_take]
      have hk : k < 3 := by omega
      refine hN _ _ ⟨nm3.take (k + 1), _, _, _, _, _, _, _, (by rw [← hc]; rfl), ?_, ?_, ?_, fun x hx => List.mem_of_mem_take hx, s1⟩
      · intro e
        have := congrArg List.length e
        rw [List.length_take] at this
        have l3 : nm3.length = 3 := rfl
        simp only [List.length_nil] at this
        omega
      · rw [List.length_take]
        have l3 : nm3.length = 3 := rfl
        omega
      · exact List.Nodup.sublist (List.take_sublist _ _) (by decide +kernel)
    rintro sl M1 ⟨names, t2, t4, t5, t6, t7, t8, t9, rfl, hne, hnm, hnd, hin, s1⟩
    refine sq ⟨p, 5, rfl, by decide, by decide, s1, fun r M2 r0 r1 k2 s2 => ?_⟩
    obtain ⟨k, rfl⟩ : ∃ k : Nat, r = (k : Nat) := ⟨r.toNat, by omega⟩
    refine ⟨p, names, k + 1, ?_, by omega, hne, by omega, s2, fun e M3 eo ed k3 s3 => ?_⟩
    · show [_, _, DV.d (.int (1 + ((k : Nat) : Int)))] = _
      rw [show (1 : Int) + ((k : Nat) : Int) = ((k + 1 : Nat) : Int) by omega]
    refine ⟨⟨by decide, by decide⟩, fun j sl M' => ∃ t2 t5 t6 t7 t8 t9 : Option DV, sl = [some (.scr ns), some (.raw (.ref p)), t2, some (.d (.list (names.map PyData.str))), some (.d e.d), t5, t6, t7, t8, t9] ∧ Src2 M' p, ⟨_, _, _, _, _, _, rfl, s3⟩, ?_, ?_⟩
    · rintro j x sl M4 hx ⟨t2, t5, t6, t7, t8, t9, rfl, s4⟩
      refine seq_cut (fun sl M' => ∃ (env : Env) (t2 t5 t7 t8 t9 : Option DV), sl = [some (.scr ns), some (.raw (.ref p)), t2, some (.d (.list (names.map PyData.str))), some (.d e.d), t5, some (.d (envD env)), t7, t8, t9] ∧ env.map (·.1) = names ∧ (∀ q ∈ env, -9 ≤ q.2 ∧ q.2 ≤ 9) ∧ Src2 M' p) (fun N hN => ?_) ?_
      · unfold dSet dCall dCons
        refine e_cut (t := dLc _ _ _ _ _) (fun x M' => ∃ env : Env, x = .d (.list (env.map pairD)) ∧ env.map (·.1) = names ∧ (∀ q ∈ env, -9 ≤ q.2 ∧ q.2 ≤ 9) ∧ Src2 M' p) (fun N' hN' => ?_) ?_
        · refine lc_ati (items := (names.map PyData.str).map DV.d) (at_src2 p) (fun i y => ∃ x v, names[i]? = some x ∧ y = .tuple [.str x, .int v] ∧ -9 ≤ v ∧ v ≤ 9) (by rw [List.length_map, List.length_map]; omega) s4 ?_ ?_
          · intro i x hx M' N2 Z hS' hN2
            obtain ⟨d, hd, rfl⟩ := map_get hx
            rw [List.getElem?_map] at hd
            cases en : names[i]? with
            | none => rw [en] at hd; cases hd
            | some nm =>
              rw [en] at hd
              cases hd
              refine ⟨p, 19, rfl, by decide, by decide, hS', fun v M5 v0 v1 k5 s5 => disp ?_⟩
              exact hN2 _ _ ⟨nm, v - 9, en, rfl, by omega, by omega⟩ k5 s5
          · intro ys M5 hyl hy k5 s5
            rw [List.length_map, List.length_map] at hyl
            obtain ⟨env, e1, e2, e3⟩ := env_of names ys hyl hy
            exact hN' _ _ ⟨env, by rw [e2], e1, e3, s5⟩
        · rintro x M' ⟨env, rfl, e1, e3, s5⟩
          refine optP_of (pairs_env env) ⟨?_, ?_⟩
          · rw [List.map_map]
            have : (env.map ((fun x => x.1) ∘ fun p => ((Sum.inr p.1 : Key), PyData.int p.2))) = (env.map (·.1)).map Sum.inr := by rw [List.map_map]; rfl
            rw [this, e1]
            exact List.Pairwise.map Sum.inr (fun a b h e => h (Sum.inr.inj e)) hnd
          · rw [keyKv]
            exact hN _ _ ⟨env, _, _, _, _, _, rfl, e1, e3, s5⟩
      rintro sl M5 ⟨env, t2, t5, t7, t8, t9, rfl, e1, e3, s5⟩
      have hsm : Small env := fun q hq => by
        have := e3 q hq
        show q.2.natAbs < 2 ^ 20
        omega
      have hlen : env.length ≤ 3 := by rw [← List.length_map (f := (·.1)), e1]; exact hnm
      have hok : ∀ q ∈ env, q.1 ∈ nm3 ∧ -9 ≤ q.2 ∧ q.2 ≤ 9 := fun q hq => ⟨hin q.1 (by rw [← e1]; exact List.mem_map.mpr ⟨q, hq, rfl⟩), e3 q hq⟩
      obtain ⟨o1, o2, o3, o4⟩ := okEnv hlen hok
      have eo' : e.ok (env.map (·.1)) := by rw [e1]; exact eo
      refine sq ⟨o1, o2, o3, o4, ?_⟩
      refine sq ⟨e, env, rfl, by omega, by decide, eo', hsm, ?_⟩
      refine ⟨e, env, rfl, by omega, by decide, eo', hsm, ⟨_, rfl, okVal eo' hsm (by omega), if_no rfl ⟨o1, o2, o3, o4, ?_⟩⟩⟩
      show if (!decide ((envD env).shown = (envD env).shown)) = true then _ else _
      rw [decide_eq_true rfl]
      exact ⟨_, _, _, _, _, _, rfl, s5⟩
    · rintro sl M4 ⟨t2, t5, t6, t7, t8, t9, rfl, s4⟩
      exact ⟨_, _, _, _, _, _, _, _, rfl, s4⟩
  · rintro sl M' ⟨t2, t3, t4, t5, t6, t7, t8, t9, rfl, hS⟩
    exact h M'
theorem ok_law {P : Program} {w : World} {K : PySem.W.Frag} {mg : Str → Option Value} {base : Heap} {dV : Value} {f : Addr} {fd : FuncData} (F : FunA K "law" "law" s_law dV f fd) (D__law_source : Def P w K mg base "_law_source" 1 sp__law_source) (D__law_pick : Def P w K mg base "_law_pick" 2 sp__law_pick) (D__law_expression : Def P w K mg base "_law_expression" 12 (sp__law_expression 8)) (D_evaluate : Def P w K mg base "evaluate" 10 (sp_evaluate 8)) (D__law_equal : Def P w K mg base "_law_equal" 1 sp__law_equal) (D__law_value : Def P w K mg base "_law_value" 10 (sp__law_value 8)) (b_range : mg "range" = none) (b_dict : mg "dict" = none) (b_repr : mg "repr" = none) : FnG P w K mg base CX0 13 f fd ["script"] (liftSp K sp_law) :=
  F.data sc_law len_law t_law (fun cdv A outer s H E hg hr =>
    (dss_cons (ds_set (i := 1) sc_law.nd rfl (by first | exact Or.inl rfl | exact Or.inr rfl) (D__law_source.de hg (hr.mono (by decide)) (by rfl) (da_cons (de_var 0) da_nil)))
      (dss_cons (ds_for PassesOwn.never rfl (di_range1 (by rfl) b_range (da_cons de_int da_nil)) (dg_name (i := 2) sc_law.nd rfl (by first | exact Or.inl rfl | exact Or.inr rfl)) (dss_cons (ds_set (i := 3) sc_law.nd rfl (by first | exact Or.inl rfl | exact Or.inr rfl) (de_slice (de_lst (da_cons de_str (da_cons de_str (da_cons de_str da_nil)))) do_none (do_some (de_op od_add de_int (D__law_pick.de hg (hr.mono (by decide)) (by rfl) (da_cons (de_var 1) (da_cons de_int da_nil)))))))
      (dss_cons (ds_set (i := 4) sc_law.nd rfl (by first | exact Or.inl rfl | exact Or.inr rfl) (D__law_expression.de hg (hr.mono (by decide)) (by rfl) (da_cons (de_var 1) (da_cons (de_var 3) (da_cons (de_op od_add de_int (D__law_pick.de hg (hr.mono (by decide)) (by rfl) (da_cons (de_var 1) (da_cons de_int da_nil)))) da_nil)))))
      (dss_one (ds_for PassesOwn.never rfl (di_range1 (by rfl) b_range (da_cons de_int da_nil)) (dg_name (i := 5) sc_law.nd rfl (by first | exact Or.inl rfl | exact Or.inr rfl)) (dss_cons (ds_set (i := 6) sc_law.nd rfl (by first | exact Or.inl rfl | exact Or.inr rfl) (de_callTy (cd_dict rfl) (by rfl) b_dict (by decide +kernel) (da_cons (de_lc (own := [("name", 7)]) rfl sc_law.nd (di_seq (de_var 3)) (blkOk_by (own := [("name", 7)]) (N := N_law) (sc := defScope s_law) (by decide +kernel)) (fun _ _ _ _ _ => (dg_name (i := 7) sc_law.nd rfl (by first | exact Or.inl rfl | exact Or.inr rfl))) (fun _ _ _ _ _ => dts_nil) (fun _ _ _ _ _ => (de_tup (da_cons (de_var 7) (da_cons (de_op od_sub (D__law_pick.de hg (hr.mono (by decide)) (by rfl) (da_cons (de_var 1) (da_cons de_int da_nil))) de_int) da_nil)))) (by decide)) da_nil)))
      (dss_cons (ds_set (i := 8) sc_law.nd rfl (by first | exact Or.inl rfl | exact Or.inr rfl) (de_callB (cd_repr hr hg) (by rfl) b_repr (by decide +kernel) (da_cons (de_var 6) da_nil)))
      (dss_cons (ds_set (i := 9) sc_law.nd rfl (by first | exact Or.inl rfl | exact Or.inr rfl) (D_evaluate.de hg (hr.mono (by decide)) (by rfl) (da_cons (de_var 4) (da_cons (de_var 6) da_nil))))
      (dss_one (ds_if (dt_w (dw_or (dt_not (dt_val (D__law_equal.de hg (hr.mono (by decide)) (by rfl) (da_cons (de_var 9) (da_cons (D__law_value.de hg (hr.mono (by decide)) (by rfl) (da_cons (de_var 4) (da_cons (de_var 6) da_nil))) da_nil))))) (dw_or1 (dt_cmp (od_ne hr) (de_callB (cd_repr hr hg) (by rfl) b_repr (by decide +kernel) (da_cons (de_var 6) da_nil)) (de_var 8) (nomark _))))) (dss_one (ds_ret de_bl)) dss_nil))))))))))
      (dss_one (ds_ret de_bl))))) pure_law
theorem all_mk {P : Program} {w : World} {K : PySem.W.Frag} {h : Heap} {mg : Str → Option Value} {fa : Addr} (X : K.In h) (G : h.Ns mainGlobals mg) (hfa : mg "law" = some (.ref fa))
    {f0 : Addr} {od0 an0 : Option Addr} {sl0 : Array (Option Value)} {oc0 kV0 dc0 pm0 cd0 ct0 : Value}
    {f1 : Addr} {od1 an1 : Option Addr} {sl1 : Array (Option Value)} {oc1 kV1 dc1 pm1 cd1 ct1 : Value}
    {f2 : Addr} {od2 an2 : Option Addr} {sl2 : Array (Option Value)} {oc2 kV2 dc2 pm2 cd2 ct2 : Value}
    {f3 : Addr} {od3 an3 : Option Addr} {sl3 : Array (Option Value)} {oc3 kV3 dc3 pm3 cd3 ct3 : Value}
    {f4 : Addr} {od4 an4 : Option Addr} {sl4 : Array (Option Value)} {oc4 kV4 dc4 pm4 cd4 ct4 : Value}
    {f5 : Addr} {od5 an5 : Option Addr} {sl5 : Array (Option Value)} {oc5 kV5 dc5 pm5 cd5 ct5 : Value}
    {f6 : Addr} {od6 an6 : Option Addr} {sl6 : Array (Option Value)} {oc6 kV6 dc6 pm6 cd6 ct6 : Value}
    {f7 : Addr} {od7 an7 : Option Addr} {sl7 : Array (Option Value)} {oc7 kV7 dc7 pm7 cd7 ct7 : Value}
    {f8 : Addr} {od8 an8 : Option Addr} {sl8 : Array (Option Value)} {oc8 kV8 dc8 pm8 cd8 ct8 : Value}
    {f9 : Addr} {od9 an9 : Option Addr} {sl9 : Array (Option Value)} {oc9 kV9 dc9 pm9 cd9 ct9 : Value}
    {f10 : Addr} {od10 an10 : Option Addr} {sl10 : Array (Option Value)} {oc10 kV10 dc10 pm10 cd10 ct10 : Value}
    {f11 : Addr} {od11 an11 : Option Addr} {sl11 : Array (Option Value)} {oc11 kV11 dc11 pm11 cd11 ct11 : Value}
    {y_COMPARISONS_p : Addr} {y_COMPARISONS_d : Option Addr} {y_COMPARISONS_n : Nat} {y_COMPARISONS_s : Array (Option Value)} {y_COMPARISONS_t0 y_COMPARISONS_t1 y_COMPARISONS_t2 y_COMPARISONS_t3 y_COMPARISONS_t4 y_COMPARISONS_t5 : Tok}
    (a0 : PySem.W.nsIn K mainGlobals "_law_source" = some (some (.ref f0)))
    (l0 : K.lookup f0 = some ⟨oc0, od0, .func (PySem.W.fnOf "_law_source" "_law_source" (defArgs s__law_source) (defBody s__law_source) (defScope s__law_source) .none kV0 dc0 pm0 an0 cd0 ct0), sl0⟩)
    (c0 : PySem.W.codeIn K cd0 "_law_source" = true)
    (k0 : PySem.W.keepIn K (.ref f0) = true)
    (a1 : PySem.W.nsIn K mainGlobals "_law_mixed" = some (some (.ref f1)))
    (l1 : K.lookup f1 = some ⟨oc1, od1, .func (PySem.W.fnOf "_law_mixed" "_law_mixed" (defArgs s__law_mixed) (defBody s__law_mixed) (defScope s__law_mixed) .none kV1 dc1 pm1 an1 cd1 ct1), sl1⟩)
    (c1 : PySem.W.codeIn K cd1 "_law_mixed" = true)
    (k1 : PySem.W.keepIn K (.ref f1) = true)
    (a2 : PySem.W.nsIn K mainGlobals "_law_pick" = some (some (.ref f2)))
    (l2 : K.lookup f2 = some ⟨oc2, od2, .func (PySem.W.fnOf "_law_pick" "_law_pick" (defArgs s__law_pick) (defBody s__law_pick) (defScope s__law_pick) .none kV2 dc2 pm2 an2 cd2 ct2), sl2⟩)
    (c2 : PySem.W.codeIn K cd2 "_law_pick" = true)
    (k2 : PySem.W.keepIn K (.ref f2) = true)
    (a3 : PySem.W.nsIn K mainGlobals "_law_choose" = some (some (.ref f3)))
    (l3 : K.lookup f3 = some ⟨oc3, od3, .func (PySem.W.fnOf "_law_choose" "_law_choose" (defArgs s__law_choose) (defBody s__law_choose) (defScope s__law_choose) .none kV3 dc3 pm3 an3 cd3 ct3), sl3⟩)
    (c3 : PySem.W.codeIn K cd3 "_law_choose" = true)
    (k3 : PySem.W.keepIn K (.ref f3) = true)
    (a4 : PySem.W.nsIn K mainGlobals "_law_expression" = some (some (.ref f4)))
    (l4 : K.lookup f4 = some ⟨oc4, od4, .func (PySem.W.fnOf "_law_expression" "_law_expression" (defArgs s__law_expression) (defBody s__law_expression) (defScope s__law_expression) .none kV4 dc4 pm4 an4 cd4 ct4), sl4⟩)
    (c4 : PySem.W.codeIn K cd4 "_law_expression" = true)
    (k4 : PySem.W.keepIn K (.ref f4) = true)
    (a5 : PySem.W.nsIn K mainGlobals "compare_values" = some (some (.ref f5)))
    (l5 : K.lookup f5 = some ⟨oc5, od5, .func (PySem.W.fnOf "compare_values" "compare_values" (defArgs s_compare_values) (defBody s_compare_values) (defScope s_compare_values) .none kV5 dc5 pm5 an5 cd5 ct5), sl5⟩)
    (c5 : PySem.W.codeIn K cd5 "compare_values" = true)
    (k5 : PySem.W.keepIn K (.ref f5) = true)
    (a6 : PySem.W.nsIn K mainGlobals "arithmetic" = some (some (.ref f6)))
    (l6 : K.lookup f6 = some ⟨oc6, od6, .func (PySem.W.fnOf "arithmetic" "arithmetic" (defArgs s_arithmetic) (defBody s_arithmetic) (defScope s_arithmetic) .none kV6 dc6 pm6 an6 cd6 ct6), sl6⟩)
    (c6 : PySem.W.codeIn K cd6 "arithmetic" = true)
    (k6 : PySem.W.keepIn K (.ref f6) = true)
    (a7 : PySem.W.nsIn K mainGlobals "evaluate" = some (some (.ref f7)))
    (l7 : K.lookup f7 = some ⟨oc7, od7, .func (PySem.W.fnOf "evaluate" "evaluate" (defArgs s_evaluate) (defBody s_evaluate) (defScope s_evaluate) .none kV7 dc7 pm7 an7 cd7 ct7), sl7⟩)
    (c7 : PySem.W.codeIn K cd7 "evaluate" = true)
    (k7 : PySem.W.keepIn K (.ref f7) = true)
    (a8 : PySem.W.nsIn K mainGlobals "_law_equal" = some (some (.ref f8)))
    (l8 : K.lookup f8 = some ⟨oc8, od8, .func (PySem.W.fnOf "_law_equal" "_law_equal" (defArgs s__law_equal) (defBody s__law_equal) (defScope s__law_equal) .none kV8 dc8 pm8 an8 cd8 ct8), sl8⟩)
    (c8 : PySem.W.codeIn K cd8 "_law_equal" = true)
    (k8 : PySem.W.keepIn K (.ref f8) = true)
    (a9 : PySem.W.nsIn K mainGlobals "_law_two" = some (some (.ref f9)))
    (l9 : K.lookup f9 = some ⟨oc9, od9, .func (PySem.W.fnOf "_law_two" "_law_two" (defArgs s__law_two) (defBody s__law_two) (defScope s__law_two) .none kV9 dc9 pm9 an9 cd9 ct9), sl9⟩)
    (c9 : PySem.W.codeIn K cd9 "_law_two" = true)
    (k9 : PySem.W.keepIn K (.ref f9) = true)
    (a10 : PySem.W.nsIn K mainGlobals "_law_value" = some (some (.ref f10)))
    (l10 : K.lookup f10 = some ⟨oc10, od10, .func (PySem.W.fnOf "_law_value" "_law_value" (defArgs s__law_value) (defBody s__law_value) (defScope s__law_value) .none kV10 dc10 pm10 an10 cd10 ct10), sl10⟩)
    (c10 : PySem.W.codeIn K cd10 "_law_value" = true)
    (k10 : PySem.W.keepIn K (.ref f10) = true)
    (a11 : PySem.W.nsIn K mainGlobals "law" = some (some (.ref f11)))
    (l11 : K.lookup f11 = some ⟨oc11, od11, .func (PySem.W.fnOf "law" "law" (defArgs s_law) (defBody s_law) (defScope s_law) .none kV11 dc11 pm11 an11 cd11 ct11), sl11⟩)
    (c11 : PySem.W.codeIn K cd11 "law" = true)
    (k11 : PySem.W.keepIn K (.ref f11) = true)
    (z_abs : PySem.W.nsIn K mainGlobals "abs" = some none)
    (z_enumerate : PySem.W.nsIn K mainGlobals "enumerate" = some none)
    (z_range : PySem.W.nsIn K mainGlobals "range" = some none)
    (z_len : PySem.W.nsIn K mainGlobals "len" = some none)
    (z_min : PySem.W.nsIn K mainGlobals "min" = some none)
    (z_max : PySem.W.nsIn K mainGlobals "max" = some none)
    (z_int : PySem.W.nsIn K mainGlobals "int" = some none)
    (z_all : PySem.W.nsIn K mainGlobals "all" = some none)
    (z_any : PySem.W.nsIn K mainGlobals "any" = some none)
    (z_repr : PySem.W.nsIn K mainGlobals "repr" = some none)
    (z_sorted : PySem.W.nsIn K mainGlobals "sorted" = some none)
    (z_dict : PySem.W.nsIn K mainGlobals "dict" = some none)
    (y_COMPARISONS_a : PySem.W.nsIn K mainGlobals "COMPARISONS" = some (some (.ref y_COMPARISONS_p))) (y_COMPARISONS_l : K.lookup y_COMPARISONS_p = some ⟨.type "tuple", y_COMPARISONS_d, .seq #[.str "=" y_COMPARISONS_t0, .str "!=" y_COMPARISONS_t1, .str "<" y_COMPARISONS_t2, .str "<=" y_COMPARISONS_t3, .str ">" y_COMPARISONS_t4, .str ">=" y_COMPARISONS_t5] y_COMPARISONS_n, y_COMPARISONS_s⟩)
    : ∃ fd : FuncData, (∀ (s : Shared) (u : Value), BindsTo s fd ⟨[u], []⟩ [("script", u)]) ∧ ∀ base : Heap, K.In base → base.Ns mainGlobals mg → FnG P w K mg base CX0 13 fa fd ["script"] (liftSp K sp_law) := by
  have e := hfa.symm.trans (PySem.W.mg_of X G a11)
  cases e
  have b_abs := PySem.W.mg_none_of X G z_abs
  have b_enumerate := PySem.W.mg_none_of X G z_enumerate
  have b_range := PySem.W.mg_none_of X G z_range
  have b_len := PySem.W.mg_none_of X G z_len
  have b_min := PySem.W.mg_none_of X G z_min
  have b_max := PySem.W.mg_none_of X G z_max
  have b_int := PySem.W.mg_none_of X G z_int
  have b_all := PySem.W.mg_none_of X G z_all
  have b_any := PySem.W.mg_none_of X G z_any
  have b_repr := PySem.W.mg_none_of X G z_repr
  have b_sorted := PySem.W.mg_none_of X G z_sorted
  have b_dict := PySem.W.mg_none_of X G z_dict
  have g_COMPARISONS : Glb K mg "COMPARISONS" c_COMPARISONS := ⟨⟨.ref y_COMPARISONS_p, .ref y_COMPARISONS_p, PySem.W.mg_of X G y_COMPARISONS_a, rfl, fun _ => .tup (xs := [.str "=", .str "!=", .str "<", .str "<=", .str ">", .str ">="]) (.inr ⟨_, _, _, y_COMPARISONS_l, rfl, rfl, by show 6 ≤ sizeLine; decide, (.cons ⟨_, rfl⟩ (.cons ⟨_, rfl⟩ (.cons ⟨_, rfl⟩ (.cons ⟨_, rfl⟩ (.cons ⟨_, rfl⟩ (.cons ⟨_, rfl⟩ .nil))))))⟩) (.cons (.str _) (.cons (.str _) (.cons (.str _) (.cons (.str _) (.cons (.str _) (.cons (.str _) .nil))))))⟩⟩
  have F0 := funA_mk (st := s__law_source) l0 c0 k0
  have F1 := funA_mk (st := s__law_mixed) l1 c1 k1
  have F2 := funA_mk (st := s__law_pick) l2 c2 k2
  have F3 := funA_mk (st := s__law_choose) l3 c3 k3
  have F4 := funA_mk (st := s__law_expression) l4 c4 k4
  have F5 := funA_mk (st := s_compare_values) l5 c5 k5
  have F6 := funA_mk (st := s_arithmetic) l6 c6 k6
  have F7 := funA_mk (st := s_evaluate) l7 c7 k7
  have F8 := funA_mk (st := s__law_equal) l8 c8 k8
  have F9 := funA_mk (st := s__law_two) l9 c9 k9
  have F10 := funA_mk (st := s__law_value) l10 c10 k10
  have F11 := funA_mk (st := s_law) l11 c11 k11
  refine ⟨PySem.W.fnOf "law" "law" (defArgs s_law) (defBody s_law) (defScope s_law) .none kV11 dc11 pm11 an11 cd11 ct11, fun s u => .of_eq rfl, fun base _ _ => ?_⟩
  have G__law_source := ok__law_source (P := P) (w := w) (mg := mg) (base := base) F0 b_abs b_enumerate
  have D__law_source : Def P w K mg base "_law_source" 1 sp__law_source := .of G__law_source (PySem.W.mg_of X G a0) F0.kp (F0.binds fun _ _ _ _ _ _ us hl => match us, hl with | [_], _ => rfl)
  have G__law_mixed := ok__law_mixed (P := P) (w := w) (mg := mg) (base := base) F1 b_range
  have D__law_mixed : Def P w K mg base "_law_mixed" 1 sp__law_mixed := .of G__law_mixed (PySem.W.mg_of X G a1) F1.kp (F1.binds fun _ _ _ _ _ _ us hl => match us, hl with | [_, _], _ => rfl)
  have G__law_pick := ok__law_pick (P := P) (w := w) (mg := mg) (base := base) F2 D__law_mixed b_len
  have D__law_pick : Def P w K mg base "_law_pick" 2 sp__law_pick := .of G__law_pick (PySem.W.mg_of X G a2) F2.kp (F2.binds fun _ _ _ _ _ _ us hl => match us, hl with | [_, _], _ => rfl)
  have G__law_choose := ok__law_choose (P := P) (w := w) (mg := mg) (base := base) F3 D__law_pick b_len
  have D__law_choose : Def P w K mg base "_law_choose" 3 sp__law_choose := .of G__law_choose (PySem.W.mg_of X G a3) F3.kp (F3.binds fun _ _ _ _ _ _ us hl => match us, hl with | [_, _], _ => rfl)
  have G__law_expression : ∀ n, FnG P w K mg base CX0 (4 + n) f4 (PySem.W.fnOf "_law_expression" "_law_expression" (defArgs s__law_expression) (defBody s__law_expression) (defScope s__law_expression) .none kV4 dc4 pm4 an4 cd4 ct4) ["source", "names", "depth"] (liftSp K (sp__law_expression n)) := by
    intro n
    induction n with
    | zero => exact fnG_none fun vs H Q E h => (by obtain ⟨xs, M, R, _, _, h, _⟩ := h; exact none__law_expression xs M R h)
    | succ n ih => exact ok__law_expression n (P := P) (w := w) (mg := mg) (base := base) F4 D__law_pick D__law_choose (.of ih (PySem.W.mg_of X G a4) F4.kp (F4.binds fun _ _ _ _ _ _ us hl => match us, hl with | [_, _, _], _ => rfl)) b_range
  have D__law_expression : Def P w K mg base "_law_expression" 12 (sp__law_expression 8) := .of (G__law_expression 8) (PySem.W.mg_of X G a4) F4.kp (F4.binds fun _ _ _ _ _ _ us hl => match us, hl with | [_, _, _], _ => rfl)
  have G_compare_values := ok_compare_values (P := P) (w := w) (mg := mg) (base := base) F5 
  have D_compare_values : Def P w K mg base "compare_values" 1 sp_compare_values := .of G_compare_values (PySem.W.mg_of X G a5) F5.kp (F5.binds fun _ _ _ _ _ _ us hl => match us, hl with | [_, _, _], _ => rfl)
  have G_arithmetic := ok_arithmetic (P := P) (w := w) (mg := mg) (base := base) F6 b_min b_max
  have D_arithmetic : Def P w K mg base "arithmetic" 1 sp_arithmetic := .of G_arithmetic (PySem.W.mg_of X G a6) F6.kp (F6.binds fun _ _ _ _ _ _ us hl => match us, hl with | [_, _, _], _ => rfl)
  have G_evaluate : ∀ n, FnG P w K mg base CX0 (2 + n) f7 (PySem.W.fnOf "evaluate" "evaluate" (defArgs s_evaluate) (defBody s_evaluate) (defScope s_evaluate) .none kV7 dc7 pm7 an7 cd7 ct7) ["expression", "values"] (liftSp K (sp_evaluate n)) := by
    intro n
    induction n with
    | zero => exact fnG_none fun vs H Q E h => (by obtain ⟨xs, M, R, _, _, h, _⟩ := h; exact none_evaluate xs M R h)
    | succ n ih => exact ok_evaluate n (P := P) (w := w) (mg := mg) (base := base) F7 (.of ih (PySem.W.mg_of X G a7) F7.kp (F7.binds fun _ _ _ _ _ _ us hl => match us, hl with | [_, _], _ => rfl)) D_compare_values D_arithmetic b_int b_all b_any g_COMPARISONS
  have D_evaluate : Def P w K mg base "evaluate" 10 (sp_evaluate 8) := .of (G_evaluate 8) (PySem.W.mg_of X G a7) F7.kp (F7.binds fun _ _ _ _ _ _ us hl => match us, hl with | [_, _], _ => rfl)
  have G__law_equal := ok__law_equal (P := P) (w := w) (mg := mg) (base := base) F8 b_repr
  have D__law_equal : Def P w K mg base "_law_equal" 1 sp__law_equal := .of G__law_equal (PySem.W.mg_of X G a8) F8.kp (F8.binds fun _ _ _ _ _ _ us hl => match us, hl with | [_, _], _ => rfl)
  have G__law_two := ok__law_two (P := P) (w := w) (mg := mg) (base := base) F9 b_min b_int b_max b_sorted
  have D__law_two : Def P w K mg base "_law_two" 1 sp__law_two := .of G__law_two (PySem.W.mg_of X G a9) F9.kp (F9.binds fun _ _ _ _ _ _ us hl => match us, hl with | [_, _, _], _ => rfl)
  have G__law_value : ∀ n, FnG P w K mg base CX0 (2 + n) f10 (PySem.W.fnOf "_law_value" "_law_value" (defArgs s__law_value) (defBody s__law_value) (defScope s__law_value) .none kV10 dc10 pm10 an10 cd10 ct10) ["expression", "values"] (liftSp K (sp__law_value n)) := by
    intro n
    induction n with
    | zero => exact fnG_none fun vs H Q E h => (by obtain ⟨xs, M, R, _, _, h, _⟩ := h; exact none__law_value xs M R h)
    | succ n ih => exact ok__law_value n (P := P) (w := w) (mg := mg) (base := base) F10 (.of ih (PySem.W.mg_of X G a10) F10.kp (F10.binds fun _ _ _ _ _ _ us hl => match us, hl with | [_, _], _ => rfl)) D__law_two b_int
  have D__law_value : Def P w K mg base "_law_value" 10 (sp__law_value 8) := .of (G__law_value 8) (PySem.W.mg_of X G a10) F10.kp (F10.binds fun _ _ _ _ _ _ us hl => match us, hl with | [_, _], _ => rfl)
  exact ok_law F11 D__law_source D__law_pick D__law_expression D_evaluate D__law_equal D__law_value b_range b_dict b_repr
end Law
open PySem PySem.W PyProof.Rows
set_option maxHeartbeats 0 in
theorem PySem.Challenge.cw_limitrun_k15_values_of_expressions_holds : PySem.Challenge.rw_limitrun_k15_values_of_expressions.Holds := by
  w_on; o_law; k_head; (case hw => w_witness2)
  k_fill
  refine DL.walk_data (l := PySem.Challenge.rw_limitrun_k15_values_of_expressions) (n := 63) (k := 13) (x := "script") (CX := L2.CX0) (sp := fun K => DL.liftSp K Law.sp_law) rfl (by decide) rfl ⟨rfl, by decide, by decide⟩ (fun w h Y => PySem.W.kIn_of Y) ?F (fun K H a ns hl hS => DL.law_start Law.law_says hl hS) (fun _ _ _ _ h => h)
  case F =>
    intro w mg fa h KX G hmg
    refine' Law.all_mk KX G hmg ?a0 ?l0 ?c0 ?k0 ?a1 ?l1 ?c1 ?k1 ?a2 ?l2 ?c2 ?k2 ?a3 ?l3 ?c3 ?k3 ?a4 ?l4 ?c4 ?k4 ?a5 ?l5 ?c5 ?k5 ?a6 ?l6 ?c6 ?k6 ?a7 ?l7 ?c7 ?k7 ?a8 ?l8 ?c8 ?k8 ?a9 ?l9 ?c9 ?k9 ?a10 ?l10 ?c10 ?k10 ?a11 ?l11 ?c11 ?k11 ?z_abs ?z_enumerate ?z_range ?z_len ?z_min ?z_max ?z_int ?z_all ?z_any ?z_repr ?z_sorted ?z_dict ?y_COMPARISONS_a ?y_COMPARISONS_l
    (case a0 => k_is)
    (case l0 => k_is)
    (case c0 => k_is)
    (case k0 => k_is)
    (case a1 => k_is)
    (case l1 => k_is)
    (case c1 => k_is)
    (case k1 => k_is)
    (case a2 => k_is)
    (case l2 => k_is)
    (case c2 => k_is)
    (case k2 => k_is)
    (case a3 => k_is)
    (case l3 => k_is)
    (case c3 => k_is)
    (case k3 => k_is)
    (case a4 => k_is)
    (case l4 => k_is)
    (case c4 => k_is)
    (case k4 => k_is)
    (case a5 => k_is)
    (case l5 => k_is)
    (case c5 => k_is)
    (case k5 => k_is)
    (case a6 => k_is)
    (case l6 => k_is)
    (case c6 => k_is)
    (case k6 => k_is)
    (case a7 => k_is)
    (case l7 => k_is)
    (case c7 => k_is)
    (case k7 => k_is)
    (case a8 => k_is)
    (case l8 => k_is)
    (case c8 => k_is)
    (case k8 => k_is)
    (case a9 => k_is)
    (case l9 => k_is)
    (case c9 => k_is)
    (case k9 => k_is)
    (case a10 => k_is)
    (case l10 => k_is)
    (case c10 => k_is)
    (case k10 => k_is)
    (case a11 => k_is)
    (case l11 => k_is)
    (case c11 => k_is)
    (case k11 => k_is)
    (case z_abs => k_is)
    (case z_enumerate => k_is)
    (case z_range => k_is)
    (case z_len => k_is)
    (case z_min => k_is)
    (case z_max => k_is)
    (case z_int => k_is)
    (case z_all => k_is)
    (case z_any => k_is)
    (case z_repr => k_is)
    (case z_sorted => k_is)
    (case z_dict => k_is)
    (case y_COMPARISONS_a => k_is)
    (case y_COMPARISONS_l => k_is)
#print axioms PySem.Challenge.cw_limitrun_k15_values_of_expressions_holds
