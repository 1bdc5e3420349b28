import PyProof.Rows.All
import Wide.All
import OpenK.AllK
import Wide.FinOn
import HandS.ForMost
import HandS.TupAny
import HandS.TupLe
import HandS.TupMul
import HandS.Wide
import HandS.RaiseMore
import HandS.Flow
import HandS.Dict
import HandS.Exc
import PyProof.ReprRoads
import KE.DataEq
import KE.LtData
import KE.DataCmp
import KE.DataMinMax
import KE.DataIsa
import HandS.Walk
import KE.GoesMore
import HandS.Defaults
import KE.SortData
import HandS.FStrTup
import PyProof.CollectIter
import PyProof.Rows.TupIter
import PyProof.WalksMore
import HandS.ExcValue
import HandS.ExcOwn
import HandS.SortInts
import KE.GoesNew
import KE.KDictZip
import HandS.Style
import HandS.DictComp
import HandS.Zip
import HandS.TupSets
import PyProof.ReprBulk
import PySem.Challenge.RW_limitrun_k16_states_and_steps
set_option Elab.async false
set_option linter.all false
set_option maxRecDepth 100000
set_option maxHeartbeats 4000000
/-! The data layer: immutable data as trees (PyData), the call's own mutable lists in a memory of their own; readings over both. -/
namespace DL
open PySem PySem.Spec PyProof.Rows L2

/-- a value: data, or something that is kept as it stands (the address of an owned list, of a class ..) -/
inductive DV where
  | d (x : PyData) | raw (v : V)
  /-- a list of ints that is read alone (the script) -/
  | scr (ns : List Int)
  /-- an error that is kept: its class's name, its fields -/
  | err (n : Str) (fs : List (Str × PyData))
  /-- a pair that an iterator gives out -/
  | pr (x y : DV)
/-- what an owned address holds -/
inductive MO where
  | lst (xs : List DV)
  /-- a dict whose keys are ints and texts -/
  | dk (kvs : List (Key × DV))
abbrev Mem := Addr → Option MO
def hide (H : Hp) (M : Mem) : Hp := fun a => if (M a).isSome then none else H a
def updM (M : Mem) (a : Addr) (o : MO) : Mem := fun b => if b = a then some o else M b
def delM (M : Mem) (a : Addr) : Mem := fun b => if b = a then none else M b
theorem updM_same {M : Mem} {a : Addr} {o : MO} : updM M a o a = some o := by unfold updM; rw [if_pos rfl]
theorem updM_ne {M : Mem} {a b : Addr} {o : MO} (h : b ≠ a) : updM M a o b = M b := by unfold updM; rw [if_neg h]
theorem updM_upd {M : Mem} {a : Addr} {o u : MO} : updM (updM M a o) a u = updM M a u := by
  funext b; unfold updM; split <;> rfl

def Sub (H H' : Hp) : Prop := ∀ a o, H a = some o → H' a = some o
theorem Sub.refl (H : Hp) : Sub H H := fun _ _ h => h
theorem Sub.trans {A B C : Hp} (h : Sub A B) (k : Sub B C) : Sub A C := fun a o e => k a o (h a o e)
theorem hide_sub (H : Hp) (M : Mem) : Sub (hide H M) H := fun a o e => by
  unfold hide at e
  split at e
  · cases e
  · exact e
theorem hide_of {H : Hp} {M : Mem} {a : Addr} {o : HO} (e : H a = some o) (n : M a = none) : hide H M a = some o := by
  unfold hide
  rw [n]
  exact e
theorem hide_own {H : Hp} {M : Mem} {a : Addr} {o : HO} (e : hide H M a = some o) : M a = none := by
  unfold hide at e
  cases h : M a with
  | none => rfl
  | some z => rw [h] at e; cases e

/-- a key as data -/
def keyD : Key → PyData
  | .inl i => .int i
  | .inr x => .str x
/-- a tuple that is read: known to the object (it has no dict), or an object of the module -/
def SqP (K : PySem.W.Frag) (H : Hp) (a : Addr) (xs : List V) : Prop :=
  (∃ o : Obj, H a = some (.frz o (.tup xs)) ∧ o.dict = none) ∨
    ∃ (o : Obj) (its : Array Value) (n : Nat), K.lookup a = some o ∧ o.cls = .type "tuple" ∧ o.dict = none ∧ o.data = .seq its n ∧ its.size ≤ sizeLine ∧ Vals xs its.toList
theorem SqP.t {K : PySem.W.Frag} {H : Hp} {a : Addr} {xs : List V} (h : SqP K H a xs) : SqT K H a xs := by
  rcases h with ⟨o, e, _⟩ | ⟨o, its, n, e1, e2, _, e4, e5, e6⟩
  · exact .inl (.inr ⟨o, e⟩)
  · exact .inr ⟨o, its, n, e1, e2, e4, e5, e6⟩
theorem SqP.sub {K : PySem.W.Frag} {H H' : Hp} {a : Addr} {xs : List V} (s : Sub H H') (h : SqP K H a xs) : SqP K H' a xs := by
  rcases h with ⟨o, e, d⟩ | h
  · exact .inl ⟨o, s _ _ e, d⟩
  · exact .inr h
mutual
inductive RD (K : PySem.W.Frag) (H : Hp) : V → PyData → Prop
  | non : RD K H .non .none
  | bl (b : Bool) : RD K H (.bl b) (.bool b)
  | int (i : Int) : RD K H (.int i) (.int i)
  | str (x : Str) : RD K H (.str x) (.str x)
  | lst {a : Addr} {xs : List V} {ds : List PyData} : H a = some (.lst xs) → RDs K H xs ds → RD K H (.ref a) (.list ds)
  | tup {a : Addr} {xs : List V} {ds : List PyData} : SqP K H a xs → RDs K H xs ds → RD K H (.ref a) (.tuple ds)
  | dct {a : Addr} {kvs : List (Key × V)} {kds : List (PyData × PyData)} : H a = some (.dK kvs) → RKs K H kvs kds → RD K H (.ref a) (.dict kds)
inductive RKs (K : PySem.W.Frag) (H : Hp) : List (Key × V) → List (PyData × PyData) → Prop
  | nil : RKs K H [] []
  | cons {k : Key} {v : V} {kvs : List (Key × V)} {d : PyData} {kds : List (PyData × PyData)} : RD K H v d → RKs K H kvs kds → RKs K H ((k, v) :: kvs) ((keyD k, d) :: kds)
inductive RDs (K : PySem.W.Frag) (H : Hp) : List V → List PyData → Prop
  | nil : RDs K H [] []
  | cons {v : V} {vs : List V} {d : PyData} {ds : List PyData} : RD K H v d → RDs K H vs ds → RDs K H (v :: vs) (d :: ds)
end
theorem sqT_sub {K : PySem.W.Frag} {H H' : Hp} {a : Addr} {xs : List V} (e : Sub H H') (h : SqT K H a xs) : SqT K H' a xs := by
  rcases h with (h | ⟨o, h⟩) | h
  · exact .inl (.inl (e _ _ h))
  · exact .inl (.inr ⟨o, e _ _ h⟩)
  · exact .inr h
theorem sqL_sub {K : PySem.W.Frag} {H H' : Hp} {a : Addr} {xs : List V} (e : Sub H H') (h : SqL K H a xs) : SqL K H' a xs := by
  rcases h with (h | ⟨o, h⟩) | h
  · exact .inl (.inl (e _ _ h))
  · exact .inl (.inr ⟨o, e _ _ h⟩)
  · exact .inr h
mutual
theorem RD.sub {K : PySem.W.Frag} {H H' : Hp} (s : Sub H H') : ∀ {v : V} {d : PyData}, RD K H v d → RD K H' v d
  | _, _, .non => .non
  | _, _, .bl b => .bl b
  | _, _, .int b => .int b
  | _, _, .str b => .str b
  | _, _, .lst h r => .lst (s _ _ h) (RDs.sub s r)
  | _, _, .tup h r => .tup (h.sub s) (RDs.sub s r)
  | _, _, .dct h r => .dct (s _ _ h) (RKs.sub s r)
theorem RKs.sub {K : PySem.W.Frag} {H H' : Hp} (s : Sub H H') : ∀ {v : List (Key × V)} {d : List (PyData × PyData)}, RKs K H v d → RKs K H' v d
  | _, _, .nil => .nil
  | _, _, .cons h r => .cons (RD.sub s h) (RKs.sub s r)
theorem RDs.sub {K : PySem.W.Frag} {H H' : Hp} (s : Sub H H') : ∀ {v : List V} {d : List PyData}, RDs K H v d → RDs K H' v d
  | _, _, .nil => .nil
  | _, _, .cons h r => .cons (RD.sub s h) (RDs.sub s r)
end
theorem RDs.len {K : PySem.W.Frag} {H : Hp} : ∀ {v : List V} {d : List PyData}, RDs K H v d → v.length = d.length
  | _, _, .nil => rfl
  | _, _, .cons _ r => congrArg (· + 1) r.len
theorem RDs.append {K : PySem.W.Frag} {H : Hp} : ∀ {v v' : List V} {d d' : List PyData}, RDs K H v d → RDs K H v' d' → RDs K H (v ++ v') (d ++ d')
  | _, _, _, _, .nil, s => s
  | _, _, _, _, .cons h r, s => .cons h (r.append s)
theorem RDs.take {K : PySem.W.Frag} {H : Hp} : ∀ {v : List V} {d : List PyData} (n : Nat), RDs K H v d → RDs K H (v.take n) (d.take n)
  | _, _, 0, _ => .nil
  | _, _, _ + 1, .nil => .nil
  | _, _, n + 1, .cons h r => .cons h (r.take n)
theorem RDs.drop {K : PySem.W.Frag} {H : Hp} : ∀ {v : List V} {d : List PyData} (n : Nat), RDs K H v d → RDs K H (v.drop n) (d.drop n)
  | _, _, 0, r => r
  | _, _, _ + 1, .nil => .nil
  | _, _, n + 1, .cons _ r => r.drop n
theorem RDs.get {K : PySem.W.Frag} {H : Hp} : ∀ {v : List V} {d : List PyData} {i : Nat} {x : PyData}, RDs K H v d → d[i]? = some x → ∃ u, v[i]? = some u ∧ RD K H u x
  | _, _, _, _, .nil, e => by simp at e
  | _, _, 0, _, .cons h _, e => by simp at e; subst e; exact ⟨_, rfl, h⟩
  | _, _, i + 1, x, .cons _ r, e => by
    obtain ⟨u, h1, h2⟩ := RDs.get (i := i) (x := x) r (by simpa using e)
    exact ⟨u, by simpa using h1, h2⟩
theorem RDs.getV {K : PySem.W.Frag} {H : Hp} : ∀ {v : List V} {d : List PyData} {i : Nat} {u : V}, RDs K H v d → v[i]? = some u → ∃ x, d[i]? = some x ∧ RD K H u x
  | _, _, _, _, .nil, e => by simp at e
  | _, _, 0, _, .cons h _, e => by simp at e; subst e; exact ⟨_, rfl, h⟩
  | _, _, i + 1, x, .cons _ r, e => by
    obtain ⟨u, h1, h2⟩ := RDs.getV (i := i) (u := x) r (by simpa using e)
    exact ⟨u, by simpa using h1, h2⟩

/-- an error's object: its class, its dict -/
def excH (cls : Value) (d : Option Addr) (a : Addr) : HO := .ext fun h => ∃ (oe : Obj) (vs : Array Value), h.get? a = some oe ∧ Zc cls d oe ∧ oe.data = .fields vs
/-- an error's fields -/
def RF (K : PySem.W.Frag) (H : Hp) (d : Option Addr) (fs : List (Str × PyData)) : Prop := fs = [] ∨ ∃ dd vs, d = some dd ∧ H dd = some (.xd vs) ∧ ∀ p ∈ fs, ∃ v, vs.lookup p.1 = some v ∧ RD K H v p.2
theorem RF.sub {K : PySem.W.Frag} {H H' : Hp} (s : Sub H H') {d : Option Addr} {fs : List (Str × PyData)} (h : RF K H d fs) : RF K H' d fs := by
  rcases h with h | ⟨dd, vs, e, q, r⟩
  · exact .inl h
  · exact .inr ⟨dd, vs, e, s _ _ q, fun p hp => let ⟨v, l, z⟩ := r p hp; ⟨v, l, RD.sub s z⟩⟩
/-- a value stands for a data value -/
def RVd (K : PySem.W.Frag) (H : Hp) : DV → V → Prop
  | .d x, v => RD K H v x
  | .raw u, v => v = u
  | .pr x y, v => ∃ a v1 v2, v = .ref a ∧ SqT K H a [v1, v2] ∧ RVd K H x v1 ∧ RVd K H y v2
  | .scr ns, v => ∃ a, v = .ref a ∧ SqL K H a (ns.map V.int)
  | .err n fs, v => ∃ (a C : Addr) (d : Option Addr), v = .ref a ∧ PySem.W.nsIn K mainGlobals n = some (some (.ref C)) ∧ H a = some (excH (.ref C) d a) ∧ RF K H d fs
abbrev RV (K : PySem.W.Frag) (H : Hp) (v : V) (x : DV) : Prop := RVd K H x v
theorem RV.sub {K : PySem.W.Frag} {H H' : Hp} (s : Sub H H') {v : V} {x : DV} (h : RV K H v x) : RV K H' v x := by
  induction x generalizing v with
  | d x => exact RD.sub s h
  | raw u => exact h
  | pr x y ih1 ih2 =>
    obtain ⟨a, v1, v2, e, q, r1, r2⟩ := h
    exact ⟨a, v1, v2, e, sqT_sub s q, ih1 r1, ih2 r2⟩
  | scr ns =>
    obtain ⟨a, e, q⟩ := h
    exact ⟨a, e, sqL_sub s q⟩
  | err n fs =>
    obtain ⟨a, C, d, e, c, q, r⟩ := h
    exact ⟨a, C, d, e, c, s _ _ q, r.sub s⟩
abbrev RVs (K : PySem.W.Frag) (H : Hp) : List V → List DV → Prop := Paired (RV K H)
theorem RVs.sub {K : PySem.W.Frag} {H H' : Hp} (s : Sub H H') : ∀ {v : List V} {x : List DV}, RVs K H v x → RVs K H' v x
  | _, _, .nil => .nil
  | _, _, .cons h r => .cons (h.sub s) (RVs.sub s r)
theorem RVs.append {K : PySem.W.Frag} {H : Hp} : ∀ {v v' : List V} {d d' : List DV}, RVs K H v d → RVs K H v' d' → RVs K H (v ++ v') (d ++ d')
  | _, _, _, _, .nil, s => s
  | _, _, _, _, .cons h r, s => .cons h (RVs.append r s)
theorem RVs.get {K : PySem.W.Frag} {H : Hp} : ∀ {v : List V} {d : List DV} {i : Nat} {x : DV}, RVs K H v d → d[i]? = some x → ∃ u, v[i]? = some u ∧ RV K H u x
  | _, _, _, _, .nil, e => by simp at e
  | _, _, 0, _, .cons h _, e => by simp at e; subst e; exact ⟨_, rfl, h⟩
  | _, _, i + 1, x, .cons _ r, e => by
    obtain ⟨u, h1, h2⟩ := RVs.get (i := i) (x := x) r (by simpa using e)
    exact ⟨u, by simpa using h1, h2⟩
theorem RVs.getV {K : PySem.W.Frag} {H : Hp} : ∀ {v : List V} {d : List DV} {i : Nat} {u : V}, RVs K H v d → v[i]? = some u → ∃ x, d[i]? = some x ∧ RV K H u x
  | _, _, _, _, .nil, e => by simp at e
  | _, _, 0, _, .cons h _, e => by simp at e; subst e; exact ⟨_, rfl, h⟩
  | _, _, i + 1, x, .cons _ r, e => by
    obtain ⟨u, h1, h2⟩ := RVs.getV (i := i) (u := x) r (by simpa using e)
    exact ⟨u, by simpa using h1, h2⟩
theorem RVs.set {K : PySem.W.Frag} {H : Hp} {u : V} {x : DV} (h : RV K H u x) : ∀ {v : List V} {d : List DV} (i : Nat), RVs K H v d → RVs K H (v.set i u) (d.set i x)
  | _, _, _, .nil => .nil
  | _, _, 0, .cons _ r => .cons h r
  | _, _, i + 1, .cons q r => .cons q (RVs.set h i r)
theorem RVs.len {K : PySem.W.Frag} {H : Hp} {v : List V} {d : List DV} (r : RVs K H v d) : v.length = d.length := Paired.length r
/-- all data -/
theorem RVs.data {K : PySem.W.Frag} {H : Hp} : ∀ {v : List V} {ds : List PyData}, RVs K H v (ds.map DV.d) → RDs K H v ds
  | [], [], _ => .nil
  | v :: vs, d :: ds, r => by
    cases r with
    | cons h t => exact .cons h (RVs.data t)
theorem RDs.vals {K : PySem.W.Frag} {H : Hp} : ∀ {v : List V} {ds : List PyData}, RDs K H v ds → RVs K H v (ds.map DV.d)
  | _, _, .nil => .nil
  | _, _, .cons h r => .cons h (RDs.vals r)

/-! ### the memory, the slots -/
abbrev RKv (K : PySem.W.Frag) (H0 : Hp) : List (Key × V) → List (Key × DV) → Prop := Paired fun p q => p.1 = q.1 ∧ RV K H0 p.2 q.2
theorem RKv.sub {K : PySem.W.Frag} {H H' : Hp} (s : Sub H H') : ∀ {v : List (Key × V)} {x : List (Key × DV)}, RKv K H v x → RKv K H' v x
  | _, _, .nil => .nil
  | _, _, .cons h r => .cons ⟨h.1, h.2.sub s⟩ (RKv.sub s r)
def RO (K : PySem.W.Frag) (H : Hp) (H0 : Hp) (a : Addr) : MO → Prop
  | .lst xs => ∃ vs, H a = some (.lst vs) ∧ RVs K H0 vs xs
  | .dk kvs => ∃ vs, H a = some (.dK vs) ∧ RKv K H0 vs kvs
theorem RO.mono {K : PySem.W.Frag} {H H' H0 H0' : Hp} {a : Addr} {o : MO} (h : RO K H H0 a o) (e : ∀ u, H a = some u → H' a = some u) (s : Sub H0 H0') : RO K H' H0' a o := by
  cases o with
  | lst xs =>
    obtain ⟨vs, q, r⟩ := h
    exact ⟨vs, e _ q, RVs.sub s r⟩
  | dk kvs =>
    obtain ⟨vs, q, r⟩ := h
    exact ⟨vs, e _ q, RKv.sub s r⟩
theorem RO.there {K : PySem.W.Frag} {H H0 : Hp} {a : Addr} {o : MO} (h : RO K H H0 a o) : ∃ u, H a = some u := by
  cases o with
  | lst xs =>
    obtain ⟨vs, q, r⟩ := h
    exact ⟨_, q⟩
  | dk kvs =>
    obtain ⟨vs, q, r⟩ := h
    exact ⟨_, q⟩
def RepM (K : PySem.W.Frag) (H : Hp) (M : Mem) : Prop := ∀ a o, M a = some o → RO K H (hide H M) a o
def Le (H : Hp) (M : Mem) (H' : Hp) (M' : Mem) : Prop := Sub (hide H M) (hide H' M')
theorem Le.refl (H : Hp) (M : Mem) : Le H M H M := Sub.refl _
theorem Le.trans {H H1 H2 : Hp} {M M1 M2 : Mem} (a : Le H M H1 M1) (b : Le H1 M1 H2 M2) : Le H M H2 M2 := Sub.trans a b
abbrev Slots := List (Option DV)
def RepS (K : PySem.W.Frag) (H0 : Hp) (σ : L2.St) (sl : Slots) : Prop := σ.length = sl.length ∧ ∀ (i : Nat) (x : DV), sl[i]? = some (some x) → ∃ v, σ[i]? = some (some v) ∧ RV K H0 v x
theorem RepS.sub {K : PySem.W.Frag} {H H' : Hp} (s : Sub H H') {σ : L2.St} {sl : Slots} (h : RepS K H σ sl) : RepS K H' σ sl :=
  ⟨h.1, fun i x e => let ⟨v, e1, r⟩ := h.2 i x e; ⟨v, e1, r.sub s⟩⟩
theorem RepS.set {K : PySem.W.Frag} {H : Hp} {σ : L2.St} {sl : Slots} (h : RepS K H σ sl) (i : Nat) {v : V} {x : DV} (r : RV K H v x) : RepS K H (σ.set i (some v)) (sl.set i (some x)) := by
  refine ⟨by simpa using h.1, fun j y e => ?_⟩
  by_cases hj : i = j
  · subst hj
    have hi : i < sl.length := by
      have := (List.getElem?_eq_some_iff.mp e).1
      simpa using this
    rw [List.getElem?_set_self hi] at e
    cases e
    exact ⟨v, by rw [List.getElem?_set_self (by rw [h.1]; exact hi)], r⟩
  · rw [List.getElem?_set_ne hj] at e
    obtain ⟨w, e1, r1⟩ := h.2 j y e
    exact ⟨w, by rw [List.getElem?_set_ne hj]; exact e1, r1⟩

theorem own_none {K : PySem.W.Frag} {H : Hp} {M : Mem} (h : RepM K H M) {p : Addr} (n : H p = none) : M p = none := by
  cases e : M p with
  | none => rfl
  | some o =>
    obtain ⟨u, q⟩ := (h p _ e).there
    rw [q] at n
    cases n
/-- a new object of data -/
theorem le_new {H : Hp} {M : Mem} {p : Addr} {o : HO} (n : H p = none) : Le H M (upd H p o) M := fun a u e => by
  have e1 := hide_sub H M a u e
  refine hide_of ?_ (hide_own e)
  rw [upd_ne (ne_of_none e1 n)]
  exact e1
theorem sub_upd {H : Hp} {p : Addr} {o : HO} (n : H p = none) : Sub H (upd H p o) := fun a u e => by
  rw [upd_ne (ne_of_none e n)]
  exact e
theorem rep_new {K : PySem.W.Frag} {H : Hp} {M : Mem} {p : Addr} {o : HO} (h : RepM K H M) (n : H p = none) : RepM K (upd H p o) M := fun a u e => (h a _ e).mono (sub_upd n a) (le_new n)
theorem new_at {K : PySem.W.Frag} {H : Hp} {M : Mem} {p : Addr} {o : HO} (h : RepM K H M) (n : H p = none) : hide (upd H p o) M p = some o := hide_of upd_same (own_none h n)
/-- a new owned list -/
theorem le_own {H : Hp} {M : Mem} {p : Addr} {o : HO} {u : MO} (n : H p = none) : Le H M (upd H p o) (updM M p u) := fun a w e => by
  have e1 := hide_sub H M a w e
  have ne := ne_of_none e1 n
  refine hide_of ?_ ?_
  · rw [upd_ne ne]; exact e1
  · rw [updM_ne ne]; exact hide_own e
theorem rep_ownO {K : PySem.W.Frag} {H : Hp} {M : Mem} {p : Addr} {ho : HO} {mo : MO} (h : RepM K H M) (n : H p = none) (r : RO K (upd H p ho) (hide H M) p mo) : RepM K (upd H p ho) (updM M p mo) := fun a u e => by
  by_cases ha : a = p
  · subst ha
    rw [updM_same] at e
    cases e
    exact r.mono (fun _ q => q) (le_own n)
  · rw [updM_ne ha] at e
    exact (h a _ e).mono (fun w q => by rw [upd_ne ha]; exact q) (le_own n)
theorem rep_own {K : PySem.W.Frag} {H : Hp} {M : Mem} {p : Addr} {vs : List V} {xs : List DV} (h : RepM K H M) (n : H p = none) (r : RVs K (hide H M) vs xs) : RepM K (upd H p (.lst vs)) (updM M p (.lst xs)) :=
  rep_ownO h n ⟨vs, upd_same, r⟩
/-- an owned list is written -/
theorem le_write {H : Hp} {M : Mem} {p : Addr} {o : HO} {u w : MO} (e : M p = some w) : Le H M (upd H p o) (updM M p u) := fun a z q => by
  have ne : a ≠ p := fun c => by subst c; rw [hide_own q] at e; cases e
  refine hide_of ?_ ?_
  · rw [upd_ne ne]; exact hide_sub H M a z q
  · rw [updM_ne ne]; exact hide_own q
theorem rep_writeO {K : PySem.W.Frag} {H : Hp} {M : Mem} {p : Addr} {w : MO} {ho : HO} {mo : MO} (h : RepM K H M) (e : M p = some w) (r : RO K (upd H p ho) (hide H M) p mo) : RepM K (upd H p ho) (updM M p mo) := fun a u q => by
  by_cases ha : a = p
  · subst ha
    rw [updM_same] at q
    cases q
    exact r.mono (fun _ q => q) (le_write e)
  · rw [updM_ne ha] at q
    exact (h a _ q).mono (fun w q => by rw [upd_ne ha]; exact q) (le_write e)
theorem rep_write {K : PySem.W.Frag} {H : Hp} {M : Mem} {p : Addr} {w : MO} {vs : List V} {xs : List DV} (h : RepM K H M) (e : M p = some w) (r : RVs K (hide H M) vs xs) : RepM K (upd H p (.lst vs)) (updM M p (.lst xs)) :=
  rep_writeO h e ⟨vs, upd_same, r⟩
/-- an owned list becomes data -/
theorem le_del {K : PySem.W.Frag} {H : Hp} {M : Mem} {p : Addr} : Le H M H (delM M p) := fun a u e => by
  refine hide_of (hide_sub H M a u e) ?_
  unfold delM
  split
  · rfl
  · exact hide_own e
theorem rep_del {K : PySem.W.Frag} {H : Hp} {M : Mem} {p : Addr} (h : RepM K H M) : RepM K H (delM M p) := fun a u e => by
  unfold delM at e
  split at e
  · cases e
  · exact (h a _ e).mono (fun _ q => q) (le_del (K := K))

/-! ### looks that do not unfold by themselves -/
@[irreducible] def optP {α : Type} (o : Option α) (k : α → Prop) : Prop := match o with
  | some x => k x
  | none => False
theorem optP_of {α : Type} {o : Option α} {k : α → Prop} {x : α} (e : o = some x) (h : k x) : optP o k := by
  subst e
  unfold optP
  exact h
theorem optP_elim {α : Type} {o : Option α} {k : α → Prop} (h : optP o k) : ∃ x, o = some x ∧ k x := by
  unfold optP at h
  cases o with
  | none => exact h.elim
  | some x => exact ⟨x, rfl, h⟩
@[irreducible] def getL (M : Mem) (p : Addr) (k : List DV → Prop) : Prop := match M p with
  | some (.lst xs) => k xs
  | _ => False
theorem getL_of {M : Mem} {p : Addr} {k : List DV → Prop} {xs : List DV} (e : M p = some (.lst xs)) (h : k xs) : getL M p k := by
  unfold getL
  rw [e]
  exact h
theorem getL_elim {M : Mem} {p : Addr} {k : List DV → Prop} (h : getL M p k) : ∃ xs, M p = some (.lst xs) ∧ k xs := by
  unfold getL at h
  cases e : M p with
  | none => rw [e] at h; exact h.elim
  | some o =>
    cases o with
    | lst xs => rw [e] at h; exact ⟨xs, rfl, h⟩
    | dk xs => rw [e] at h; exact h.elim
@[irreducible] def getD (M : Mem) (p : Addr) (k : List (Key × DV) → Prop) : Prop := match M p with
  | some (.dk xs) => k xs
  | _ => False
theorem getD_of {M : Mem} {p : Addr} {k : List (Key × DV) → Prop} {xs : List (Key × DV)} (e : M p = some (.dk xs)) (h : k xs) : getD M p k := by
  unfold getD
  rw [e]
  exact h
theorem getD_elim {M : Mem} {p : Addr} {k : List (Key × DV) → Prop} (h : getD M p k) : ∃ xs, M p = some (.dk xs) ∧ k xs := by
  unfold getD at h
  cases e : M p with
  | none => rw [e] at h; exact h.elim
  | some o =>
    cases o with
    | dk xs => rw [e] at h; exact ⟨xs, rfl, h⟩
    | lst xs => rw [e] at h; exact h.elim

/-! ### readings -/
abbrev KD := DV → Mem → Prop
abbrev TD := Slots → Mem → KD → Prop
abbrev KB := Bool → Mem → Prop
abbrev TTD := Slots → Mem → KB → Prop
abbrev KA := List DV → Mem → Prop
abbrev TAD := Slots → Mem → KA → Prop
structure EndsD where
  nx : Slots → Mem → Prop
  rt : KD
  bk : Slots → Mem → Prop := fun _ _ => False
  ct : Slots → Mem → Prop := fun _ _ => False
abbrev TSD := EndsD → Slots → Mem → Prop

/-- what is wanted behind, from the data's wish -/
def Kt (K : PySem.W.Frag) (H : Hp) (M : Mem) (R : KD) (Q : VK) : Prop := ∀ x M', R x M' → ∀ v H', Le H M H' M' → RepM K H' M' → RV K (hide H' M') v x → Q v H'
def KtB (K : PySem.W.Frag) (H : Hp) (M : Mem) (R : KB) (Q : Bool → Hp → Prop) : Prop := ∀ x M', R x M' → ∀ H', Le H M H' M' → RepM K H' M' → Q x H'
def KtA (K : PySem.W.Frag) (H : Hp) (M : Mem) (R : KA) (Q : List V → Hp → Prop) : Prop := ∀ x M', R x M' → ∀ v H', Le H M H' M' → RepM K H' M' → RVs K (hide H' M') v x → Q v H'
def KtS (K : PySem.W.Frag) (H : Hp) (M : Mem) (R : Slots → Mem → Prop) (Q : L2.St → Hp → Prop) : Prop := ∀ sl M', R sl M' → ∀ σ H', Le H M H' M' → RepM K H' M' → RepS K (hide H' M') σ sl → Q σ H'
theorem Kt.le {K : PySem.W.Frag} {H H1 : Hp} {M M1 : Mem} {R : KD} {Q : VK} (k : Kt K H M R Q) (l : Le H M H1 M1) : Kt K H1 M1 R Q := fun x M' r v H' l' => k x M' r v H' (l.trans l')
theorem KtB.le {K : PySem.W.Frag} {H H1 : Hp} {M M1 : Mem} {R : KB} {Q : Bool → Hp → Prop} (k : KtB K H M R Q) (l : Le H M H1 M1) : KtB K H1 M1 R Q := fun x M' r H' l' => k x M' r H' (l.trans l')
theorem KtA.le {K : PySem.W.Frag} {H H1 : Hp} {M M1 : Mem} {R : KA} {Q : List V → Hp → Prop} (k : KtA K H M R Q) (l : Le H M H1 M1) : KtA K H1 M1 R Q := fun x M' r v H' l' => k x M' r v H' (l.trans l')
theorem KtS.le {K : PySem.W.Frag} {H H1 : Hp} {M M1 : Mem} {R : Slots → Mem → Prop} {Q : L2.St → Hp → Prop} (k : KtS K H M R Q) (l : Le H M H1 M1) : KtS K H1 M1 R Q := fun x M' r v H' l' => k x M' r v H' (l.trans l')

def liftE (K : PySem.W.Frag) (t : TD) : TE := fun σ H Q => ∃ sl M R, RepS K (hide H M) σ sl ∧ RepM K H M ∧ t sl M R ∧ Kt K H M R Q
def liftT (K : PySem.W.Frag) (t : TTD) : TT := fun σ H Q => ∃ sl M R, RepS K (hide H M) σ sl ∧ RepM K H M ∧ t sl M R ∧ KtB K H M R Q
def liftA (K : PySem.W.Frag) (t : TAD) : TA := fun σ H Q => ∃ sl M R, RepS K (hide H M) σ sl ∧ RepM K H M ∧ t sl M R ∧ KtA K H M R Q
def liftS (K : PySem.W.Frag) (t : TSD) : TS := fun D σ H => ∃ sl M E, RepS K (hide H M) σ sl ∧ RepM K H M ∧ t E sl M ∧ KtS K H M E.nx D.nx ∧ Kt K H M E.rt D.rt ∧ KtS K H M E.bk D.bk ∧ KtS K H M E.ct D.ct
abbrev DE (X : Cx) (e : Expr) (t : TD) : Prop := PE X e (liftE X.K t)
abbrev DT (X : Cx) (e : Expr) (t : TTD) : Prop := PT X e (liftT X.K t)
abbrev DW (X : Cx) (e : Expr) (t : TTD) : Prop := PW X e (liftT X.K t)
abbrev DA (X : Cx) (es : List Expr) (t : TAD) : Prop := PA X es (liftA X.K t)
abbrev DS (X : Cx) (st : Stmt) (t : TSD) : Prop := PS X st (liftS X.K t)
abbrev DSs (X : Cx) (st : List Stmt) (t : TSD) : Prop := PSs X st (liftS X.K t)
section
variable {X : Cx} {e : Expr} {es : List Expr} {st : Stmt} {sts : List Stmt}
theorem PE.imp {t u : TE} (h : PE X e t) (i : ∀ σ H Q, u σ H Q → t σ H Q) : PE X e u := ⟨fun pins s σ H Q I q => h.run pins s σ H Q I (i σ H Q q)⟩
theorem PT.imp {t u : TT} (h : PT X e t) (i : ∀ σ H Q, u σ H Q → t σ H Q) : PT X e u := ⟨fun pins s σ H Q I q => h.run pins s σ H Q I (i σ H Q q)⟩
theorem PW.imp {t u : TT} (h : PW X e t) (i : ∀ σ H Q, u σ H Q → t σ H Q) : PW X e u := ⟨fun wh pins s σ H Q I q => h.run wh pins s σ H Q I (i σ H Q q)⟩
theorem PA.imp {t u : TA} (h : PA X es t) (i : ∀ σ H Q, u σ H Q → t σ H Q) : PA X es u := ⟨fun pos pins s σ H Q I q => h.run pos pins s σ H Q I (i σ H Q q)⟩
theorem PS.imp {t u : TS} (h : PS X st t) (i : ∀ D σ H, u D σ H → t D σ H) : PS X st u := ⟨fun pins s σ H D I q => h.run pins s σ H D I (i D σ H q)⟩
theorem PSs.imp {t u : TS} (h : PSs X sts t) (i : ∀ D σ H, u D σ H → t D σ H) : PSs X sts u := ⟨fun pins s σ H D I q => h.run pins s σ H D I (i D σ H q)⟩
end
end DL

/-! The data layer: expressions. -/
namespace DL
open PySem PySem.Spec PyProof.Rows L2
section
variable {X : Cx} {a b c e : Expr} {es : List Expr} {pos : Pos} {ta tb tc te : TD} {tA tB' : TTD}

/-! ### new tuples, known to the object -/
def NewT (H : Hp) (xs : List V) (Q : VK) : Prop := ∀ (p : Addr) (o : Obj), H p = none → o.dict = none → Q (.ref p) (upd H p (.frz o (.tup xs)))
theorem put_tup {pins : List (Addr × Obj)} {σ : L2.St} {H : Hp} {s : Shared} {xs : List V} {its : List Value} {Q : VK} (I : Inv X pins σ H s) (r : Vals xs its) (hz : xs.length ≤ sizeLine) (q : NewT H xs Q) :
    EP X pins σ Q (.ref s.heap.objs.size) { s with heap := s.heap.push { cls := .type "tuple", data := .seq its.toArray } } :=
  ⟨.ref s.heap.objs.size, upd H s.heap.objs.size (.frz { cls := .type "tuple", data := .seq its.toArray } (.tup xs)), I.laid (t' := s.toks) (fun b u e => Heap.get?_push_of_some _ e) (Nat.le_refl _) ⟨Heap.get?_push_size _ rfl, hz, its, r, IsTup.new _ _⟩, rfl, q _ _ (I.hok.fresh (Nat.le_refl _)) rfl⟩
def tTupP (t : TA) : TE := fun σ H Q => t σ H fun xs H1 => xs.length ≤ sizeLine ∧ NewT H1 xs Q
theorem pe_tupP {x1 : Nat} {t : TA} (h : PA X es t) : PE X (.Tuple es x1 pos) (tTupP t) :=
  ⟨fun pins s σ H Q I hq => wpAny_Tuple_spliced (thn (h.run pos pins s σ H _ I hq) fun us s1 ⟨xs, H1, I1, r, z, q⟩ => ⟨by rw [← r.length]; exact z, put_tup I1 r z q⟩)⟩
def rCatP (K : PySem.W.Frag) : R2 := fun x y H Q => ∃ a b xs ys, x = .ref a ∧ y = .ref b ∧ SqT K H a xs ∧ SqT K H b ys ∧ xs.length + ys.length ≤ sizeLine ∧
  (xs = [] → Q (.ref b) H) ∧ (xs ≠ [] → ys = [] → Q (.ref a) H) ∧ (xs ≠ [] → ys ≠ [] → NewT H (xs ++ ys) Q)
theorem op_catP : OpR X (binaryOp .Add) (rCatP X.K) := by
  rintro pins s σ H x y v u Q I rx ry ⟨a, b, xs, ys, rfl, rfl, ha, hb, hz, q0, q1, q2⟩
  cases rx
  cases ry
  obtain ⟨is, r1, p1, _⟩ := I.tuple ha
  obtain ⟨js, r2, p2, _⟩ := I.tuple hb
  by_cases hx : xs = []
  · subst hx
    cases r1
    exact cat_tup0 p1 p2 ⟨.ref b, H, I, rfl, q0 rfl⟩
  · exact HT.cat_tup p1 p2 (fun z => hx (r1.nil_iff.mp z)) (fun z => ⟨.ref a, H, I, rfl, q1 hx (r2.nil_iff.mp z)⟩) (fun z => put_tup I (r1.append r2) (by rw [List.length_append]; exact hz) (q2 hx fun w => z (r2.nil_iff.mpr w))) (by rw [← r1.length, ← r2.length]; exact hz)
def rSlP (K : PySem.W.Frag) : V → Option Int → Option Int → Hp → VK → Prop := fun x lo hi H Q => ∃ a xs, x = .ref a ∧ SqT K H a xs ∧
  (HT.sIx xs.length 0 lo = 0 ∧ HT.sIx xs.length xs.length hi = xs.length → Q (.ref a) H) ∧ (¬ (HT.sIx xs.length 0 lo = 0 ∧ HT.sIx xs.length xs.length hi = xs.length) → NewT H (cutV xs lo hi) Q)
theorem sl_tupP : SlR X (rSlP X.K) := by
  rintro pins s σ H x v vl vu lo hi sl Q I rx hs pl pu ⟨a, xs, rfl, hx, q1, q2⟩
  cases rx
  obtain ⟨its, r, ht, hz⟩ := I.tuple hx
  have hl : its.toArray.size = xs.length := by rw [List.size_toArray, r.length]
  refine ⟨"tuple", _, slot_tuple_getitem.lookup, ht.typeIs, ?_⟩
  by_cases hw : HT.sIx xs.length 0 lo = 0 ∧ HT.sIx xs.length xs.length hi = xs.length
  · exact getItem_tuple_whole ht hs pl pu (by rw [hl]; exact hw) ⟨.ref a, H, I, rfl, q1 hw⟩
  · refine HT.getItem_tuple_cut ht hs pl pu (by rw [hl]; exact hw) ?_ (by rw [hl]; exact hz)
    rw [hl]
    exact put_tup I ((r.drop (HT.sIx xs.length 0 lo)).take (HT.sIx xs.length xs.length hi - HT.sIx xs.length 0 lo)) (Nat.le_trans (cutV_length xs lo hi) hz) (q2 hw)
theorem call_tupleP : CallR X (.type "tuple") (fun xs H Q => ∃ p ys, xs = [.ref p] ∧ ((SqL X.K H p ys ∧ NewT H ys Q) ∨ (SqT X.K H p ys ∧ Q (.ref p) H))) := by
  rintro pins s σ H xs us Q I r ⟨p, ys, rfl, h⟩
  obtain ⟨u, rfl, rx⟩ := vals1 r
  cases rx
  rcases h with ⟨hq, q⟩ | ⟨hq, q⟩
  · obtain ⟨its, r', pl, hz⟩ := I.list hq
    have hl := r'.length
    refine call_tuple_list pl.isList (fun h' kp => ?_) (by rw [List.size_toArray]; omega)
    exact put_tup (I.kept (t' := s.toks) kp) r' hz q
  · obtain ⟨its, r', pl, hz⟩ := I.tuple hq
    exact call_tuple_same pl ⟨.ref p, H, I, rfl, q⟩

/-! ### names and constants -/
def dVar (i : Nat) : TD := fun sl M R => match sl[i]? with
  | some (some x) => R x M
  | _ => False
def dC (x : DV) : TD := fun _ M R => R x M
theorem de_var (i : Nat) {x : Str} {pos : Pos} (hN : X.N[i]? = some x := by rfl) (hv : Vis X.env.scope x := by first | exact Or.inl rfl | exact Or.inr (Or.inl rfl) | exact Or.inr (Or.inr rfl)) (hd : (x == ("__debug__" : Str)) = false := by decide)
    (hcd : (x == ("__classdict__" : Str)) = false := by decide) : DE X (.Name x pos) (dVar i) :=
  PE.imp (pe_var hN hv hd hcd) fun σ H Q ⟨sl, M, R, hs, hm, ht, k⟩ => by
    unfold dVar at ht
    split at ht
    · rename_i x e
      obtain ⟨v, e1, r⟩ := hs.2 i x e
      exact ⟨v, e1, k x M ht v H (Le.refl _ _) hm r⟩
    · exact ht.elim
/-- an expression whose value is written down -/
theorem de_const {v : V} {x : DV} (h : PE X e (tC v)) (r : ∀ H, RV X.K H v x) : DE X e (dC x) :=
  PE.imp h fun σ H Q ⟨sl, M, R, hs, hm, ht, k⟩ => k x M ht v H (Le.refl _ _) hm (r _)
theorem de_int {i : Int} {j pos} : DE X (.Constant (.int i) j pos) (dC (.d (.int i))) := de_const pe_int fun _ => .int i
theorem de_bl {i : Bool} {j pos} : DE X (.Constant (.bool i) j pos) (dC (.d (.bool i))) := de_const pe_bl fun _ => .bl i
theorem de_non {j pos} : DE X (.Constant .none j pos) (dC (.d .none)) := de_const pe_non fun _ => .non
theorem de_str {x : Str} {j pos} : DE X (.Constant (.str x) j pos) (dC (.d (.str x))) := de_const pe_str fun _ => .str x
/-- a global constant that holds data (or any thing) -/
theorem de_glob {x : Str} {v : V} {u : Value} {d : DV} {pos : Pos} (hg : Gl X x) (hm : X.mg x = some u) (r : RelV v u) (rd : ∀ H, RV X.K H v d) (hd : (x == ("__debug__" : Str)) = false := by decide) : DE X (.Name x pos) (dC d) :=
  de_const (pe_glob hg hm r hd) rd

/-! ### two-place operations -/
abbrev G2 := DV → DV → Mem → KD → Prop
def lift2 (K : PySem.W.Frag) (g : G2) : R2 := fun x y H Q => ∃ dx dy M R, RepM K H M ∧ RV K (hide H M) x dx ∧ RV K (hide H M) y dy ∧ g dx dy M R ∧ Kt K H M R Q
abbrev OpD (X : Cx) (f : Value → Value → Sem Value) (g : G2) : Prop := OpR X f (lift2 X.K g)
def dOp (g : G2) (ta tb : TD) : TD := fun sl M R => ta sl M fun x M1 => tb sl M1 fun y M2 => g x y M2 R
theorem op_imp {g : G2} {σ : L2.St} {H : Hp} {Q : VK} (h : liftE X.K (dOp g ta tb) σ H Q) : tOp (lift2 X.K g) (liftE X.K ta) (liftE X.K tb) σ H Q := by
  obtain ⟨sl, M, R, hs, hm, ht, k⟩ := h
  exact ⟨sl, M, _, hs, hm, ht, fun x M1 h1 v H1 l1 m1 r1 => ⟨sl, M1, _, hs.sub l1, m1, h1, fun y M2 h2 u H2 l2 m2 r2 => ⟨x, y, M2, R, m2, r1.sub l2, r2, h2, k.le (l1.trans l2)⟩⟩⟩
theorem de_op {op : Operator} {g : G2} (ho : OpD X (binaryOp op) g) (ha : DE X a ta) (hb : DE X b tb) : DE X (.BinOp a op b pos) (dOp g ta tb) :=
  PE.imp (pe_op ho ha hb) fun _ _ _ h => op_imp h
theorem de_cmp {op : CmpOp} {g : G2} (ho : OpD X (compareOp op) g) (ha : DE X a ta) (hb : DE X b tb) (hm : behindInMarks op b = false) : DE X (.Compare a [op] [b] pos) (dOp g ta tb) :=
  PE.imp (pe_cmpR ho ha hb hm) fun _ _ _ h => op_imp h
/-- a value as a test: a bool -/
def dB (t : TD) : TTD := fun sl M R => t sl M fun x M1 => match x with
  | .d (.bool k) => R k M1
  | _ => False
theorem dB_imp {t : TD} {σ : L2.St} {H : Hp} {Q : Bool → Hp → Prop} (h : liftT X.K (dB t) σ H Q) : liftE X.K t σ H fun x H' => ∃ k, x = .bl k ∧ Q k H' := by
  obtain ⟨sl, M, R, hs, hm, ht, k⟩ := h
  refine ⟨sl, M, _, hs, hm, ht, fun x M1 h1 v H1 l1 m1 r1 => ?_⟩
  split at h1
  · cases r1
    exact ⟨_, rfl, k _ M1 h1 H1 l1 m1⟩
  · exact h1.elim
theorem dt_cmp {op : CmpOp} {g : G2} (ho : OpD X (compareOp op) g) (ha : DE X a ta) (hb : DE X b tb) (hm : behindInMarks op b = false) : DT X (.Compare a [op] [b] pos) (dB (dOp g ta tb)) :=
  PT.imp (pt_cmpR ho ha hb hm) fun σ H Q h => op_imp (dB_imp h)
theorem dt_val (h : DE X e te) (he : ∀ whole, isTrue e X.env whole = (do let v ← whole; standAt e.pos; holding [v] (truthy v)) := by intro _; rfl) : DT X e (dB te) :=
  PT.imp (pt_val h he) fun σ H Q h => dB_imp h

/-! ### and, or, not, if -/
def dAnd (t u : TTD) : TTD := fun sl M R => t sl M fun k M1 => if k = true then u sl M1 R else R false M1
def dOr (t u : TTD) : TTD := fun sl M R => t sl M fun k M1 => if k = true then R true M1 else u sl M1 R
def dNot (t : TTD) : TTD := fun sl M R => t sl M fun k M1 => R (!k) M1
variable {rest : List Expr}
theorem dw_and1 (h : DT X a tA) : DW X (.BoolOp .And [a] pos) tA := pw_and1 h
theorem dw_or1 (h : DT X a tA) : DW X (.BoolOp .Or [a] pos) tA := pw_or1 h
theorem dw_and (ha : DT X a tA) (hb : DW X (.BoolOp .And (b :: rest) pos) tB') : DW X (.BoolOp .And (a :: b :: rest) pos) (dAnd tA tB') :=
  PW.imp (pw_and ha hb) fun σ H Q ⟨sl, M, R, hs, hm, ht, k⟩ => ⟨sl, M, _, hs, hm, ht, fun x M1 h1 H1 l1 m1 => by
    cases x with
    | true => exact ⟨sl, M1, R, hs.sub l1, m1, h1, k.le l1⟩
    | false => exact k _ M1 h1 H1 l1 m1⟩
theorem dw_or (ha : DT X a tA) (hb : DW X (.BoolOp .Or (b :: rest) pos) tB') : DW X (.BoolOp .Or (a :: b :: rest) pos) (dOr tA tB') :=
  PW.imp (pw_or ha hb) fun σ H Q ⟨sl, M, R, hs, hm, ht, k⟩ => ⟨sl, M, _, hs, hm, ht, fun x M1 h1 H1 l1 m1 => by
    cases x with
    | false => exact ⟨sl, M1, R, hs.sub l1, m1, h1, k.le l1⟩
    | true => exact k _ M1 h1 H1 l1 m1⟩
theorem dt_not (h : DT X a tA) : DT X (.UnaryOp .Not a pos) (dNot tA) :=
  PT.imp (pt_not h) fun σ H Q ⟨sl, M, R, hs, hm, ht, k⟩ => ⟨sl, M, _, hs, hm, ht, fun x M1 h1 H1 l1 m1 => k _ M1 h1 H1 l1 m1⟩
theorem dt_w (h : DW X e tA) : DT X e tA := PW.pt h
def dIf (t : TTD) (ta tb : TD) : TD := fun sl M R => t sl M fun k M1 => if k = true then ta sl M1 R else tb sl M1 R
theorem de_if (hc : DT X c tA) (ha : DE X a ta) (hb : DE X b tb) : DE X (.IfExp c a b pos) (dIf tA ta tb) :=
  PE.imp (pe_ifExp hc ha hb) fun σ H Q ⟨sl, M, R, hs, hm, ht, k⟩ => ⟨sl, M, _, hs, hm, ht, fun x M1 h1 H1 l1 m1 => by
    cases x with
    | true => exact ⟨sl, M1, R, hs.sub l1, m1, h1, k.le l1⟩
    | false => exact ⟨sl, M1, R, hs.sub l1, m1, h1, k.le l1⟩⟩
/-- and, or, not as values (bools, but the last) -/
def dAndV (ta tb : TD) : TD := fun sl M R => ta sl M fun x M1 => match x with
  | .d (.bool k) => if k = true then tb sl M1 R else R (.d (.bool false)) M1
  | _ => False
def dOrV (ta tb : TD) : TD := fun sl M R => ta sl M fun x M1 => match x with
  | .d (.bool k) => if k = true then R (.d (.bool true)) M1 else tb sl M1 R
  | _ => False
def dNotV (ta : TD) : TD := fun sl M R => ta sl M fun x M1 => match x with
  | .d (.bool k) => R (.d (.bool (!k))) M1
  | _ => False
theorem de_one {op} (h : DE X a ta) : DE X (.BoolOp op [a] pos) ta := pe_one h
theorem de_and (ha : DE X a ta) (hb : DE X (.BoolOp .And (b :: rest) pos) tb) : DE X (.BoolOp .And (a :: b :: rest) pos) (dAndV ta tb) :=
  PE.imp (pe_and ha hb) fun σ H Q ⟨sl, M, R, hs, hm, ht, k⟩ => ⟨sl, M, _, hs, hm, ht, fun x M1 h1 v H1 l1 m1 r1 => by
    split at h1
    · rename_i kk
      cases r1
      refine ⟨_, rfl, ?_⟩
      cases kk with
      | true => exact ⟨sl, M1, R, hs.sub l1, m1, h1, k.le l1⟩
      | false => exact k _ M1 h1 _ H1 l1 m1 (.bl _)
    · exact h1.elim⟩
theorem de_or (ha : DE X a ta) (hb : DE X (.BoolOp .Or (b :: rest) pos) tb) : DE X (.BoolOp .Or (a :: b :: rest) pos) (dOrV ta tb) :=
  PE.imp (pe_or ha hb) fun σ H Q ⟨sl, M, R, hs, hm, ht, k⟩ => ⟨sl, M, _, hs, hm, ht, fun x M1 h1 v H1 l1 m1 r1 => by
    split at h1
    · rename_i kk
      cases r1
      refine ⟨_, rfl, ?_⟩
      cases kk with
      | false => exact ⟨sl, M1, R, hs.sub l1, m1, h1, k.le l1⟩
      | true => exact k _ M1 h1 _ H1 l1 m1 (.bl _)
    · exact h1.elim⟩
theorem de_not (ha : DE X a ta) : DE X (.UnaryOp .Not a pos) (dNotV ta) :=
  PE.imp (pe_not ha) fun σ H Q ⟨sl, M, R, hs, hm, ht, k⟩ => ⟨sl, M, _, hs, hm, ht, fun x M1 h1 v H1 l1 m1 r1 => by
    split at h1
    · cases r1
      exact ⟨_, rfl, k _ M1 h1 _ H1 l1 m1 (.bl _)⟩
    · exact h1.elim⟩

/-! ### operations on data -/
def g2 (f : PyData → PyData → Mem → KD → Prop) : G2
  | .d x, .d y, M, R => f x y M R
  | _, _, _, _ => False
theorem opd {f : Value → Value → Sem Value} {g : PyData → PyData → Mem → KD → Prop}
    (h : ∀ pins s σ H x y v u Q dx dy M R, Inv X pins σ H s → RelV x v → RelV y u → RepM X.K H M → RD X.K (hide H M) x dx → RD X.K (hide H M) y dy → g dx dy M R → Kt X.K H M R Q → wpAny (model X.prog X.w) X.A (f v u) (EP X pins σ Q) X.xe s) :
    OpD X f (g2 g) := by
  intro pins s σ H x y v u Q I rx ry hh
  obtain ⟨dx, dy, M, R, hm, r1, r2, hg, k⟩ := hh
  cases dx with
  | raw _ => exact hg.elim
  | scr _ => exact hg.elim
  | err _ _ => exact hg.elim
  | pr _ _ => exact hg.elim
  | d dx =>
    cases dy with
    | raw _ => exact hg.elim
    | scr _ => exact hg.elim
    | err _ _ => exact hg.elim
    | pr _ _ => exact hg.elim
    | d dy => exact h pins s σ H x y v u Q dx dy M R I rx ry hm r1 r2 hg k
theorem kt_same {K : PySem.W.Frag} {H : Hp} {M : Mem} {R : KD} {Q : VK} {x : DV} {v : V} (k : Kt K H M R Q) (hm : RepM K H M) (h : R x M) (r : RV K (hide H M) v x) : Q v H := k x M h v H (Le.refl _ _) hm r
/-- a new object of data -/
theorem kt_new {K : PySem.W.Frag} {H : Hp} {M : Mem} {R : KD} {Q : VK} {x : DV} {o : HO} {p : Addr} (k : Kt K H M R Q) (hm : RepM K H M) (n : H p = none) (h : R x M) (r : RV K (hide (upd H p o) M) (.ref p) x) : Q (.ref p) (upd H p o) :=
  k x M h _ _ (le_new n) (rep_new hm n) r
theorem rd_tupN {K : PySem.W.Frag} {H : Hp} {M : Mem} {p : Addr} {o : Obj} {xs : List V} {ds : List PyData} (hm : RepM K H M) (n : H p = none) (d : o.dict = none) (r : RDs K (hide H M) xs ds) : RD K (hide (upd H p (.frz o (.tup xs))) M) (.ref p) (.tuple ds) :=
  .tup (.inl ⟨o, new_at hm n, d⟩) (RDs.sub (le_new n) r)
theorem new_tup {K : PySem.W.Frag} {H : Hp} {M : Mem} {R : KD} {Q : VK} {xs : List V} {ds : List PyData} (k : Kt K H M R Q) (hm : RepM K H M) (h : R (.d (.tuple ds)) M) (r : RDs K (hide H M) xs ds) : NewT H xs Q :=
  fun p o n d => kt_new k hm n h (rd_tupN hm n d r)
theorem rd_lstN {K : PySem.W.Frag} {H : Hp} {M : Mem} {p : Addr} {xs : List V} {ds : List PyData} (hm : RepM K H M) (n : H p = none) (r : RDs K (hide H M) xs ds) : RD K (hide (upd H p (.lst xs)) M) (.ref p) (.list ds) :=
  .lst (new_at hm n) (RDs.sub (le_new n) r)

def intOp (f : Int → Int → Int) : PyData → PyData → Mem → KD → Prop
  | .int i, .int j, M, R => R (.d (.int (f i j))) M
  | _, _, _, _ => False
def intCmp (f : Int → Int → Bool) : PyData → PyData → Mem → KD → Prop
  | .int i, .int j, M, R => R (.d (.bool (f i j))) M
  | _, _, _, _ => False
def addD : PyData → PyData → Mem → KD → Prop
  | .int i, .int j, M, R => R (.d (.int (i + j))) M
  | .str x, .str y, M, R => x.length + y.length ≤ sizeLine ∧ R (.d (.str (x ++ y))) M
  | .tuple x, .tuple y, M, R => x.length + y.length ≤ sizeLine ∧ R (.d (.tuple (x ++ y))) M
  | .list x, .list y, M, R => x.length + y.length ≤ sizeLine ∧ R (.d (.list (x ++ y))) M
  | _, _, _, _ => False
theorem od_add : OpD X (binaryOp .Add) (g2 addD) := opd fun pins s σ H x y v u Q dx dy M R I rv ru hm rx ry hg k => by
  cases rx with
  | int i =>
    cases ry with
    | int j => exact op_add pins s σ H _ _ v u Q I rv ru ⟨i, j, rfl, rfl, kt_same k hm hg (.int _)⟩
    | _ => exact hg.elim
  | str i =>
    cases ry with
    | str j => exact op_add_str pins s σ H _ _ v u Q I rv ru ⟨i, j, rfl, rfl, hg.1, kt_same k hm hg.2 (.str _)⟩
    | _ => exact hg.elim
  | tup h1 r1 =>
    cases ry with
    | tup h2 r2 =>
      rename_i a xs ds b ys es
      have l1 := r1.len
      have l2 := r2.len
      refine op_catP pins s σ H _ _ v u Q I rv ru ⟨_, _, _, _, rfl, rfl, sqT_sub (hide_sub _ _) h1.t, sqT_sub (hide_sub _ _) h2.t, by rw [l1, l2]; exact hg.1, fun z => ?_, fun _ z => ?_, fun _ _ => ?_⟩
      · subst z
        cases r1
        exact kt_same k hm hg.2 (.tup h2 (by simpa using r2))
      · subst z
        cases r2
        exact kt_same k hm hg.2 (.tup h1 (by simpa using r1))
      · exact new_tup k hm hg.2 (r1.append r2)
    | _ => exact hg.elim
  | lst h1 r1 =>
    cases ry with
    | lst h2 r2 =>
      have l1 := r1.len
      have l2 := r2.len
      exact op_cat pins s σ H _ _ v u Q I rv ru ⟨_, _, _, _, rfl, rfl, hide_sub _ _ _ _ h1, hide_sub _ _ _ _ h2, by rw [l1, l2]; exact hg.1, fun p n => kt_new k hm n hg.2 (rd_lstN hm n (r1.append r2))⟩
    | _ => exact hg.elim
  | _ => exact hg.elim
theorem od_int {f : Value → Value → Sem Value} {g : Int → Int → Int} (h : OpR X f (rI0 fun i j => .int (g i j))) : OpD X f (g2 (intOp g)) := opd fun pins s σ H x y v u Q dx dy M R I rv ru hm rx ry hg k => by
  cases rx with
  | int i =>
    cases ry with
    | int j => exact h pins s σ H _ _ v u Q I rv ru ⟨i, j, rfl, rfl, kt_same k hm hg (.int _)⟩
    | _ => exact hg.elim
  | _ => exact hg.elim
theorem od_cmpI {f : Value → Value → Sem Value} {g : Int → Int → Bool} (h : OpR X f (rI0 fun i j => .bl (g i j))) : OpD X f (g2 (intCmp g)) := opd fun pins s σ H x y v u Q dx dy M R I rv ru hm rx ry hg k => by
  cases rx with
  | int i =>
    cases ry with
    | int j => exact h pins s σ H _ _ v u Q I rv ru ⟨i, j, rfl, rfl, kt_same k hm hg (.bl _)⟩
    | _ => exact hg.elim
  | _ => exact hg.elim
def intOpC (C : Int → Int → Prop) (f : Int → Int → Int) : PyData → PyData → Mem → KD → Prop
  | .int i, .int j, M, R => C i j ∧ R (.d (.int (f i j))) M
  | _, _, _, _ => False
theorem od_intC {f : Value → Value → Sem Value} {C : Int → Int → Prop} {g : Int → Int → Int} (h : OpR X f (rI C fun i j => .int (g i j))) : OpD X f (g2 (intOpC C g)) := opd fun pins s σ H x y v u Q dx dy M R I rv ru hm rx ry hg k => by
  cases rx with
  | int i =>
    cases ry with
    | int j => exact h pins s σ H _ _ v u Q I rv ru ⟨i, j, rfl, rfl, hg.1, kt_same k hm hg.2 (.int _)⟩
    | _ => exact hg.elim
  | _ => exact hg.elim
theorem od_sub : OpD X (binaryOp .Sub) (g2 (intOp (· - ·))) := od_int op_sub
theorem od_mod : OpD X (binaryOp .Mod) (g2 (intOpC (fun _ j => 0 < j) (· % ·))) := od_intC op_mod
theorem od_fdiv : OpD X (binaryOp .FloorDiv) (g2 (intOpC CDivW (· / ·))) := od_intC op_fdivW
theorem od_pow : OpD X (binaryOp .Pow) (g2 (intOpC CPow fun i j => i ^ j.toNat)) := od_intC op_pow
theorem od_gt : OpD X (compareOp .Gt) (g2 (intCmp fun i j => decide (j < i))) := od_cmpI op_gt
theorem od_ge : OpD X (compareOp .GtE) (g2 (intCmp fun i j => decide (j ≤ i))) := od_cmpI op_ge
theorem od_le : OpD X (compareOp .LtE) (g2 (intCmp fun i j => decide (i ≤ j))) := od_cmpI op_le

/-! ### ==, != and < of data -/
mutual
/-- no list within -/
def lstFree : PyData → Bool
  | .list _ => false
  | .tuple xs => lstFreeAll xs
  | .dict kvs => lstFreeKv kvs
  | _ => true
def lstFreeAll : List PyData → Bool
  | [] => true
  | x :: xs => lstFree x && lstFreeAll xs
def lstFreeKv : List (PyData × PyData) → Bool
  | [] => true
  | (_, v) :: r => lstFree v && lstFreeKv r
end
theorem key_reads {h : Heap} : ∀ {k : Key} {v : Value}, keyIs k v = true → Reads h v (keyD k) [] := fun {k v} e => by
  rcases keyIs_shape e with ⟨i, t, rfl, rfl⟩ | ⟨x, t, rfl, rfl⟩
  · exact Reads.int i t
  · exact Reads.str x t
section
variable {pins : List (Addr × Obj)} {σ : L2.St} {H : Hp} {s : Shared}
mutual
theorem RD.readsI (I : Inv X pins σ H s) : ∀ {v : V} {d : PyData}, RD X.K H v d → ∀ u, RelV v u → ∃ as, Reads s.heap u d as ∧ (lstFree d = true → sysModules ∉ as)
  | _, _, .non, u, r => by cases r; exact ⟨_, Reads.none, fun _ => List.not_mem_nil⟩
  | _, _, .bl b, u, r => by cases r; exact ⟨_, Reads.bool b, fun _ => List.not_mem_nil⟩
  | _, _, .int i, u, r => by obtain ⟨t, rfl⟩ := r; exact ⟨_, Reads.int i t, fun _ => List.not_mem_nil⟩
  | _, _, .str x, u, r => by obtain ⟨t, rfl⟩ := r; exact ⟨_, Reads.str x t, fun _ => List.not_mem_nil⟩
  | _, _, .lst h q, u, r => by
    cases r
    obtain ⟨its, rv, ⟨o, n, ho, hc, _, hd⟩, _⟩ := I.list (SqL.of h)
    obtain ⟨as, hr, _⟩ := RDs.readsI I q its rv
    exact ⟨_, Reads.list ho hc hd hr, fun h => (by simp [lstFree] at h)⟩
  | _, _, .tup h q, u, r => by
    cases r
    obtain ⟨its, rv, ⟨o, ho, hc, n, hd⟩, _⟩ := I.tuple h.t
    obtain ⟨as, hr, hn⟩ := RDs.readsI I q its rv
    exact ⟨_, Reads.tuple ho hc hd hr, fun h => hn (by simpa [lstFree] using h)⟩
  | _, _, .dct h q, u, r => by
    cases r
    obtain ⟨_, hsm, vs, rel, o, es, ep, ho, hx, hd, _, hp, _⟩ := dk_of I.hok h
    obtain ⟨as, bs, h1, h2, hn⟩ := RKs.readsI I q vs es.toList rel hp
    refine ⟨_, Reads.dict ho hx.1 hd h1 h2, fun hl => ?_⟩
    obtain ⟨n1, n2⟩ := hn (by simpa [lstFree] using hl)
    have n0 : ¬ sysModules = _ := fun e => (beq_eq_false_iff_ne.mp hsm) e.symm
    intro hm
    rcases List.mem_append.mp hm with hm | hm
    · rcases List.mem_cons.mp hm with hm | hm
      · exact n0 hm
      · exact n1 hm
    · exact n2 hm
theorem RKs.readsI (I : Inv X pins σ H s) : ∀ {kvs : List (Key × V)} {kds : List (PyData × PyData)}, RKs X.K H kvs kds → ∀ (vs : List (Key × Value)) (es : List DictEntry), KV kvs vs → Pairs (mixKind X.prog X.w) es vs →
    ∃ as bs, ReadsAll s.heap (es.map (·.key)) (kds.map (·.1)) as ∧ ReadsAll s.heap (es.map (·.val)) (kds.map (·.2)) bs ∧ (lstFreeKv kds = true → sysModules ∉ as ∧ sysModules ∉ bs)
  | _, _, .nil, vs, es, r, p => by
    cases r
    cases p
    exact ⟨[], [], .nil, .nil, fun _ => ⟨List.not_mem_nil, List.not_mem_nil⟩⟩
  | _, _, .cons h q, vs, es, r, p => by
    cases r with
    | cons r1 r2 =>
      cases p with
      | cons p1 p2 p3 =>
        obtain ⟨as, bs, h1, h2, hn⟩ := RKs.readsI I q _ _ r2 p3
        obtain ⟨cs, h3, hm⟩ := RD.readsI I h _ r1.2
        rw [← p2] at h3
        refine ⟨_, _, .cons (key_reads (by have z := p1; rw [← r1.1] at z; exact z)) h1, .cons h3 h2, fun hl => ?_⟩
        have hl' := hl
        simp only [lstFreeKv, Bool.and_eq_true] at hl'
        obtain ⟨n1, n2⟩ := hn hl'.2
        refine ⟨n1, fun hq => ?_⟩
        rcases List.mem_append.mp hq with hq | hq
        · exact hm hl'.1 hq
        · exact n2 hq
theorem RDs.readsI (I : Inv X pins σ H s) : ∀ {vs : List V} {ds : List PyData}, RDs X.K H vs ds → ∀ us, Vals vs us → ∃ as, ReadsAll s.heap us ds as ∧ (lstFreeAll ds = true → sysModules ∉ as)
  | _, _, .nil, us, r => by cases r; exact ⟨_, ReadsAll.nil, fun _ => List.not_mem_nil⟩
  | _, _, .cons h q, us, r => by
    cases r with
    | cons r1 r2 =>
      obtain ⟨as, q1, n1⟩ := RD.readsI I h _ r1
      obtain ⟨bs, q2, n2⟩ := RDs.readsI I q _ r2
      refine ⟨_, ReadsAll.cons q1 q2, fun hl => ?_⟩
      have hl' := hl
      simp only [lstFreeAll, Bool.and_eq_true] at hl'
      intro hm
      rcases List.mem_append.mp hm with hm | hm
      · exact n1 hl'.1 hm
      · exact n2 hl'.2 hm
end
end
theorem RD.readsF {pins : List (Addr × Obj)} {σ : L2.St} {H : Hp} {s : Shared} {M : Mem} (I : Inv X pins σ H s) {v : V} {u : Value} {d : PyData} (r : RD X.K (hide H M) v d) (ru : RelV v u) : ∃ as, Reads s.heap u d as ∧ (lstFree d = true → sysModules ∉ as) :=
  RD.readsI I (RD.sub (hide_sub H M) r) u ru
theorem RD.reads {pins : List (Addr × Obj)} {σ : L2.St} {H : Hp} {s : Shared} {M : Mem} (I : Inv X pins σ H s) {v : V} {u : Value} {d : PyData} (r : RD X.K (hide H M) v d) (ru : RelV v u) : ∃ as, Reads s.heap u d as :=
  let ⟨as, h, _⟩ := RD.readsF I r ru
  ⟨as, h⟩
/-- what == asks -/
structure EqOk (x y : PyData) : Prop where
  l : x.plain = true
  r : y.plain = true
  d : min x.depth y.depth ≤ 60
def eqD : PyData → PyData → Mem → KD → Prop
  | .int i, .int j, M, R => R (.d (.bool (decide (i = j)))) M
  | .str i, .str j, M, R => R (.d (.bool (decide (i = j)))) M
  | x, y, M, R => EqOk x y ∧ R (.d (.bool (PyData.eqv x y))) M
def neD : PyData → PyData → Mem → KD → Prop
  | .int i, .int j, M, R => R (.d (.bool (!decide (i = j)))) M
  | .str i, .str j, M, R => R (.d (.bool (!decide (i = j)))) M
  | x, y, M, R => EqOk x y ∧ R (.d (.bool (!PyData.eqv x y))) M
theorem eqv_int (i j : Int) : PyData.eqv (.int i) (.int j) = decide (i = j) := by
  unfold PyData.eqv
  exact Bool.beq_eq_decide_eq _ _
theorem eqv_str (i j : Str) : PyData.eqv (.str i) (.str j) = decide (i = j) := by
  unfold PyData.eqv
  exact Bool.beq_eq_decide_eq _ _
theorem eqD_all {x y : PyData} {M : Mem} {R : KD} (h : eqD x y M R) : EqOk x y ∧ R (.d (.bool (PyData.eqv x y))) M := by
  cases x <;> cases y <;> first
    | exact h
    | (rw [eqv_int]; exact ⟨⟨rfl, rfl, Nat.zero_le _⟩, h⟩)
    | (rw [eqv_str]; exact ⟨⟨rfl, rfl, Nat.zero_le _⟩, h⟩)
theorem neD_all {x y : PyData} {M : Mem} {R : KD} (h : neD x y M R) : EqOk x y ∧ R (.d (.bool (!PyData.eqv x y))) M := by
  cases x <;> cases y <;> first
    | exact h
    | (rw [eqv_int]; exact ⟨⟨rfl, rfl, Nat.zero_le _⟩, h⟩)
    | (rw [eqv_str]; exact ⟨⟨rfl, rfl, Nat.zero_le _⟩, h⟩)
theorem od_eq {k : Nat} (hr : Room k X.A) : OpD X (compareOp .Eq) (g2 eqD) := opd fun pins s σ H x y v u Q dx dy M R I rv ru hm rx ry hg k => by
  obtain ⟨as, r1⟩ := rx.reads I rv
  obtain ⟨bs, r2⟩ := ry.reads I ru
  have hu := hr.units
  have hg := eqD_all hg
  refine SeqAt.eq_plain r1 r2 hg.1.l hg.1.r (by have := hg.1.d; omega) ⟨.bl _, H, I, rfl, kt_same k hm hg.2 (.bl _)⟩
theorem od_ne {k : Nat} (hr : Room k X.A) : OpD X (compareOp .NotEq) (g2 neD) := opd fun pins s σ H x y v u Q dx dy M R I rv ru hm rx ry hg k => by
  obtain ⟨as, r1⟩ := rx.reads I rv
  obtain ⟨bs, r2⟩ := ry.reads I ru
  have hu := hr.units
  have hg := neD_all hg
  refine SeqAt.ne_plain r1 r2 hg.1.l hg.1.r (by have := hg.1.d; omega) ⟨.bl _, H, I, rfl, kt_same k hm hg.2 (.bl _)⟩
end
end DL

/-! The data layer: arguments, displays, subscripts, slices, calls. -/
namespace DL
open PySem PySem.Spec PyProof.Rows L2
section
variable {X : Cx} {a b c e : Expr} {es : List Expr} {pos : Pos} {ta tb tc te : TD} {tas : TAD}

def ltD : PyData → PyData → Mem → KD → Prop
  | .int i, .int j, M, R => R (.d (.bool (decide (i < j)))) M
  | x, y, M, R => PySem.W.alike x y = true ∧ x ≠ .none ∧ min x.depth y.depth ≤ 60 ∧ R (.d (.bool (PySem.W.dataLt x y))) M
theorem ltD_all {x y : PyData} {M : Mem} {R : KD} (h : ltD x y M R) : PySem.W.alike x y = true ∧ x ≠ .none ∧ min x.depth y.depth ≤ 60 ∧ R (.d (.bool (PySem.W.dataLt x y))) M := by
  cases x <;> cases y <;> first
    | exact h
    | (rw [PySem.W.dataLt_int]; exact ⟨rfl, by simp, Nat.zero_le _, h⟩)
theorem od_lt {k : Nat} (hr : Room k X.A) : OpD X (compareOp .Lt) (g2 ltD) := opd fun pins s σ H x y v u Q dx dy M R I rv ru hm rx ry hg k => by
  obtain ⟨as, r1⟩ := rx.reads I rv
  obtain ⟨bs, r2⟩ := ry.reads I ru
  have hu := hr.units
  have hg := ltD_all hg
  refine PySem.W.lt_data r1 r2 hg.1 hg.2.1 (by have := hg.2.2.1; omega) ⟨.bl _, H, I, rfl, kt_same k hm hg.2.2.2 (.bl _)⟩
/-- < of ints alone -/
theorem od_ltI : OpD X (compareOp .Lt) (g2 (intCmp fun i j => decide (i < j))) := od_cmpI op_lt
/-- what 'in' asks -/
structure InOk (ys : List PyData) (x : PyData) : Prop where
  l : PyData.plainAll ys = true
  r : x.plain = true
  d : min (PyData.depthAll ys) x.depth ≤ 60
/-- in, not in -/
def inD (neg : Bool) : PyData → PyData → Mem → KD → Prop
  | x, .tuple ys, M, R => InOk ys x ∧ R (.d (.bool (if neg then !(ys.any fun y => PyData.eqv y x) else ys.any fun y => PyData.eqv y x))) M
  | x, .list ys, M, R => InOk ys x ∧ R (.d (.bool (if neg then !(ys.any fun y => PyData.eqv y x) else ys.any fun y => PyData.eqv y x))) M
  | .str x, .str y, M, R => R (.d (.bool (if neg then !(!(Builtin.Str.occurrences y x 0 y.length 1).isEmpty) else !(Builtin.Str.occurrences y x 0 y.length 1).isEmpty))) M
  | _, _, _, _ => False
theorem od_in {k : Nat} (hr : Room k X.A) : OpD X (compareOp .In) (g2 (inD false)) := opd fun pins s σ H x y v u Q dx dy M R I rv ru hm rx ry hg k => by
  have hu := hr.units
  cases dy with
  | tuple ys =>
    obtain ⟨as, r1⟩ := rx.reads I rv
    obtain ⟨bs, r2⟩ := ry.reads I ru
    have hg' : InOk ys dx ∧ R (.d (.bool (ys.any fun y => PyData.eqv y dx))) M := by cases dx <;> exact hg
    exact SeqAt.in_tuple_data r2 r1 hg'.1.l hg'.1.r (by have := hg'.1.d; omega) ⟨.bl _, H, I, rfl, kt_same k hm hg'.2 (.bl _)⟩
  | list ys =>
    obtain ⟨as, r1⟩ := rx.reads I rv
    obtain ⟨bs, r2⟩ := ry.reads I ru
    have hg' : InOk ys dx ∧ R (.d (.bool (ys.any fun y => PyData.eqv y dx))) M := by cases dx <;> exact hg
    exact SeqAt.in_list_data r2 r1 hg'.1.l hg'.1.r (by have := hg'.1.d; omega) ⟨.bl _, H, I, rfl, kt_same k hm hg'.2 (.bl _)⟩
  | str ys =>
    cases dx with
    | str xs =>
      cases rx
      cases ry
      exact op_in_str pins s σ H _ _ v u Q I rv ru ⟨_, _, rfl, rfl, kt_same k hm hg (.bl _)⟩
    | _ => exact hg.elim
  | _ => cases dx <;> exact hg.elim
theorem od_notin {k : Nat} (hr : Room k X.A) : OpD X (compareOp .NotIn) (g2 (inD true)) := opd fun pins s σ H x y v u Q dx dy M R I rv ru hm rx ry hg k => by
  have hu := hr.units
  cases dy with
  | tuple ys =>
    obtain ⟨as, r1⟩ := rx.reads I rv
    obtain ⟨bs, r2⟩ := ry.reads I ru
    have hg' : InOk ys dx ∧ R (.d (.bool (!ys.any fun y => PyData.eqv y dx))) M := by cases dx <;> exact hg
    exact SeqAt.notIn_tuple_data r2 r1 hg'.1.l hg'.1.r (by have := hg'.1.d; omega) ⟨.bl _, H, I, rfl, kt_same k hm hg'.2 (.bl _)⟩
  | list ys =>
    obtain ⟨as, r1⟩ := rx.reads I rv
    obtain ⟨bs, r2⟩ := ry.reads I ru
    have hg' : InOk ys dx ∧ R (.d (.bool (!ys.any fun y => PyData.eqv y dx))) M := by cases dx <;> exact hg
    exact SeqAt.notIn_list_data r2 r1 hg'.1.l hg'.1.r (by have := hg'.1.d; omega) ⟨.bl _, H, I, rfl, kt_same k hm hg'.2 (.bl _)⟩
  | str ys =>
    cases dx with
    | str xs =>
      cases rx
      cases ry
      exact op_notin_str pins s σ H _ _ v u Q I rv ru ⟨_, _, rfl, rfl, kt_same k hm hg (.bl _)⟩
    | _ => exact hg.elim
  | _ => cases dx <;> exact hg.elim
/-- is None, is not None -/
def isND : G2
  | .d x, .d .none, M, R => R (.d (.bool (match x with | .none => true | _ => false))) M
  | _, _, _, _ => False
def notND : G2
  | .d x, .d .none, M, R => R (.d (.bool (match x with | .none => false | _ => true))) M
  | _, _, _, _ => False
theorem od_isN : OpD X (compareOp .Is) isND := by
  intro pins s σ H x y v u Q I rx ry hh
  obtain ⟨dx, dy, M, R, hm, r1, r2, hg, k⟩ := hh
  cases dx with
  | raw _ => exact hg.elim
  | scr _ => exact hg.elim
  | err _ _ => exact hg.elim
  | pr _ _ => exact hg.elim
  | d dx =>
    cases dy with
    | raw _ => exact hg.elim
    | scr _ => exact hg.elim
    | err _ _ => exact hg.elim
    | pr _ _ => exact hg.elim
    | d dy =>
      cases dy with
      | none =>
        cases r2
        cases r1 <;> exact op_isN pins s σ H _ _ v u Q I rx ry ⟨rfl, kt_same k hm hg (.bl _)⟩
      | _ => exact hg.elim
theorem od_notN : OpD X (compareOp .IsNot) notND := by
  intro pins s σ H x y v u Q I rx ry hh
  obtain ⟨dx, dy, M, R, hm, r1, r2, hg, k⟩ := hh
  cases dx with
  | raw _ => exact hg.elim
  | scr _ => exact hg.elim
  | err _ _ => exact hg.elim
  | pr _ _ => exact hg.elim
  | d dx =>
    cases dy with
    | raw _ => exact hg.elim
    | scr _ => exact hg.elim
    | err _ _ => exact hg.elim
    | pr _ _ => exact hg.elim
    | d dy =>
      cases dy with
      | none =>
        cases r2
        cases r1 <;> exact op_notN pins s σ H _ _ v u Q I rx ry ⟨rfl, kt_same k hm hg (.bl _)⟩
      | _ => exact hg.elim
/-- -x -/
def dUn (g : DV → Mem → KD → Prop) (ta : TD) : TD := fun sl M R => ta sl M fun x M1 => g x M1 R
def negD : DV → Mem → KD → Prop
  | .d (.int i), M, R => R (.d (.int (-i))) M
  | _, _, _ => False
theorem de_neg (ha : DE X a ta) : DE X (.UnaryOp .USub a pos) (dUn negD ta) :=
  PE.imp (pe_un un_neg ha) fun σ H Q ⟨sl, M, R, hs, hm, ht, k⟩ => ⟨sl, M, _, hs, hm, ht, fun x M1 h1 v H1 l1 m1 r1 => by
    cases x with
    | raw _ => exact h1.elim
    | scr _ => exact h1.elim
    | err _ _ => exact h1.elim
    | pr _ _ => exact h1.elim
    | d x =>
      cases r1 with
      | int i => exact ⟨i, rfl, k _ M1 h1 _ H1 l1 m1 (.int _)⟩
      | _ => exact h1.elim⟩

/-! ### arguments -/
def dNil : TAD := fun _ M R => R [] M
def dCons (ta : TD) (tr : TAD) : TAD := fun sl M R => ta sl M fun x M1 => tr sl M1 fun xs M2 => R (x :: xs) M2
theorem da_nil : DA X [] dNil := PA.imp pa_nil fun σ H Q ⟨sl, M, R, hs, hm, ht, k⟩ => k _ M ht _ H (Le.refl _ _) hm .nil
theorem da_cons (ha : DE X e te) (hr : DA X es tas) (hs : starEach (e :: es) X.env = (false, eval e X.env) :: starEach es X.env := by rfl) : DA X (e :: es) (dCons te tas) :=
  PA.imp (pa_cons ha hr hs) fun σ H Q ⟨sl, M, R, hs, hm, ht, k⟩ => ⟨sl, M, _, hs, hm, ht, fun x M1 h1 v H1 l1 m1 r1 => ⟨sl, M1, _, hs.sub l1, m1, h1, fun xs M2 h2 vs H2 l2 m2 r2 => k _ M2 h2 _ H2 (l1.trans l2) m2 (.cons (r1.sub l2) r2)⟩⟩
def allD : List DV → Option (List PyData)
  | [] => some []
  | .d x :: r => (allD r).map (x :: ·)
  | .raw _ :: _ => none
  | .scr _ :: _ => none
  | .err _ _ :: _ => none
  | .pr _ _ :: _ => none
theorem allD_map : ∀ {xs : List DV} {ds : List PyData}, allD xs = some ds → xs = ds.map DV.d
  | [], ds, h => by cases h; rfl
  | .d x :: r, ds, h => by
    unfold allD at h
    cases e : allD r with
    | none => rw [e] at h; cases h
    | some es =>
      rw [e] at h
      cases h
      rw [allD_map e]
      rfl
  | .raw _ :: _, ds, h => by cases h
  | .scr _ :: _, ds, h => by cases h
  | .err _ _ :: _, ds, h => by cases h
  | .pr _ _ :: _, ds, h => by cases h
theorem allD_of (ds : List PyData) : allD (ds.map DV.d) = some ds := by
  induction ds with
  | nil => rfl
  | cons d ds ih => show (allD (ds.map DV.d)).map (d :: ·) = _; rw [ih]; rfl
def dTup (t : TAD) : TD := fun sl M R => t sl M fun xs M1 => optP (allD xs) fun ds => ds.length ≤ sizeLine ∧ R (.d (.tuple ds)) M1
def dLst (t : TAD) : TD := fun sl M R => t sl M fun xs M1 => optP (allD xs) fun ds => ds.length ≤ sizeLine ∧ R (.d (.list ds)) M1
/-- an owned list -/
def dLstO (t : TAD) : TD := fun sl M R => t sl M fun xs M1 => xs.length ≤ sizeLine ∧ ∀ p, M1 p = none → R (.raw (.ref p)) (updM M1 p (.lst xs))
theorem de_tup {x1} (h : DA X es tas) : DE X (.Tuple es x1 pos) (dTup tas) :=
  PE.imp (pe_tupP h) fun σ H Q ⟨sl, M, R, hs, hm, ht, k⟩ => ⟨sl, M, _, hs, hm, ht, fun xs M1 h1 vs H1 l1 m1 r1 => by
    obtain ⟨ds, e, g1⟩ := optP_elim h1
    have e' := allD_map e
    subst e'
    have rd := RVs.data r1
    exact ⟨by rw [rd.len]; exact g1.1, new_tup (k.le l1) m1 g1.2 rd⟩⟩
theorem de_lst (h : DA X es tas) : DE X (.List es pos) (dLst tas) :=
  PE.imp (pe_lst h) fun σ H Q ⟨sl, M, R, hs, hm, ht, k⟩ => ⟨sl, M, _, hs, hm, ht, fun xs M1 h1 vs H1 l1 m1 r1 => by
    obtain ⟨ds, e, g1⟩ := optP_elim h1
    have e' := allD_map e
    subst e'
    have rd := RVs.data r1
    exact ⟨by rw [rd.len]; exact g1.1, fun p n => kt_new (k.le l1) m1 n g1.2 (rd_lstN m1 n rd)⟩⟩
theorem de_lstO (h : DA X es tas) : DE X (.List es pos) (dLstO tas) :=
  PE.imp (pe_lst h) fun σ H Q ⟨sl, M, R, hs, hm, ht, k⟩ => ⟨sl, M, _, hs, hm, ht, fun xs M1 h1 vs H1 l1 m1 r1 =>
    ⟨by rw [r1.len]; exact h1.1, fun p n => k _ _ (h1.2 p (own_none m1 n)) _ _ (l1.trans (le_own n)) (rep_own m1 n r1) rfl⟩⟩

/-! ### subscripts -/
theorem atI_rd {K : PySem.W.Frag} {H : Hp} {vs : List V} {ds : List PyData} {i : Int} {d : PyData} (r : RDs K H vs ds) (h : atI ds i = some d) : ∃ v, atI vs i = some v ∧ RD K H v d := by
  unfold atI at h ⊢
  rw [r.len]
  cases e : ixN ds.length i with
  | none => rw [e] at h; cases h
  | some j => rw [e] at h; exact r.get h
theorem atI_rv {K : PySem.W.Frag} {H : Hp} {vs : List V} {ds : List DV} {i : Int} {d : DV} (r : RVs K H vs ds) (h : atI ds i = some d) : ∃ v, atI vs i = some v ∧ RV K H v d := by
  unfold atI at h ⊢
  rw [r.len]
  cases e : ixN ds.length i with
  | none => rw [e] at h; cases h
  | some j => rw [e] at h; exact r.get h
def ixD : G2
  | .d (.tuple xs), .d (.int i), M, R => optP (atI xs i) fun v => R (.d v) M
  | .d (.list xs), .d (.int i), M, R => optP (atI xs i) fun v => R (.d v) M
  | .d (.str z), .d (.int i), M, R => z.length ≤ sizeLine ∧ optP (atI z.cps.toList i) fun c => R (.d (.str ⟨#[c]⟩)) M
  | .raw (.ref p), .d (.int i), M, R => getL M p fun xs => optP (atI xs i) fun v => R v M
  | _, _, _, _ => False
theorem ix_imp {x y : V} {H : Hp} {Q : VK} (h : lift2 X.K ixD x y H Q) : rIx X.K x y H Q := by
  obtain ⟨dx, dy, M, R, hm, r1, r2, hg, k⟩ := h
  unfold ixD at hg
  split at hg
  · cases r2
    cases r1 with
    | tup h1 r1 =>
      obtain ⟨v, ev, hg⟩ := optP_elim hg
      obtain ⟨w, ew, rw'⟩ := atI_rd r1 ev
      exact .inr (.inl ⟨_, _, _, w, rfl, rfl, sqT_sub (hide_sub _ _) h1.t, ew, kt_same k hm hg rw'⟩)
  · cases r2
    cases r1 with
    | lst h1 r1 =>
      obtain ⟨v, ev, hg⟩ := optP_elim hg
      obtain ⟨w, ew, rw'⟩ := atI_rd r1 ev
      exact .inl ⟨_, _, _, w, rfl, rfl, SqL.of (hide_sub _ _ _ _ h1), ew, kt_same k hm hg rw'⟩
  · cases r2
    cases r1
    obtain ⟨hz, hg⟩ := hg
    obtain ⟨c, ev, hg⟩ := optP_elim hg
    exact .inr (.inr ⟨_, _, c, rfl, rfl, hz, ev, kt_same k hm hg (.str _)⟩)
  · cases r2
    rename_i M' R' p i
    have r1' : x = .ref p := r1
    subst r1'
    obtain ⟨xs, e, hg⟩ := getL_elim hg
    obtain ⟨v, ev, hg⟩ := optP_elim hg
    obtain ⟨vs, hv, rv⟩ := hm p _ e
    obtain ⟨w, ew, rw'⟩ := atI_rv rv ev
    exact .inl ⟨p, vs, _, w, rfl, rfl, SqL.of hv, ew, kt_same k hm hg rw'⟩
  · exact hg.elim
theorem de_ix (ha : DE X a ta) (hb : DE X b tb) (hs : PlainIx b := by exact fun _ _ => rfl) : DE X (.Subscript a b pos) (dOp ixD ta tb) := by
  have h : IxR X (lift2 X.K ixD) := fun value slice pins s σ H x y v u Q I rx ry h hs => ix_seq value slice pins s σ H x y v u Q I rx ry (ix_imp h) hs
  exact PE.imp (pe_ix h ha hb hs) fun _ _ _ h => op_imp h

/-! ### slices -/
abbrev TOD := Slots → Mem → (Option Int → Mem → Prop) → Prop
def liftO (K : PySem.W.Frag) (t : TOD) : TO := fun σ H Q => ∃ sl M R, RepS K (hide H M) σ sl ∧ RepM K H M ∧ t sl M R ∧ ∀ o M', R o M' → ∀ H', Le H M H' M' → RepM K H' M' → Q o H'
abbrev DO (X : Cx) (e : Option Expr) (t : TOD) : Prop := PO X e (liftO X.K t)
def dNoPart : TOD := fun _ M R => R none M
def dPart (t : TD) : TOD := fun sl M R => t sl M fun x M1 => match x with
  | .d (.int i) => R (some i) M1
  | _ => False
theorem PO.imp {e : Option Expr} {t u : TO} (h : PO X e t) (i : ∀ σ H Q, u σ H Q → t σ H Q) : PO X e u := ⟨fun pins s σ H Q I q => h.run pins s σ H Q I (i σ H Q q)⟩
theorem do_none : DO X none dNoPart := PO.imp po_none fun σ H Q ⟨sl, M, R, hs, hm, ht, k⟩ => k _ M ht H (Le.refl _ _) hm
theorem do_some (h : DE X e te) : DO X (some e) (dPart te) := PO.imp (po_some h) fun σ H Q ⟨sl, M, R, hs, hm, ht, k⟩ => ⟨sl, M, _, hs, hm, ht, fun x M1 h1 v H1 l1 m1 r1 => by
    split at h1
    · cases r1
      exact ⟨_, rfl, k _ M1 h1 H1 l1 m1⟩
    · exact h1.elim⟩
def cutL {α : Type} (xs : List α) (lo hi : Option Int) : List α := (xs.drop (HT.sIx xs.length 0 lo)).take (HT.sIx xs.length xs.length hi - HT.sIx xs.length 0 lo)
theorem cut_rd {K : PySem.W.Frag} {H : Hp} {vs : List V} {ds : List PyData} (r : RDs K H vs ds) (lo hi : Option Int) : RDs K H (cutV vs lo hi) (cutL ds lo hi) := by
  unfold cutV cutL
  rw [r.len]
  exact (r.drop _).take _
theorem cut_all {α : Type} {xs : List α} {lo hi : Option Int} (h : HT.sIx xs.length 0 lo = 0 ∧ HT.sIx xs.length xs.length hi = xs.length) : cutL xs lo hi = xs := by
  unfold cutL
  rw [h.1, h.2, List.drop_zero, Nat.sub_zero, List.take_length]
def slD : DV → Option Int → Option Int → Mem → KD → Prop
  | .d (.tuple xs), lo, hi, M, R => R (.d (.tuple (cutL xs lo hi))) M
  | .d (.list xs), lo, hi, M, R => R (.d (.list (cutL xs lo hi))) M
  | .d (.str z), lo, hi, M, R => z.length ≤ sizeLine ∧ R (.d (.str (cutS z lo hi))) M
  | .scr ns, lo, hi, M, R => R (.d (.list ((cutL ns lo hi).map PyData.int))) M
  | _, _, _, _, _ => False
def liftSl (K : PySem.W.Frag) (g : DV → Option Int → Option Int → Mem → KD → Prop) : V → Option Int → Option Int → Hp → VK → Prop := fun x lo hi H Q => ∃ dx M R, RepM K H M ∧ RV K (hide H M) x dx ∧ g dx lo hi M R ∧ Kt K H M R Q
theorem rds_of_ints {K : PySem.W.Frag} {H : Hp} : ∀ ns : List Int, RDs K H (ns.map V.int) (ns.map PyData.int)
  | [] => .nil
  | n :: ns => .cons (.int n) (rds_of_ints ns)
theorem sl_data : SlR X (liftSl X.K slD) := by
  intro pins s σ H x v vl vu lo hi sl Q I rx hs pl pu h
  obtain ⟨dx, M, R, hm, r1, hg, k⟩ := h
  cases dx with
  | err _ _ => exact hg.elim
  | pr _ _ => exact hg.elim
  | raw _ => exact hg.elim
  | scr ns =>
    obtain ⟨a, rfl, q⟩ := r1
    refine sl_list pins s σ H _ v vl vu lo hi sl Q I rx hs pl pu ⟨_, _, rfl, sqL_sub (hide_sub _ _) q, fun p n => kt_new k hm n hg (rd_lstN hm n ?_)⟩
    have e : cutV (ns.map V.int) lo hi = (cutL ns lo hi).map V.int := by
      unfold cutV cutL
      rw [List.length_map, List.map_take, List.map_drop]
    rw [e]
    exact rds_of_ints _
  | d z =>
    cases z with
    | tuple ds =>
      cases r1 with
      | tup h1 r1 =>
        refine sl_tupP pins s σ H _ v vl vu lo hi sl Q I rx hs pl pu ⟨_, _, rfl, sqT_sub (hide_sub _ _) h1.t, fun w => ?_, fun _ => new_tup k hm hg (cut_rd r1 lo hi)⟩
        rw [r1.len] at w
        exact kt_same k hm hg (by rw [cut_all w]; exact .tup h1 r1)
    | list ds =>
      cases r1 with
      | lst h1 r1 =>
        exact sl_list pins s σ H _ v vl vu lo hi sl Q I rx hs pl pu ⟨_, _, rfl, SqL.of (hide_sub _ _ _ _ h1), fun p n => kt_new k hm n hg (rd_lstN hm n (cut_rd r1 lo hi))⟩
    | str z =>
      cases r1
      exact sl_str pins s σ H _ v vl vu lo hi sl Q I rx hs pl pu ⟨z, rfl, hg.1, kt_same k hm hg.2 (.str _)⟩
    | _ => exact hg.elim
def dSl (te : TD) (tl th : TOD) : TD := fun sl M R => te sl M fun x M1 => tl sl M1 fun l M2 => th sl M2 fun u M3 => slD x l u M3 R
theorem de_slice {lo hi : Option Expr} {tl th : TOD} {p2 : Pos} (he : DE X e te) (hl : DO X lo tl) (hu : DO X hi th) : DE X (.Subscript e (.Slice lo hi none p2) pos) (dSl te tl th) :=
  PE.imp (pe_slice sl_data he hl hu) fun σ H Q ⟨sl, M, R, hs, hm, ht, k⟩ => ⟨sl, M, _, hs, hm, ht, fun x M1 h1 v H1 l1 m1 r1 => ⟨sl, M1, _, hs.sub l1, m1, h1, fun o M2 h2 H2 l2 m2 => ⟨sl, M2, _, hs.sub (l1.trans l2), m2, h2, fun o' M3 h3 H3 l3 m3 =>
    ⟨x, M3, R, m3, r1.sub (l2.trans l3), h3, k.le ((l1.trans l2).trans l3)⟩⟩⟩⟩

/-! ### calls of built-ins -/
abbrev GC := List DV → Mem → KD → Prop
def liftC (K : PySem.W.Frag) (g : GC) : List V → Hp → VK → Prop := fun vs H Q => ∃ xs M R, RepM K H M ∧ RVs K (hide H M) vs xs ∧ g xs M R ∧ Kt K H M R Q
abbrev CallD (X : Cx) (f : Value) (g : GC) : Prop := CallR X f (liftC X.K g)
def dCall (g : GC) (t : TAD) : TD := fun sl M R => t sl M fun xs M1 => g xs M1 R
theorem call_imp {g : GC} {σ : L2.St} {H : Hp} {Q : VK} (h : liftE X.K (dCall g tas) σ H Q) : liftA X.K tas σ H fun vs H1 => liftC X.K g vs H1 Q := by
  obtain ⟨sl, M, R, hs, hm, ht, k⟩ := h
  exact ⟨sl, M, _, hs, hm, ht, fun xs M1 h1 vs H1 l1 m1 r1 => ⟨xs, M1, R, m1, r1, h1, k.le l1⟩⟩
theorem de_callB {x : Str} {id : String} {p : Pos} {g : GC} (hc : CallD X (.builtin id) g) (hg : Gl X x) (hm : X.mg x = none) (hv : bootBuiltins x = some (.builtin id)) (ha : DA X (e :: es) tas) (hn : x ≠ "__name__" := by decide) (hdb : (x == ("__debug__" : Str)) = false := by decide)
    (he : starEach (e :: es) X.env = (false, eval e X.env) :: starEach es X.env := by rfl) (hpl : (backTo pos (starEach es X.env)).any (·.1) = false := by rfl) : DE X (.Call (.Name x p) (e :: es) [] pos) (dCall g tas) :=
  PE.imp (pe_callB hc hg hm hv ha hn hdb he hpl) fun _ _ _ h => call_imp h
theorem de_callTy {x : Str} {T : String} {p : Pos} {g : GC} (hc : CallD X (.type T) g) (hg : Gl X x) (hm : X.mg x = none) (hv : bootBuiltins x = some (.type T)) (ha : DA X (e :: es) tas) (hn : x ≠ "__name__" := by decide) (hdb : (x == ("__debug__" : Str)) = false := by decide)
    (he : starEach (e :: es) X.env = (false, eval e X.env) :: starEach es X.env := by rfl) (hpl : (backTo pos (starEach es X.env)).any (·.1) = false := by rfl) : DE X (.Call (.Name x p) (e :: es) [] pos) (dCall g tas) :=
  PE.imp (pe_callTy hc hg hm hv ha hn hdb he hpl) fun _ _ _ h => call_imp h
/-- one argument of data -/
def g1 (f : PyData → Mem → KD → Prop) : GC
  | [.d x], M, R => f x M R
  | _, _, _ => False
theorem cad1 {f : Value} {g : PyData → Mem → KD → Prop}
    (h : ∀ pins s σ H x u Q dx M R, Inv X pins σ H s → RelV x u → RepM X.K H M → RD X.K (hide H M) x dx → g dx M R → Kt X.K H M R Q → wpAny (model X.prog X.w) X.A (call f [u]) (EP X pins σ Q) X.xe s) : CallD X f (g1 g) := by
  intro pins s σ H vs us Q I r hh
  obtain ⟨xs, M, R, hm, rv, hg, k⟩ := hh
  match xs, hg with
  | [.d x], hg =>
    cases rv with
    | cons r1 r2 =>
      cases r2
      cases r with
      | cons q1 q2 =>
        cases q2
        exact h pins s σ H _ _ Q x M R I q1 hm r1 hg k
def lenD : PyData → Mem → KD → Prop
  | .str z, M, R => z.length ≤ sizeLine ∧ R (.d (.int z.length)) M
  | .list xs, M, R => R (.d (.int xs.length)) M
  | .tuple xs, M, R => R (.d (.int xs.length)) M
  | _, _, _ => False
/-- len of data or of an owned list -/
def lenG : GC
  | [.d x], M, R => lenD x M R
  | [.raw (.ref p)], M, R => getL M p fun xs => R (.d (.int xs.length)) M
  | _, _, _ => False
theorem cd_len : CallD X (.builtin "len") lenG := by
  intro pins s σ H vs us Q I r hh
  obtain ⟨xs, M, R, hm, rv, hg, k⟩ := hh
  match xs, hg with
  | [.d x], hg =>
    cases rv with
    | cons r1 r2 =>
      cases r2
      refine call_len pins s σ H _ us Q I r ?_
      cases r1 with
      | str z => exact ⟨_, z.length, rfl, ⟨hg.1, rfl⟩, kt_same k hm hg.2 (.int _)⟩
      | lst h1 r1 => exact ⟨_, _, rfl, .inl ⟨_, SqL.of (hide_sub _ _ _ _ h1), rfl⟩, by rw [r1.len]; exact kt_same k hm hg (.int _)⟩
      | tup h1 r1 => exact ⟨_, _, rfl, .inr ⟨_, sqT_sub (hide_sub _ _) h1.t, rfl⟩, by rw [r1.len]; exact kt_same k hm hg (.int _)⟩
      | _ => exact hg.elim
  | [.raw (.ref p)], hg =>
    cases rv with
    | cons r1 r2 =>
      cases r2
      cases r1
      obtain ⟨xs, e, hg'⟩ := getL_elim hg
      obtain ⟨ws, hv, rw'⟩ := hm p _ e
      exact call_len pins s σ H _ us Q I r ⟨_, _, rfl, .inl ⟨_, SqL.of hv, rfl⟩, by rw [RVs.len rw']; exact kt_same k hm hg' (.int _)⟩
def absD : PyData → Mem → KD → Prop
  | .int i, M, R => R (.d (.int (if i < 0 then -i else i))) M
  | _, _, _ => False
theorem vals_one {x : V} {u : Value} (h : RelV x u) : Vals [x] [u] := .cons h .nil
theorem cd_abs : CallD X (.builtin "abs") (g1 absD) := cad1 fun pins s σ H x u Q dx M R I ru hm rx hg k => by
  cases rx with
  | int i => exact call_abs pins s σ H _ _ Q I (vals_one ru) ⟨i, rfl, kt_same k hm hg (.int _)⟩
  | _ => exact hg.elim
/-- tuple(x), list(x) -/
def tupleG : GC
  | [.d (.list xs)], M, R => R (.d (.tuple xs)) M
  | [.d (.tuple xs)], M, R => R (.d (.tuple xs)) M
  | [.raw (.ref p)], M, R => getL M p fun xs => optP (allD xs) fun ds => R (.d (.tuple ds)) M
  | _, _, _ => False
theorem cd_tuple : CallD X (.type "tuple") tupleG := by
  intro pins s σ H vs us Q I r hh
  obtain ⟨xs, M, R, hm, rv, hg, k⟩ := hh
  match xs, hg with
  | [.d (.list xs)], hg =>
    cases rv with
    | cons r1 r2 =>
      cases r2
      cases r1 with
      | lst h1 r1 => exact call_tupleP pins s σ H _ us Q I r ⟨_, _, rfl, .inl ⟨SqL.of (hide_sub _ _ _ _ h1), new_tup k hm hg r1⟩⟩
  | [.d (.tuple xs)], hg =>
    cases rv with
    | cons r1 r2 =>
      cases r2
      cases r1 with
      | tup h1 r1 => exact call_tupleP pins s σ H _ us Q I r ⟨_, _, rfl, .inr ⟨sqT_sub (hide_sub _ _) h1.t, kt_same k hm hg (.tup h1 r1)⟩⟩
  | [.raw (.ref p)], hg =>
    cases rv with
    | cons r1 r2 =>
      cases r2
      cases r1
      obtain ⟨xs, e, hg'⟩ := getL_elim hg
      obtain ⟨ds, ed, hg2⟩ := optP_elim hg'
      have ed' := allD_map ed
      subst ed'
      obtain ⟨ws, hv, rw'⟩ := hm p _ e
      exact call_tupleP pins s σ H _ us Q I r ⟨_, _, rfl, .inl ⟨SqL.of hv, new_tup k hm hg2 (RVs.data rw')⟩⟩
def intsD : List PyData → Option (List Int)
  | [] => some []
  | .int i :: r => (intsD r).map (i :: ·)
  | _ :: _ => none
theorem intsD_map : ∀ {ds : List PyData} {ns : List Int}, intsD ds = some ns → ds = ns.map PyData.int
  | [], ns, h => by cases h; rfl
  | .int i :: r, ns, h => by
    unfold intsD at h
    cases e : intsD r with
    | none => rw [e] at h; cases h
    | some es => rw [e] at h; cases h; rw [intsD_map e]; rfl
  | .none :: _, ns, h => by cases h
  | .bool _ :: _, ns, h => by cases h
  | .str _ :: _, ns, h => by cases h
  | .list _ :: _, ns, h => by cases h
  | .tuple _ :: _, ns, h => by cases h
  | .dict _ :: _, ns, h => by cases h
theorem intsD_of (ns : List Int) : intsD (ns.map PyData.int) = some ns := by
  induction ns with
  | nil => rfl
  | cons d ds ih => show (intsD (ds.map PyData.int)).map (d :: ·) = _; rw [ih]; rfl
theorem rds_ints {K : PySem.W.Frag} {H : Hp} : ∀ {vs : List V} {ns : List Int}, RDs K H vs (ns.map PyData.int) → vs = ns.map V.int
  | [], [], _ => rfl
  | v :: vs, n :: ns, r => by
    cases r with
    | cons h t =>
      cases h
      rw [rds_ints t]
      rfl
/-- sum of a list of ints -/
def sumG : GC
  | [.d (.list xs)], M, R => optP (intsD xs) fun ns => R (.d (.int ns.sum)) M
  | _, _, _ => False
theorem cd_sum (hc : X.calm = true) : CallD X (.builtin "sum") sumG := by
  intro pins s σ H vs us Q I r hh
  obtain ⟨xs, M, R, hm, rv, hg, k⟩ := hh
  match xs, hg with
  | [.d (.list xs)], hg =>
    cases rv with
    | cons r1 r2 =>
      cases r2
      cases r1 with
      | lst h1 r1 =>
        obtain ⟨ns, e, hg'⟩ := optP_elim hg
        have e' := intsD_map e
        subst e'
        have ev := rds_ints r1
        subst ev
        exact cr_sum hc pins s σ H _ us Q I r ⟨_, ns, rfl, SqL.of (hide_sub _ _ _ _ h1), kt_same k hm hg' (.int _)⟩
/-- max(i, j), min(i, j); max(list), min(list) of ints -/
def maxG : GC
  | [.d (.int i), .d (.int j)], M, R => R (.d (.int (if j > i then j else i))) M
  | [.d (.list xs)], M, R => optP (intsD xs) fun ns => 0 < ns.length ∧ ∀ m, m ∈ ns → (∀ y, y ∈ ns → y ≤ m) → R (.d (.int m)) M
  | _, _, _ => False
def minG : GC
  | [.d (.int i), .d (.int j)], M, R => R (.d (.int (if j < i then j else i))) M
  | [.d (.list xs)], M, R => optP (intsD xs) fun ns => 0 < ns.length ∧ ∀ m, m ∈ ns → (∀ y, y ∈ ns → m ≤ y) → R (.d (.int m)) M
  | _, _, _ => False
theorem cd_max (hc : X.calm = true) : CallD X (.builtin "max") maxG := by
  intro pins s σ H vs us Q I r hh
  obtain ⟨xs, M, R, hm, rv, hg, k⟩ := hh
  match xs, hg with
  | [.d (.int i), .d (.int j)], hg =>
    cases rv with
    | cons r1 r2 =>
      cases r2 with
      | cons r2 r3 =>
        cases r3
        cases r1
        cases r2
        exact call_max2 hc pins s σ H _ us Q I r ⟨i, j, rfl, kt_same k hm hg (.int _)⟩
  | [.d (.list xs)], hg =>
    cases rv with
    | cons r1 r2 =>
      cases r2
      cases r1 with
      | lst h1 r1 =>
        obtain ⟨ns, e, hg'⟩ := optP_elim hg
        have e' := intsD_map e
        subst e'
        have ev := rds_ints r1
        subst ev
        exact cr_max hc pins s σ H _ us Q I r ⟨_, ns, rfl, SqL.of (hide_sub _ _ _ _ h1), hg'.1, fun m m1 m2 => kt_same k hm (hg'.2 m m1 m2) (.int _)⟩
theorem cd_min (hc : X.calm = true) : CallD X (.builtin "min") minG := by
  intro pins s σ H vs us Q I r hh
  obtain ⟨xs, M, R, hm, rv, hg, k⟩ := hh
  match xs, hg with
  | [.d (.int i), .d (.int j)], hg =>
    cases rv with
    | cons r1 r2 =>
      cases r2 with
      | cons r2 r3 =>
        cases r3
        cases r1
        cases r2
        exact call_min2 hc pins s σ H _ us Q I r ⟨i, j, rfl, kt_same k hm hg (.int _)⟩
  | [.d (.list xs)], hg =>
    cases rv with
    | cons r1 r2 =>
      cases r2
      cases r1 with
      | lst h1 r1 =>
        obtain ⟨ns, e, hg'⟩ := optP_elim hg
        have e' := intsD_map e
        subst e'
        have ev := rds_ints r1
        subst ev
        exact cr_min hc pins s σ H _ us Q I r ⟨_, ns, rfl, SqL.of (hide_sub _ _ _ _ h1), hg'.1, fun m m1 m2 => kt_same k hm (hg'.2 m m1 m2) (.int _)⟩
/-- int(x) -/
def intG : PyData → Mem → KD → Prop
  | .int i, M, R => R (.d (.int i)) M
  | .bool k, M, R => R (.d (.int (if k then 1 else 0))) M
  | _, _, _ => False
theorem cd_int : CallD X (.type "int") (g1 intG) := cad1 fun pins s σ H x u Q dx M R I ru hm rx hg k => by
  cases rx with
  | int i => exact call_int1 pins s σ H _ _ Q I (vals_one ru) (.inl ⟨i, rfl, kt_same k hm hg (.int _)⟩)
  | bl i => exact call_int1 pins s σ H _ _ Q I (vals_one ru) (.inr ⟨i, rfl, kt_same k hm hg (.int _)⟩)
  | _ => exact hg.elim

/-! ### repr: where no repr is under way -/
mutual
theorem noDict_plain : ∀ d : PyData, d.plain = true → d.hasDict = false
  | .none, _ => by simp only [PyData.hasDict]
  | .bool _, _ => by simp only [PyData.hasDict]
  | .int _, _ => by simp only [PyData.hasDict]
  | .str _, _ => by simp only [PyData.hasDict]
  | .list xs, h => by
    simp only [PyData.hasDict]
    exact noDict_plainAll xs (by simpa only [PyData.plain] using h)
  | .tuple xs, h => by
    simp only [PyData.hasDict]
    exact noDict_plainAll xs (by simpa only [PyData.plain] using h)
  | .dict _, h => by simp [PyData.plain] at h
theorem noDict_plainAll : ∀ ds : List PyData, PyData.plainAll ds = true → PyData.hasDictAll ds = false
  | [], _ => by simp only [PyData.hasDictAll]
  | x :: xs, h => by
    have h' : x.plain = true ∧ PyData.plainAll xs = true := by simpa only [PyData.plainAll, Bool.and_eq_true] using h
    simp only [PyData.hasDictAll, noDict_plain x h'.1, noDict_plainAll xs h'.2, Bool.or_self]
end
def reprD (x : PyData) (M : Mem) (R : KD) : Prop := x.showable = true ∧ x.depth ≤ 60 ∧ x.shown.length ≤ sizeLine ∧ (x.hasDict = true → lstFree x = true) ∧ R (.d (.str x.shown)) M
theorem cd_repr {k : Nat} (hr : Room k X.A) (hgd : X.A.guards = some []) : CallD X (.builtin "repr") (g1 reprD) :=
  cad1 fun pins s σ H x u Q dx M R I ru hm rx hg k => by
  obtain ⟨h1, h2, h3, h4, hg⟩ := hg
  have hu := hr.units
  cases rx with
  | non =>
    cases ru
    exact P.repr_of_none ⟨.str "None", H, I.tok _, ⟨_, rfl⟩, kt_same k hm hg (.str _)⟩
  | bl b =>
    cases ru
    exact P.repr_of_bool ⟨.str _, H, I.tok _, ⟨_, rfl⟩, kt_same k hm hg (.str _)⟩
  | int i =>
    obtain ⟨t, rfl⟩ := ru
    exact P.repr_of_int (by simpa [PyData.showable] using h1) ⟨.str _, H, I.tok _, ⟨_, rfl⟩, kt_same k hm hg (.str _)⟩
  | str z =>
    obtain ⟨t, rfl⟩ := ru
    exact P.repr_of_str (hsz := h3) ⟨.str _, H, I.tok _, ⟨_, rfl⟩, kt_same k hm hg (.str _)⟩
  | lst q1 q2 =>
    obtain ⟨as, rd, hn⟩ := RD.readsF I (.lst q1 q2) ru
    cases ru
    exact repr_of_reads' rd h1 (fun q => hn (h4 q)) hgd (by omega) (fun _ _ e => e) (fun h' u tk hk => ⟨.str _, H, I.kept hk, ⟨_, rfl⟩, kt_same k hm hg (.str _)⟩) h3
  | tup q1 q2 =>
    obtain ⟨as, rd, hn⟩ := RD.readsF I (.tup q1 q2) ru
    cases ru
    exact repr_of_reads' rd h1 (fun q => hn (h4 q)) hgd (by omega) (fun _ _ e => e) (fun h' u tk hk => ⟨.str _, H, I.kept hk, ⟨_, rfl⟩, kt_same k hm hg (.str _)⟩) h3
  | dct q1 q2 =>
    obtain ⟨as, rd, hn⟩ := RD.readsF I (.dct q1 q2) ru
    cases ru
    exact repr_of_reads' rd h1 (fun q => hn (h4 q)) hgd (by omega) (fun _ _ e => e) (fun h' u tk hk => ⟨.str _, H, I.kept hk, ⟨_, rfl⟩, kt_same k hm hg (.str _)⟩) h3
end
end DL

/-! The data layer: statements, targets, what is walked, loops, comprehensions. -/
namespace DL
open PySem PySem.Spec PyProof.Rows L2
section
variable {X : Cx} {a b c e : Expr} {es : List Expr} {pos : Pos} {ta tb tc te : TD} {tas : TAD} {tA : TTD} {st : Stmt} {sts : List Stmt} {t u : TSD}

/-! ### statements -/
def dNext : TSD := fun D sl M => D.nx sl M
@[irreducible] def dSeq (t u : TSD) : TSD := fun D sl M => t { D with nx := u D } sl M
theorem sq {t u : TSD} {D : EndsD} {sl : Slots} {M : Mem} (h : t { D with nx := u D } sl M) : dSeq t u D sl M := by
  unfold dSeq
  exact h
theorem sq_elim {t u : TSD} {D : EndsD} {sl : Slots} {M : Mem} (h : dSeq t u D sl M) : t { D with nx := u D } sl M := by
  unfold dSeq at h
  exact h
def dBreak : TSD := fun D sl M => D.bk sl M
def dCont : TSD := fun D sl M => D.ct sl M
def dDrop (te : TD) : TSD := fun D sl M => te sl M fun _ M1 => D.nx sl M1
def dRet (te : TD) : TSD := fun D sl M => te sl M D.rt
def dRetN : TSD := fun D _ M => D.rt (.d .none) M
def dIfS (t : TTD) (a b : TSD) : TSD := fun D sl M => t sl M fun k M1 => if k = true then a D sl M1 else b D sl M1
def dSet (i : Nat) (te : TD) : TSD := fun D sl M => te sl M fun x M1 => D.nx (sl.set i (some x)) M1
theorem dss_nil : DSs X [] dNext := PSs.imp pss_nil fun D σ H ⟨sl, M, E, hs, hm, ht, kn, kr, kb, kc⟩ => kn sl M ht σ H (Le.refl _ _) hm hs
theorem dss_cons (h1 : DS X st t) (h2 : DSs X sts u) : DSs X (st :: sts) (dSeq t u) :=
  PSs.imp (pss_cons h1 h2) fun D σ H ⟨sl, M, E, hs, hm, ht, kn, kr, kb, kc⟩ => ⟨sl, M, { E with nx := u E }, hs, hm, sq_elim ht, fun sl' M' h σ' H' l m r => ⟨sl', M', E, r, m, h, kn.le l, kr.le l, kb.le l, kc.le l⟩, kr, kb, kc⟩
theorem dss_one (h1 : DS X st t) : DSs X [st] t := pss_one h1
theorem ds_pass : DS X (.Pass pos) dNext := PS.imp ps_pass fun D σ H ⟨sl, M, E, hs, hm, ht, kn, kr, kb, kc⟩ => kn sl M ht σ H (Le.refl _ _) hm hs
theorem ds_break : DS X (.Break pos) dBreak := PS.imp ps_break fun D σ H ⟨sl, M, E, hs, hm, ht, kn, kr, kb, kc⟩ => kb sl M ht σ H (Le.refl _ _) hm hs
theorem ds_continue : DS X (.Continue pos) dCont := PS.imp ps_continue fun D σ H ⟨sl, M, E, hs, hm, ht, kn, kr, kb, kc⟩ => kc sl M ht σ H (Le.refl _ _) hm hs
theorem ds_expr (he : DE X e te) (hs : swapsWith e none pos.line X.env = pure false := by rfl) : DS X (.Expr e pos) (dDrop te) :=
  PS.imp (ps_expr he hs) fun D σ H ⟨sl, M, E, hs, hm, ht, kn, kr, kb, kc⟩ => ⟨sl, M, _, hs, hm, ht, fun x M1 h1 v H1 l1 m1 r1 => kn sl M1 h1 σ H1 l1 m1 (hs.sub l1)⟩
theorem ds_ret (he : DE X e te) : DS X (.Return (some e) pos) (dRet te) :=
  PS.imp (ps_ret he) fun D σ H ⟨sl, M, E, hs, hm, ht, kn, kr, kb, kc⟩ => ⟨sl, M, _, hs, hm, ht, kr⟩
theorem ds_retN : DS X (.Return none pos) dRetN :=
  PS.imp ps_retN fun D σ H ⟨sl, M, E, hs, hm, ht, kn, kr, kb, kc⟩ => kr _ M ht _ H (Le.refl _ _) hm .non
theorem ds_if {x y : List Stmt} (hc : DT X c tA) (ha : DSs X x t) (hb : DSs X y u) : DS X (.If c x y pos) (dIfS tA t u) :=
  PS.imp (ps_if hc ha hb) fun D σ H ⟨sl, M, E, hs, hm, ht, kn, kr, kb, kc⟩ => ⟨sl, M, _, hs, hm, ht, fun k M1 h1 H1 l1 m1 => by
    cases k with
    | true => exact ⟨sl, M1, E, hs.sub l1, m1, h1, kn.le l1, kr.le l1, kb.le l1, kc.le l1⟩
    | false => exact ⟨sl, M1, E, hs.sub l1, m1, h1, kn.le l1, kr.le l1, kb.le l1, kc.le l1⟩⟩
theorem ds_set {i : Nat} {x : Str} {pos' : Pos} (hN : X.N.Nodup) (hi : X.N[i]? = some x) (hx : Loc X.env.scope x) (he : DE X e te) (hs : swapsWith e (some (.Name x pos')) pos.line X.env = pure false := by rfl)
    (hf : X.fn x = true ∨ X.env.scope.names.lookup x = some .local := by first | exact .inl rfl | exact .inr rfl | assumption) : DS X (.Assign [.Name x pos'] e pos) (dSet i te) :=
  PS.imp (ps_set (i := i) hN hi hx he hs hf) fun D σ H ⟨sl, M, E, hs, hm, ht, kn, kr, kb, kc⟩ => ⟨sl, M, _, hs, hm, ht, fun x M1 h1 v H1 l1 m1 r1 => kn _ M1 h1 _ H1 l1 m1 ((hs.sub l1).set i r1)⟩
/-- the owned list of a slot becomes data -/
def dFreeze (i : Nat) (t : TSD) : TSD := fun D sl M => match sl[i]? with
  | some (some (.raw (.ref p))) => getL M p fun xs => optP (allD xs) fun ds => t D (sl.set i (some (.d (.list ds)))) (delM M p)
  | _ => False
theorem dss_freeze (i : Nat) (h : DSs X sts t) : DSs X sts (dFreeze i t) := PSs.imp h fun D σ H ⟨sl, M, E, hs, hm, ht, kn, kr, kb, kc⟩ => by
  unfold dFreeze at ht
  split at ht
  · rename_i p e
    obtain ⟨xs, ex, ht⟩ := getL_elim ht
    obtain ⟨ds, ed, ht2⟩ := optP_elim ht
    have ed' := allD_map ed
    subst ed'
    obtain ⟨v, ev, rv⟩ := hs.2 i _ e
    cases rv
    obtain ⟨vs, hv, rvs⟩ := hm p _ ex
    have l : Le H M H (delM M p) := le_del (K := X.K)
    have hp : delM M p p = none := by unfold delM; rw [if_pos rfl]
    have rd : RD X.K (hide H (delM M p)) (.ref p) (.list ds) := .lst (hide_of hv hp) (RDs.sub l (RVs.data rvs))
    have hs' : RepS X.K (hide H (delM M p)) σ (sl.set i (some (.d (.list ds)))) := by
      have h1 := (hs.sub l).set i (v := .ref p) (x := .d (.list ds)) rd
      have e2 : σ.set i (some (.ref p)) = σ := by
        apply List.ext_getElem?
        intro j
        by_cases hj : i = j
        · subst hj
          rw [List.getElem?_set_self ((List.getElem?_eq_some_iff.mp ev).1), ev]
        · rw [List.getElem?_set_ne hj]
      rw [e2] at h1
      exact h1
    exact ⟨_, _, E, hs', rep_del hm, ht2, kn.le l, kr.le l, kb.le l, kc.le l⟩
  · exact ht.elim

/-! ### targets -/
abbrev TGD := DV → Slots → Mem → (Slots → Mem → Prop) → Prop
abbrev TGsD := List DV → Slots → Mem → (Slots → Mem → Prop) → Prop
def KtG (K : PySem.W.Frag) (H : Hp) (M : Mem) (ss : List Nat) (σ : L2.St) (R : Slots → Mem → Prop) (Q : L2.St → Hp → Prop) : Prop :=
  ∀ sl' M', R sl' M' → ∀ σ' H', Le H M H' M' → RepM K H' M' → RepS K (hide H' M') σ' sl' → σ'.length = σ.length → (∀ j, j ∉ ss → σ'[j]? = σ[j]?) → Q σ' H'
def liftG (K : PySem.W.Frag) (ss : List Nat) (g : TGD) : TG := fun v σ H Q => ∃ x sl M R, RepS K (hide H M) σ sl ∧ RepM K H M ∧ RV K (hide H M) v x ∧ g x sl M R ∧ KtG K H M ss σ R Q
def liftGs (K : PySem.W.Frag) (ss : List Nat) (g : TGsD) : TGs := fun vs σ H Q => ∃ xs sl M R, RepS K (hide H M) σ sl ∧ RepM K H M ∧ RVs K (hide H M) vs xs ∧ g xs sl M R ∧ KtG K H M ss σ R Q
abbrev DG (X : Cx) (tg : Expr) (ss : List Nat) (g : TGD) : Prop := PG X tg (liftG X.K ss g)
abbrev DGs (X : Cx) (tgs : List Expr) (ss : List Nat) (g : TGsD) : Prop := PGs X tgs (liftGs X.K ss g)
theorem PG.imp {tg : Expr} {t u : TG} (h : PG X tg t) (i : ∀ v σ H Q, u v σ H Q → t v σ H Q) : PG X tg u := ⟨fun pins s σ H v w Q I r q => h.run pins s σ H v w Q I r (i v σ H Q q)⟩
theorem PGs.imp {tg : List Expr} {t u : TGs} (h : PGs X tg t) (i : ∀ v σ H Q, u v σ H Q → t v σ H Q) : PGs X tg u := ⟨fun pins s σ H v w Q I r q => h.run pins s σ H v w Q I r (i v σ H Q q)⟩
def dgName (i : Nat) : TGD := fun x sl M R => R (sl.set i (some x)) M
theorem dg_name {i : Nat} {x : Str} (hN : X.N.Nodup) (hi : X.N[i]? = some x) (hx : Loc X.env.scope x) (hf : X.fn x = true ∨ X.env.scope.names.lookup x = some .local := by first | exact .inl rfl | exact .inr rfl | assumption) : DG X (.Name x pos) [i] (dgName i) :=
  PG.imp (pg_name (i := i) hN hi hx hf) fun v σ H Q ⟨x, sl, M, R, hs, hm, rv, hg, k⟩ => k _ M hg _ H (Le.refl _ _) hm (hs.set i rv) (by simp) (fun j hj => by
    rw [List.getElem?_set_ne]
    intro z
    exact hj (by simp [z]))
def dgNil : TGsD := fun xs sl M R => match xs with
  | [] => R sl M
  | _ :: _ => False
def dgCons (g : TGD) (t : TGsD) : TGsD := fun xs sl M R => match xs with
  | x :: r => g x sl M fun sl' M' => t r sl' M' R
  | [] => False
theorem dgs_nil : DGs X [] [] dgNil := PGs.imp pgs_nil fun v σ H Q ⟨xs, sl, M, R, hs, hm, rv, hg, k⟩ => by
  cases rv with
  | nil => exact ⟨rfl, k _ M hg _ H (Le.refl _ _) hm hs rfl fun _ _ => rfl⟩
  | cons _ _ => exact hg.elim
theorem dgs_cons {e : Expr} {es : List Expr} {s1 s2 : List Nat} {g : TGD} {t : TGsD} (h1 : DG X e s1 g) (h2 : DGs X es s2 t)
    (hs : (assignEach (e :: es) X.env).map (·.2) = assign e X.env :: (assignEach es X.env).map (·.2) := by rfl) : DGs X (e :: es) (s1 ++ s2) (dgCons g t) :=
  PGs.imp (pgs_cons h1 h2 hs) fun v σ H Q ⟨xs, sl, M, R, hs, hm, rv, hg, k⟩ => by
    cases rv with
    | nil => exact hg.elim
    | cons r1 r2 =>
      refine ⟨_, _, rfl, _, sl, M, _, hs, hm, r1, hg, fun sl' M' h σ' H' l m r len fr => ⟨_, sl', M', R, r, m, RVs.sub l r2, h, fun sl2 M2 h2 σ2 H2 l2 m2 r2 len2 fr2 => k sl2 M2 h2 σ2 H2 (l.trans l2) m2 r2 (len2.trans len) fun j hj => ?_⟩⟩
      rw [fr2 j (fun z => hj (List.mem_append_right _ z)), fr j (fun z => hj (List.mem_append_left _ z))]
def dgTup (n : Nat) (t : TGsD) : TGD := fun x sl M R => match x with
  | .d (.tuple ds) => ds.length = n ∧ t (ds.map DV.d) sl M R
  | .pr x y => 2 = n ∧ t [x, y] sl M R
  | _ => False
theorem dg_tup {es : List Expr} {k : Nat} {ss : List Nat} {t : TGsD} {n : Nat} (hc : X.calm = true) (h : DGs X es ss t)
    (hn : (assignEach es X.env).length = n := by rfl) (hst : (assignEach es X.env).findIdx? (·.1) = none := by rfl) : DG X (.Tuple es k pos) ss (dgTup n t) :=
  PG.imp (pg_tup hc h hn hst) fun v σ H Q ⟨x, sl, M, R, hs, hm, rv, hg, k⟩ => by
    unfold dgTup at hg
    split at hg
    · cases rv with
      | tup h1 r1 => exact ⟨_, _, rfl, sqT_sub (hide_sub _ _) h1.t, by rw [r1.len]; exact hg.1, _, sl, M, R, hs, hm, RDs.vals r1, hg.2, k⟩
    · obtain ⟨a, v1, v2, rfl, q, r1, r2⟩ := rv
      exact ⟨_, _, rfl, sqT_sub (hide_sub _ _) q, hg.1, _, sl, M, R, hs, hm, .cons r1 (.cons r2 .nil), hg.2, k⟩
    · exact hg.elim
/-- target = value -/
def dAsg (te : TD) (g : TGD) : TSD := fun D sl M => te sl M fun x M1 => g x sl M1 D.nx
theorem ds_asg {tg e : Expr} {ss : List Nat} {g : TGD} (he : DE X e te) (hg : DG X tg ss g) (hs : swapsWithSole [tg] e pos.line X.env = pure false := by rfl) (hw : swappedStores [tg] e X.env = pure none := by rfl)
    (h1 : (assignEach [tg] X.env).map (·.2) = [assign tg X.env] := by rfl) : DS X (.Assign [tg] e pos) (dAsg te g) :=
  PS.imp (ps_asg he hg hs hw h1) fun D σ H ⟨sl, M, E, hs, hm, ht, kn, kr, kb, kc⟩ => ⟨sl, M, _, hs, hm, ht, fun x M1 h1 v H1 l1 m1 r1 => ⟨x, sl, M1, _, hs.sub l1, m1, r1, h1, fun sl' M' h σ' H' l m r _ _ => kn _ _ h _ _ (l1.trans l) m r⟩⟩
/-- a, b = x, y -/
def dPar (i j : Nat) (ta : TAD) : TSD := fun D sl M => ta sl M fun xs M1 => match xs with
  | [x, y] => D.nx ((sl.set i (some x)).set j (some y)) M1
  | _ => False
theorem ds_par {i j : Nat} {x y : Str} {a b : Expr} {ta : TAD} {px py pt : Pos} {kt k2 pt2} (hc : X.calm = true) (hN : X.N.Nodup) (hi : X.N[i]? = some x) (hj : X.N[j]? = some y) (hij : i ≠ j)
    (hx : X.env.scope.names.lookup x = some .local) (hy : X.env.scope.names.lookup y = some .local) (ha : DA X [a, b] ta)
    (hw : swappedStores [.Tuple [.Name x px, .Name y py] kt pt] (.Tuple [a, b] k2 pt2) X.env = pure (some [x, y]))
    (hs : swapsWithSole [.Tuple [.Name x px, .Name y py] kt pt] (.Tuple [a, b] k2 pt2) pos.line X.env = pure false := by rfl) :
    DS X (.Assign [.Tuple [.Name x px, .Name y py] kt pt] (.Tuple [a, b] k2 pt2) pos) (dPar i j ta) :=
  PS.imp (ps_par hc hN hi hj hij hx hy ha hw hs) fun D σ H ⟨sl, M, E, hs, hm, ht, kn, kr, kb, kc⟩ => ⟨sl, M, _, hs, hm, ht, fun xs M1 h1 vs H1 l1 m1 r1 => by
    match xs, h1 with
    | [x, y], h1 =>
      cases r1 with
      | cons r1 r2 =>
        cases r2 with
        | cons r2 r3 =>
          cases r3
          exact ⟨_, _, rfl, kn _ M1 h1 _ H1 l1 m1 (((hs.sub l1).set i r1).set j r2)⟩⟩
/-- x op= e of ints -/
def dAug (i : Nat) (te : TD) (f : Int → Int → Int) : TSD := fun D sl M => match sl[i]? with
  | some (some (.d (.int n))) => te sl M fun y M1 => match y with
    | .d (.int m) => D.nx (sl.set i (some (.d (.int (f n m))))) M1
    | _ => False
  | _ => False
theorem ds_aug {i : Nat} {x : Str} {op : Operator} {f : Int → Int → Int} {pos' : Pos} (hN : X.N.Nodup) (hi : X.N[i]? = some x) (hx : Loc X.env.scope x) (he : DE X e te) (ho : PIp X op (ipI f))
    (hf : X.fn x = true ∨ X.env.scope.names.lookup x = some .local := by first | exact .inl rfl | exact .inr rfl | assumption) : DS X (.AugAssign (.Name x pos') op e pos) (dAug i te f) :=
  PS.imp (ps_aug (i := i) hN hi hx he ho hf) fun D σ H ⟨sl, M, E, hs, hm, ht, kn, kr, kb, kc⟩ => by
    unfold dAug at ht
    split at ht
    · rename_i n en
      obtain ⟨v, ev, rv⟩ := hs.2 i _ en
      cases rv
      refine ⟨_, ev, sl, M, _, hs, hm, ht, fun y M1 h1 w H1 l1 m1 r1 => ?_⟩
      split at h1
      · cases r1
        exact ⟨_, _, rfl, rfl, kn _ M1 h1 _ H1 l1 m1 ((hs.sub l1).set i (x := .d _) (.int _))⟩
      · exact h1.elim
    · exact ht.elim
/-- o[i] = e, o an owned list -/
def dStore (te to ti : TD) : TSD := fun D sl M => te sl M fun x M1 => to sl M1 fun o M2 => ti sl M2 fun i M3 => match o, i with
  | .raw (.ref p), .d (.int k) => getL M3 p fun xs => optP (ixN xs.length k) fun j => D.nx sl (updM M3 p (.lst (xs.set j x)))
  | _, _ => False
theorem ds_store {o i : Expr} {to ti : TD} {pos' : Pos} (he : DE X e te) (ho : DE X o to) (hi : DE X i ti)
    (ha : ∀ v, assign (.Subscript o i pos') X.env v = (do
      let ov ← holding [v] (eval o X.env)
      let iv ← holding [v, ov] (eval i X.env)
      standAt pos'
      holding [v, ov, iv] (setItem ov iv v)
      release [v, ov, iv] []) := by intro _; rfl) (hs : swapsWithSole [.Subscript o i pos'] e pos.line X.env = pure false := by rfl) (hw : swappedStores [.Subscript o i pos'] e X.env = pure none := by rfl)
    (h1 : (assignEach [.Subscript o i pos'] X.env).map (·.2) = [assign (.Subscript o i pos') X.env] := by rfl) : DS X (.Assign [.Subscript o i pos'] e pos) (dStore te to ti) :=
  PS.imp (ps_asg he (pg_sub ho hi set_list ha) hs hw h1) fun D σ H ⟨sl, M, E, hs, hm, ht, kn, kr, kb, kc⟩ => ⟨sl, M, _, hs, hm, ht, fun x M1 h1 v H1 l1 m1 r1 => ⟨sl, M1, _, hs.sub l1, m1, h1, fun o M2 h2 ov H2 l2 m2 r2 => ⟨sl, M2, _, hs.sub (l1.trans l2), m2, h2, fun i M3 h3 iv H3 l3 m3 r3 => by
    have l12 := l1.trans l2
    have l := l12.trans l3
    split at h3
    · rename_i p k
      obtain ⟨xs, ex, h3⟩ := getL_elim h3
      obtain ⟨j, ej, h3⟩ := optP_elim h3
      have r2' : ov = .ref p := r2
      subst r2'
      cases r3
      obtain ⟨vs, hv, rvs⟩ := m3 p _ ex
      exact ⟨p, vs, k, j, rfl, rfl, hv, by rw [RVs.len rvs]; exact ej, kn _ _ h3 _ _ (l.trans (le_write ex)) (rep_write m3 ex (RVs.set (r1.sub (l2.trans l3)) j rvs)) (hs.sub (l.trans (le_write ex)))⟩
    · exact h3.elim⟩⟩⟩
/-- o.append(e), o an owned list -/
def dAppend (to te : TD) : TSD := fun D sl M => to sl M fun o M1 => match o with
  | .raw (.ref p) => getL M1 p fun _ => te sl M1 fun x M2 => getL M2 p fun xs => xs.length < sizeLine ∧ D.nx sl (updM M2 p (.lst (xs ++ [x])))
  | _ => False
theorem ds_append {o : Expr} {to : TD} {apos cpos : Pos} (ho : DE X o to) (he : DE X e te)
    (h : ∀ {t1 : TE} {t2 : TA}, PE X o t1 → PA X [e] t2 → PS X (.Expr (.Call (.Attribute o "append" apos) [e] [] cpos) pos) (tDrop (tBM X.K "list" rAppend t1 t2)) := by
      intro t1 t2 q1 q2; exact ps_expr (pe_bm PySem.F.plainAttrs_list PySem.F.slot_list_append PySem.F.type_list_append mt_append q1 q2)) (hs : starEach [e] X.env = (false, eval e X.env) :: starEach [] X.env := by rfl) :
    DS X (.Expr (.Call (.Attribute o "append" apos) [e] [] cpos) pos) (dAppend to te) :=
  PS.imp (h ho (pa_cons he pa_nil hs)) fun D σ H ⟨sl, M, E, hs, hm, ht, kn, kr, kb, kc⟩ => ⟨sl, M, _, hs, hm, ht, fun o M1 h1 ov H1 l1 m1 r1 => by
    split at h1
    · rename_i p
      obtain ⟨ys, ey, h1⟩ := getL_elim h1
      have r1' : ov = .ref p := r1
      subst r1'
      obtain ⟨ws, hw, rws⟩ := m1 p _ ey
      refine ⟨.inl ⟨rfl, ws, SqL.of hw⟩, sl, M1, _, hs.sub l1, m1, h1, fun x M2 h2 xv H2 l2 m2 r2 => ?_⟩
      obtain ⟨xs, ex, h2⟩ := getL_elim h2
      obtain ⟨vs, hv, rvs⟩ := m2 p _ ex
      have l := l1.trans l2
      exact ⟨p, vs, xv, rfl, rfl, hv, by rw [RVs.len rvs]; exact h2.1, kn _ _ h2.2 _ _ (l.trans (le_write ex)) (rep_write m2 ex (RVs.append rvs (.cons r2 .nil))) (hs.sub (l.trans (le_write ex)))⟩
    · exact h1.elim⟩

/-! ### what is walked -/
abbrev TID := Slots → Mem → (List DV → Mem → Prop) → Prop
def ItOk (K : PySem.W.Frag) (H : Hp) (M : Mem) (J : It) (items : List DV) : Prop := ∀ H1 M1, Le H M H1 M1 → RepM K H1 M1 →
  (∀ i, i < items.length → J.go i H1 ∧ ∀ v H2, J.yld i H1 v H2 → Le H1 M1 H2 M1 ∧ RepM K H2 M1 ∧ ∃ x, items[i]? = some x ∧ RV K (hide H2 M1) v x) ∧ J.stop items.length H1
def liftI (K : PySem.W.Frag) (wi : TID) : TI := fun σ H R => ∃ sl M RR, RepS K (hide H M) σ sl ∧ RepM K H M ∧ wi sl M RR ∧ ∀ items M', RR items M' → ∀ J H', Le H M H' M' → RepM K H' M' → ItOk K H' M' J items → R J H'
abbrev DI (X : Cx) (tg iter : Expr) (wi : TID) : Prop := PI X tg iter (liftI X.K wi)
theorem PI.imp {tg iter : Expr} {t u : TI} (h : PI X tg iter t) (i : ∀ σ H Q, u σ H Q → t σ H Q) : PI X tg iter u := ⟨fun pins s σ H Q I q => h.run pins s σ H Q I (i σ H Q q)⟩
/-- a list of data, a tuple, a text -/
def diSeq (te : TD) : TID := fun sl M R => te sl M fun x M1 => match x with
  | .d (.list xs) => R (xs.map DV.d) M1
  | .d (.tuple xs) => R (xs.map DV.d) M1
  | .d (.str z) => R (z.cps.toList.map fun c => DV.d (.str ⟨#[c]⟩)) M1
  | _ => False
def iSeq (K : PySem.W.Frag) (te : TE) : TI := fun σ H R => te σ H fun x H1 => (∃ a, x = .ref a ∧ (∃ xs, SqL K H1 a xs) ∧ R (Itl K a) H1) ∨ (∃ a, x = .ref a ∧ (∃ xs, SqT K H1 a xs) ∧ R (Itt K a) H1) ∨ ∃ z, x = .str z ∧ R (Its z) H1
theorem pi_seq {tg l : Expr} {tl : TE} (hl : PE X l tl) : PI X tg l (iSeq X.K tl) := by
  refine ⟨fun pins s σ H R I h => thn (hl.run pins s σ H _ I h) fun v s1 ⟨x, H1, I1, r1, q1⟩ => ?_⟩
  have new : ∀ b ∈ [s1.heap.objs.size], FpOk X pins H1 b := fun b hb => by
    obtain rfl : b = s1.heap.objs.size := by simpa using hb
    exact I1.fpOk (Nat.le_refl _) (I1.hok.fresh (Nat.le_refl _))
  rcases q1 with ⟨a, ea, ⟨xs, hq⟩, q⟩ | ⟨a, ea, ⟨xs, hq⟩, q⟩ | ⟨z, ez, q⟩
  · subst ea
    cases r1
    obtain ⟨its, rv, p, hz⟩ := I1.list hq
    exact wpAny_pyIter_list p.isList ⟨_, _, _, _, H1, rfl, I1.kept (t' := s1.toks) fun b o e => Heap.get?_push_of_some _ e, turn_list a _, ⟨_, Heap.get?_push_size _ rfl, rfl, rfl⟩, new, q⟩
  · subst ea
    cases r1
    obtain ⟨its, rv, p, hz⟩ := I1.tuple hq
    exact wpAny_pyIter_tuple (show s1.heap.IsTuple a its.toArray from p) ⟨_, _, _, _, H1, rfl, I1.kept (t' := s1.toks) fun b o e => Heap.get?_push_of_some _ e, turn_tuple a _, ⟨_, Heap.get?_push_size _ rfl, rfl, rfl⟩, new, q⟩
  · subst ez
    obtain ⟨t, rfl⟩ := r1
    cases ha : z.cps.all (· < 128)
    · exact wpAny_pyIter_wide ha (pi_one (tk := s1.toks) I1 _ (turn_str _ z t "str_iterator" (.inr rfl)) ⟨_, Heap.get?_push_size _ rfl, rfl, rfl⟩ q)
    · exact wpAny_pyIter_ascii ha (pi_one (tk := s1.toks) I1 _ (turn_str _ z t "str_ascii_iterator" (.inl rfl)) ⟨_, Heap.get?_push_size _ rfl, rfl, rfl⟩ q)
theorem it_list {K : PySem.W.Frag} {H : Hp} {M : Mem} {a : Addr} {xs : List V} {ds : List PyData} (h : hide H M a = some (.lst xs)) (r : RDs K (hide H M) xs ds) : ItOk K H M (Itl K a) (ds.map DV.d) := fun H1 M1 l m => by
  have h1 : SqL K H1 a xs := SqL.of (hide_sub _ _ _ _ (l _ _ h))
  have len := r.len
  refine ⟨fun i hi => ?_, ⟨xs, h1, by rw [List.length_map]; omega⟩⟩
  rw [List.length_map] at hi
  refine ⟨⟨xs, xs[i], h1, by rw [List.getElem?_eq_getElem (by omega)]⟩, fun v H2 y => ?_⟩
  obtain ⟨rfl, y⟩ := y
  obtain ⟨d, ed, rd⟩ := r.getV (y xs h1)
  exact ⟨Le.refl _ _, m, .d d, by rw [List.getElem?_map, ed]; rfl, RD.sub l rd⟩
theorem it_tup {K : PySem.W.Frag} {H : Hp} {M : Mem} {a : Addr} {xs : List V} {ds : List PyData} (h : SqT K (hide H M) a xs) (r : RDs K (hide H M) xs ds) : ItOk K H M (Itt K a) (ds.map DV.d) := fun H1 M1 l m => by
  have h1 : SqT K H1 a xs := sqT_sub (hide_sub _ _) (sqT_sub l h)
  have len := r.len
  refine ⟨fun i hi => ?_, ⟨xs, h1, by rw [List.length_map]; omega⟩⟩
  rw [List.length_map] at hi
  refine ⟨⟨xs, xs[i], h1, by rw [List.getElem?_eq_getElem (by omega)]⟩, fun v H2 y => ?_⟩
  obtain ⟨rfl, y⟩ := y
  obtain ⟨d, ed, rd⟩ := r.getV (y xs h1)
  exact ⟨Le.refl _ _, m, .d d, by rw [List.getElem?_map, ed]; rfl, RD.sub l rd⟩
theorem it_str {K : PySem.W.Frag} {H : Hp} {M : Mem} {z : Str} : ItOk K H M (Its z) (z.cps.toList.map fun c => DV.d (.str ⟨#[c]⟩)) := fun H1 M1 l m => by
  refine ⟨fun i hi => ?_, ?_⟩
  · rw [List.length_map, Array.length_toList] at hi
    refine ⟨hi, fun v H2 y => ?_⟩
    obtain ⟨rfl, c, ec, rfl⟩ := y
    refine ⟨Le.refl _ _, m, .d (.str ⟨#[c]⟩), ?_, .str _⟩
    rw [List.getElem?_map, Array.getElem?_toList, ec]
    rfl
  · show z.cps.size ≤ _
    rw [List.length_map, Array.length_toList]
    exact Nat.le_refl _
theorem di_seq {tg l : Expr} (hl : DE X l te) : DI X tg l (diSeq te) :=
  PI.imp (pi_seq hl) fun σ H R ⟨sl, M, RR, hs, hm, ht, k⟩ => ⟨sl, M, _, hs, hm, ht, fun x M1 h1 v H1 l1 m1 r1 => by
    split at h1
    · cases r1 with
      | lst q1 q2 => exact .inl ⟨_, rfl, ⟨_, SqL.of (hide_sub _ _ _ _ q1)⟩, k _ M1 h1 _ H1 l1 m1 (it_list q1 q2)⟩
    · cases r1 with
      | tup q1 q2 => exact .inr (.inl ⟨_, rfl, ⟨_, sqT_sub (hide_sub _ _) q1.t⟩, k _ M1 h1 _ H1 l1 m1 (it_tup q1.t q2)⟩)
    · cases r1
      exact .inr (.inr ⟨_, rfl, k _ M1 h1 _ H1 l1 m1 it_str⟩)
    · exact h1.elim⟩
/-- range(n), range(a, b) -/
def rangeL (lo : Int) (n : Nat) : List DV := (List.range n).map fun (i : Nat) => DV.d (.int (lo + (i : Int)))
theorem it_range {K : PySem.W.Frag} {H : Hp} {M : Mem} {lo : Int} {n : Nat} : ItOk K H M (Itr lo n) (rangeL lo n) := fun H1 M1 l m => by
  have hl : (rangeL lo n).length = n := by unfold rangeL; rw [List.length_map, List.length_range]
  refine ⟨fun i hi => ?_, ?_⟩
  · rw [hl] at hi
    refine ⟨hi, fun v H2 y => ?_⟩
    obtain ⟨rfl, rfl⟩ := y
    refine ⟨Le.refl _ _, m, .d (.int (lo + (i : Int))), ?_, .int _⟩
    unfold rangeL
    rw [List.getElem?_map, List.getElem?_range hi]
    rfl
  · rw [hl]
    exact Nat.le_refl n
def diRange1 (ta : TAD) : TID := fun sl M R => ta sl M fun xs M1 => match xs with
  | [.d (.int j)] => (-(2 ^ 62) ≤ j ∧ j < 2 ^ 62) ∧ R (rangeL 0 j.toNat) M1
  | _ => False
def diRange2 (ta : TAD) : TID := fun sl M R => ta sl M fun xs M1 => match xs with
  | [.d (.int i), .d (.int j)] => (-(2 ^ 62) ≤ i ∧ i < 2 ^ 62 ∧ -(2 ^ 62) ≤ j ∧ j < 2 ^ 62) ∧ R (rangeL i (j - i).toNat) M1
  | _ => False
theorem di_range1 {tg a : Expr} {p pos : Pos} (hg : Gl X "range") (hm : X.mg "range" = none) (ha : DA X [a] tas) (hs : starEach [a] X.env = [(false, eval a X.env)] := by rfl) : DI X tg (.Call (.Name "range" p) [a] [] pos) (diRange1 tas) :=
  PI.imp (pi_range1 hg hm ha hs) fun σ H R ⟨sl, M, RR, hs, hm, ht, k⟩ => ⟨sl, M, _, hs, hm, ht, fun x M1 h1 v H1 l1 m1 r1 => by
    split at h1
    · cases r1 with
      | cons r1 r2 =>
        cases r2
        cases r1
        exact ⟨_, rfl, h1.1.1, h1.1.2, k _ M1 h1.2 _ H1 l1 m1 it_range⟩
    · exact h1.elim⟩
theorem di_range2 {tg a b : Expr} {p pos : Pos} (hg : Gl X "range") (hm : X.mg "range" = none) (ha : DA X [a, b] tas) (hs : starEach [a, b] X.env = [(false, eval a X.env), (false, eval b X.env)] := by rfl) (hs2 : starEach [b] X.env = [(false, eval b X.env)] := by rfl) : DI X tg (.Call (.Name "range" p) [a, b] [] pos) (diRange2 tas) :=
  PI.imp (pi_range2 hg hm ha hs hs2) fun σ H R ⟨sl, M, RR, hs, hm, ht, k⟩ => ⟨sl, M, _, hs, hm, ht, fun x M1 h1 v H1 l1 m1 r1 => by
    split at h1
    · cases r1 with
      | cons r1 r2 =>
        cases r2 with
        | cons r2 r3 =>
          cases r3
          cases r1
          cases r2
          exact ⟨_, _, rfl, h1.1, k _ M1 h1.2 _ H1 l1 m1 it_range⟩
    · exact h1.elim⟩

/-! ### for, while -/
def dFor (wi : TID) (g : TGD) (tb : TSD) : TSD := fun D sl M => wi sl M fun items M1 => ∃ W : Nat → Slots → Mem → Prop, W 0 sl M1 ∧
  (∀ i x sl' M', items[i]? = some x → W i sl' M' → g x sl' M' fun sl2 M2 => tb { D with nx := W (i + 1), ct := W (i + 1), bk := D.nx } sl2 M2) ∧ ∀ sl' M', W items.length sl' M' → D.nx sl' M'
theorem ds_for {tg iter : Expr} {body : List Stmt} {wi : TID} {ss : List Nat} {g : TGD} {tb : TSD} (hp : PassesOwn (model X.prog X.w) X.A X.env X.xe) (hc : X.calm = true) (hi : DI X tg iter wi) (hg : DG X tg ss g) (hb : DSs X body tb)
    (hs : ∀ x, foldedSetIterable iter X.env x = pure x := by intro _; rfl) : DS X (.For tg iter body [] pos) (dFor wi g tb) :=
  PS.imp (ps_for hp hc hi hg hb hs) fun D σ H ⟨sl, M, E, hs, hm, ht, kn, kr, kb, kc⟩ => ⟨sl, M, _, hs, hm, ht, fun items M1 h1 J H1 l1 m1 it => by
    obtain ⟨W, w0, step, fin⟩ := h1
    refine ⟨fun i m σ' H' => m = items.length - i ∧ i ≤ items.length ∧ ∃ sl' M', RepS X.K (hide H' M') σ' sl' ∧ RepM X.K H' M' ∧ Le H1 M1 H' M' ∧ W i sl' M', ⟨_, rfl, Nat.zero_le _, sl, M1, hs.sub l1, m1, Le.refl _ _, w0⟩, ?_⟩
    rintro i m σ' H' ⟨rfl, hi, sl', M', rs, rm, le, w⟩
    obtain ⟨go, stop⟩ := it H' M' le rm
    by_cases hlt : i < items.length
    · obtain ⟨g1, y1⟩ := go i hlt
      refine .inr ⟨g1, fun σ2 H2 => ∃ sl2 M2, RepS X.K (hide H2 M2) σ2 sl2 ∧ RepM X.K H2 M2 ∧ Le H1 M1 H2 M2 ∧ W (i + 1) sl2 M2, fun σ2 H2 h => ⟨_, by omega, rfl, hlt, h⟩, fun v H2 y => ?_⟩
      obtain ⟨ly, my, x, ex, rx⟩ := y1 v H2 y
      have hstep := step i x sl' M' ex w
      refine ⟨x, sl', M', _, rs.sub ly, my, rx, hstep, fun sl2 M2 h2 σ2 H3 l3 m3 r3 _ _ => ?_⟩
      have lt := le.trans (ly.trans l3)
      exact ⟨sl2, M2, _, r3, m3, h2, fun sl4 M4 h4 σ4 H4 l4 m4 r4 => ⟨sl4, M4, r4, m4, lt.trans l4, h4⟩, kr.le (l1.trans lt), fun sl4 M4 h4 σ4 H4 l4 m4 r4 => kn sl4 M4 h4 σ4 H4 ((l1.trans lt).trans l4) m4 r4, fun sl4 M4 h4 σ4 H4 l4 m4 r4 => ⟨sl4, M4, r4, m4, lt.trans l4, h4⟩⟩
    · have e : i = items.length := by omega
      subst e
      exact .inl ⟨stop, kn sl' M' (fin sl' M' w) σ' H' (l1.trans le) rm rs⟩⟩
def dWhile (c : TTD) (tb : TSD) : TSD := fun D sl M => ∃ W : Nat → Slots → Mem → Prop, (∃ m, W m sl M) ∧ ∀ m sl M, W m sl M →
  c sl M fun k M1 => if k = true then tb { D with nx := fun sl' M' => ∃ m', m' < m ∧ W m' sl' M', ct := fun sl' M' => ∃ m', m' < m ∧ W m' sl' M', bk := D.nx } sl M1 else D.nx sl M1
theorem ds_while {body : List Stmt} {tb : TSD} (hp : PassesOwn (model X.prog X.w) X.A X.env X.xe) (hc : DT X c tA) (hb : DSs X body tb) : DS X (.While c body [] pos) (dWhile tA tb) :=
  PS.imp (ps_while hp hc hb) fun D σ H ⟨sl, M, E, hs, hm, ⟨W, ⟨m0, w0⟩, step⟩, kn, kr, kb, kc⟩ => by
    refine ⟨fun m σ' H' => ∃ sl' M', RepS X.K (hide H' M') σ' sl' ∧ RepM X.K H' M' ∧ Le H M H' M' ∧ W m sl' M', ⟨m0, sl, M, hs, hm, Le.refl _ _, w0⟩, ?_⟩
    rintro m σ' H' ⟨sl', M', rs, rm, le, w⟩
    refine ⟨sl', M', _, rs, rm, step m sl' M' w, fun k M1 h1 H1 l1 m1 => ?_⟩
    have lt := le.trans l1
    cases k with
    | true =>
      exact ⟨_, fun σ2 H2 h => h, sl', M1, _, rs.sub l1, m1, h1, fun sl4 M4 ⟨m', hm', h4⟩ σ4 H4 l4 m4 r4 => ⟨m', hm', sl4, M4, r4, m4, lt.trans l4, h4⟩, kr.le lt, fun sl4 M4 h4 σ4 H4 l4 m4 r4 => kn sl4 M4 h4 σ4 H4 (lt.trans l4) m4 r4, fun sl4 M4 ⟨m', hm', h4⟩ σ4 H4 l4 m4 r4 => ⟨m', hm', sl4, M4, r4, m4, lt.trans l4, h4⟩⟩
    | false => exact kn sl' M1 h1 σ' H1 lt m1 (rs.sub l1)
end
end DL

/-! The data layer: comprehensions; defs and their calls (where no repr is under way); the end of a law. -/
namespace DL
open PySem PySem.Spec PyProof.Rows L2

/-! ### comprehensions -/
def wipeD (sl : Slots) : List Nat → Slots
  | [] => sl
  | v :: vs => (wipeD sl vs).set v none
theorem RepS.none {K : PySem.W.Frag} {H : Hp} {σ : L2.St} {sl : Slots} (h : RepS K H σ sl) (i : Nat) : RepS K H (σ.set i none) (sl.set i none) := by
  refine ⟨by simpa using h.1, fun j y e => ?_⟩
  by_cases hj : i = j
  · subst hj
    have hi : i < sl.length := by
      have := (List.getElem?_eq_some_iff.mp e).1
      simpa using this
    rw [List.getElem?_set_self hi] at e
    cases e
  · rw [List.getElem?_set_ne hj] at e
    obtain ⟨w, e1, r1⟩ := h.2 j y e
    exact ⟨w, by rw [List.getElem?_set_ne hj]; exact e1, r1⟩
theorem RepS.wipe {K : PySem.W.Frag} {H : Hp} {σ : L2.St} {sl : Slots} (h : RepS K H σ sl) : ∀ vs : List Nat, RepS K H (L2.wipe σ vs) (wipeD sl vs)
  | [] => h
  | v :: vs => (h.wipe vs).none v
theorem wipe_get {σ σ' : L2.St} (hl : σ'.length = σ.length) : ∀ {vs : List Nat}, (∀ (j : Nat), j ∉ vs → σ'[j]? = σ[j]?) → ∀ (j : Nat), (L2.wipe σ' vs)[j]? = (L2.wipe σ vs)[j]?
  | [], h, j => h j (by simp)
  | v :: vs, h, j => by
    unfold L2.wipe
    by_cases hj : v = j
    · subst hj
      by_cases hv : v < σ.length
      · rw [List.getElem?_set_self (by rw [wipe_length]; omega), List.getElem?_set_self (by rw [wipe_length]; omega)]
      · rw [List.getElem?_eq_none (by rw [List.length_set, wipe_length]; omega), List.getElem?_eq_none (by rw [List.length_set, wipe_length]; omega)]
    · rw [List.getElem?_set_ne hj, List.getElem?_set_ne hj]
      by_cases hm : j ∈ vs
      · -- both forgotten: by the entries ahead
        have key : ∀ (τ : L2.St) (ws : List Nat), j ∈ ws → (L2.wipe τ ws)[j]? = if j < τ.length then some none else none := by
          intro τ ws
          induction ws with
          | nil => intro z; cases z
          | cons w ws ih =>
            intro z
            unfold L2.wipe
            by_cases hw : w = j
            · subst hw
              by_cases hx : w < τ.length
              · rw [List.getElem?_set_self (by rw [wipe_length]; omega), if_pos hx]
              · rw [List.getElem?_eq_none (by rw [List.length_set, wipe_length]; omega), if_neg hx]
            · rw [List.getElem?_set_ne hw]
              exact ih (by rcases List.mem_cons.mp z with q | q; exact absurd q.symm hw; exact q)
        rw [key σ' vs hm, key σ vs hm, hl]
      · have keep : ∀ (τ : L2.St) (ws : List Nat), j ∉ ws → (L2.wipe τ ws)[j]? = τ[j]? := by
          intro τ ws
          induction ws with
          | nil => intro _; rfl
          | cons w ws ih =>
            intro z
            unfold L2.wipe
            rw [List.getElem?_set_ne (fun q => z (by simp [q]))]
            exact ih fun q => z (List.mem_cons_of_mem _ q)
        rw [keep σ' vs hm, keep σ vs hm]
        exact h j (fun z => by rcases List.mem_cons.mp z with q | q; exact hj q.symm; exact hm q)
theorem wipe_wipe (σ : L2.St) (vs : List Nat) : L2.wipe (L2.wipe σ vs) vs = L2.wipe σ vs := by
  apply List.ext_getElem?
  intro j
  by_cases hm : j ∈ vs
  · have key : ∀ (τ : L2.St) (ws : List Nat), j ∈ ws → (L2.wipe τ ws)[j]? = if j < τ.length then some none else none := by
      intro τ ws
      induction ws with
      | nil => intro z; cases z
      | cons w ws ih =>
        intro z
        unfold L2.wipe
        by_cases hw : w = j
        · subst hw
          by_cases hx : w < τ.length
          · rw [List.getElem?_set_self (by rw [wipe_length]; omega), if_pos hx]
          · rw [List.getElem?_eq_none (by rw [List.length_set, wipe_length]; omega), if_neg hx]
        · rw [List.getElem?_set_ne hw]
          exact ih (by rcases List.mem_cons.mp z with q | q; exact absurd q.symm hw; exact q)
    rw [key _ vs hm, key _ vs hm, wipe_length]
  · have keep : ∀ (τ : L2.St) (ws : List Nat), j ∉ ws → (L2.wipe τ ws)[j]? = τ[j]? := by
      intro τ ws
      induction ws with
      | nil => intro _; rfl
      | cons w ws ih =>
        intro z
        unfold L2.wipe
        rw [List.getElem?_set_ne (fun q => z (by simp [q]))]
        exact ih fun q => z (List.mem_cons_of_mem _ q)
    rw [keep _ vs hm]
theorem wipe_same {σ σ' : L2.St} {vs ss : List Nat} (hl : σ'.length = (L2.wipe σ vs).length) (h : ∀ (j : Nat), j ∉ ss → σ'[j]? = (L2.wipe σ vs)[j]?) (sub : ∀ j ∈ ss, j ∈ vs) : L2.wipe σ' vs = L2.wipe σ vs := by
  have e : L2.wipe σ' vs = L2.wipe (L2.wipe σ vs) vs := List.ext_getElem? fun j => wipe_get hl (fun j hj => h j fun z => hj (sub j z)) j
  rw [e, wipe_wipe]
section
variable {X : Cx} {a b c e : Expr} {es : List Expr} {pos : Pos} {ta tb tc te : TD} {tas : TAD} {tA : TTD}
def dYes : TTD := fun _ M R => R true M
abbrev DTs (X : Cx) (ifs : List Expr) (t : TTD) : Prop := PTs X ifs (liftT X.K t)
theorem dts_nil : DTs X [] dYes := ⟨fun pins s σ H Q I ⟨sl, M, R, hs, hm, ht, k⟩ => (pts_nil (X := X)).run pins s σ H Q I (k _ M ht H (Le.refl _ _) hm)⟩
theorem dts_one (h : DT X c tA) : DTs X [c] tA := pts_one h
def dLc (wi : TID) (g : TGD) (tt : TTD) (te : TD) (vs : List Nat) : TD := fun sl M R => wi sl M fun items M1 => ∀ p, M1 p = none → ∃ P : Nat → Mem → Prop, P 0 (updM M1 p (.lst [])) ∧
  (∀ i x M, items[i]? = some x → P i M → g x (wipeD sl vs) M fun sl2 M2 => tt sl2 M2 fun k M3 => if k = true then te sl2 M3 fun y M4 => getL M4 p (fun acc => acc.length < sizeLine ∧ P (i + 1) (updM M4 p (.lst (acc ++ [y])))) else P (i + 1) M3) ∧
  ∀ M, P items.length M → getL M p fun xs => optP (allD xs) fun ds => R (.d (.list ds)) (delM M p)
theorem lc_imp {wi : TID} {ss vs : List Nat} {g : TGD} {tt : TTD} {σ : L2.St} {H : Hp} {Q : VK} (sub : ∀ j ∈ ss, j ∈ vs) (h : liftE X.K (dLc wi g tt te vs) σ H Q) :
    tLc (liftI X.K wi) (liftG X.K ss g) (liftT X.K tt) (liftE X.K te) vs σ H Q := by
  obtain ⟨sl, M, R, hs, hm, ht, k⟩ := h
  refine ⟨sl, M, _, hs, hm, ht, fun items M1 h1 J H1 l1 m1 it D nD => ?_⟩
  obtain ⟨P, p0, step, fin⟩ := h1 D (own_none m1 nD)
  refine ⟨fun i m H' => m = items.length - i ∧ i ≤ items.length ∧ ∃ M', RepM X.K H' M' ∧ Le H1 M1 H' M' ∧ P i M', ⟨_, rfl, Nat.zero_le _, _, rep_own m1 nD .nil, le_own nD, p0⟩, ?_⟩
  rintro i m H' ⟨rfl, hi, M', rm, le, w⟩
  obtain ⟨go, stop⟩ := it H' M' le rm
  by_cases hlt : i < items.length
  · obtain ⟨g1, y1⟩ := go i hlt
    refine .inr ⟨g1, fun H2 => ∃ M2, RepM X.K H2 M2 ∧ Le H1 M1 H2 M2 ∧ P (i + 1) M2, fun H2 h => ⟨_, by omega, rfl, hlt, h⟩, fun v H2 y => ?_⟩
    obtain ⟨ly, my, x, ex, rx⟩ := y1 v H2 y
    have hst := step i x M' ex w
    have rs : RepS X.K (hide H2 M') (L2.wipe σ vs) (wipeD sl vs) := (hs.sub (l1.trans (le.trans ly))).wipe vs
    refine ⟨x, _, M', _, rs, my, rx, hst, fun sl2 M2 h2 σ2 H3 l3 m3 r3 len fr => ⟨wipe_same len fr sub, ?_⟩⟩
    refine ⟨sl2, M2, _, r3, m3, h2, fun kk M3 h3 H4 l4 m4 => ?_⟩
    have lt := le.trans (ly.trans (l3.trans l4))
    cases kk with
    | false => exact ⟨M3, m4, lt, h3⟩
    | true =>
      refine ⟨sl2, M3, _, r3.sub l4, m4, h3, fun yv M5 h5 u H5 l5 m5 r5 => ?_⟩
      obtain ⟨acc, ea, h5⟩ := getL_elim h5
      obtain ⟨av, ha, ra⟩ := m5 D _ ea
      exact ⟨av, ha, by rw [RVs.len ra]; exact h5.1, _, rep_write m5 ea (RVs.append ra (.cons r5 .nil)), (lt.trans l5).trans (le_write ea), h5.2⟩
  · have e : i = items.length := by omega
    subst e
    obtain ⟨xs, ex, hf⟩ := getL_elim (fin M' w)
    obtain ⟨ds, ed, hf2⟩ := optP_elim hf
    have ed' := allD_map ed
    subst ed'
    obtain ⟨vs', hv, rv⟩ := rm D _ ex
    have ld : Le H' M' H' (delM M' D) := le_del (K := X.K)
    have hp : delM M' D D = none := by unfold delM; rw [if_pos rfl]
    exact .inl ⟨stop, k _ _ hf2 _ _ (l1.trans (le.trans ld)) (rep_del rm) (.lst (hide_of hv hp) (RDs.sub ld (RVs.data rv)))⟩
/-- a comprehension whose list stays owned -/
def dLcO (wi : TID) (g : TGD) (tt : TTD) (te : TD) (vs : List Nat) : TD := fun sl M R => wi sl M fun items M1 => ∀ p, M1 p = none → ∃ P : Nat → Mem → Prop, P 0 (updM M1 p (.lst [])) ∧
  (∀ i x M, items[i]? = some x → P i M → g x (wipeD sl vs) M fun sl2 M2 => tt sl2 M2 fun k M3 => if k = true then te sl2 M3 fun y M4 => getL M4 p (fun acc => acc.length < sizeLine ∧ P (i + 1) (updM M4 p (.lst (acc ++ [y])))) else P (i + 1) M3) ∧
  ∀ M, P items.length M → R (.raw (.ref p)) M
theorem lcO_imp {wi : TID} {ss vs : List Nat} {g : TGD} {tt : TTD} {σ : L2.St} {H : Hp} {Q : VK} (sub : ∀ j ∈ ss, j ∈ vs) (h : liftE X.K (dLcO wi g tt te vs) σ H Q) :
    tLc (liftI X.K wi) (liftG X.K ss g) (liftT X.K tt) (liftE X.K te) vs σ H Q := by
  obtain ⟨sl, M, R, hs, hm, ht, k⟩ := h
  refine ⟨sl, M, _, hs, hm, ht, fun items M1 h1 J H1 l1 m1 it D nD => ?_⟩
  obtain ⟨P, p0, step, fin⟩ := h1 D (own_none m1 nD)
  refine ⟨fun i m H' => m = items.length - i ∧ i ≤ items.length ∧ ∃ M', RepM X.K H' M' ∧ Le H1 M1 H' M' ∧ P i M', ⟨_, rfl, Nat.zero_le _, _, rep_own m1 nD .nil, le_own nD, p0⟩, ?_⟩
  rintro i m H' ⟨rfl, hi, M', rm, le, w⟩
  obtain ⟨go, stop⟩ := it H' M' le rm
  by_cases hlt : i < items.length
  · obtain ⟨g1, y1⟩ := go i hlt
    refine .inr ⟨g1, fun H2 => ∃ M2, RepM X.K H2 M2 ∧ Le H1 M1 H2 M2 ∧ P (i + 1) M2, fun H2 h => ⟨_, by omega, rfl, hlt, h⟩, fun v H2 y => ?_⟩
    obtain ⟨ly, my, x, ex, rx⟩ := y1 v H2 y
    have hst := step i x M' ex w
    have rs : RepS X.K (hide H2 M') (L2.wipe σ vs) (wipeD sl vs) := (hs.sub (l1.trans (le.trans ly))).wipe vs
    refine ⟨x, _, M', _, rs, my, rx, hst, fun sl2 M2 h2 σ2 H3 l3 m3 r3 len fr => ⟨wipe_same len fr sub, ?_⟩⟩
    refine ⟨sl2, M2, _, r3, m3, h2, fun kk M3 h3 H4 l4 m4 => ?_⟩
    have lt := le.trans (ly.trans (l3.trans l4))
    cases kk with
    | false => exact ⟨M3, m4, lt, h3⟩
    | true =>
      refine ⟨sl2, M3, _, r3.sub l4, m4, h3, fun yv M5 h5 u H5 l5 m5 r5 => ?_⟩
      obtain ⟨acc, ea, h5⟩ := getL_elim h5
      obtain ⟨av, ha, ra⟩ := m5 D _ ea
      exact ⟨av, ha, by rw [RVs.len ra]; exact h5.1, _, rep_write m5 ea (RVs.append ra (.cons r5 .nil)), (lt.trans l5).trans (le_write ea), h5.2⟩
  · have e : i = items.length := by omega
    subst e
    exact .inl ⟨stop, k _ _ (fin M' w) _ _ (l1.trans le) rm rfl⟩
theorem de_lc {elt tg iter : Expr} {ifs : List Expr} {scope : Scope} {own : List (Str × Nat)} {wi : TID} {ss : List Nat} {g : TGD} {tt : TTD} (hc : X.calm = true) (hN : X.N.Nodup) (hi : DI X tg iter wi) (ok : BlkOk X.N X.env.scope scope own)
    (hg : ∀ (s : Shared) (H : Hp) (C : Addr) (cl : List (Str × Addr)) (fp : List Addr), DG (X.blk s H scope (compEnvC scope cl C X.env) fp) tg ss g)
    (ht : ∀ (s : Shared) (H : Hp) (C : Addr) (cl : List (Str × Addr)) (fp : List Addr), DTs (X.blk s H scope (compEnvC scope cl C X.env) fp) ifs tt)
    (he : ∀ (s : Shared) (H : Hp) (C : Addr) (cl : List (Str × Addr)) (fp : List Addr), DE (X.blk s H scope (compEnvC scope cl C X.env) fp) elt te)
    (sub : ∀ j ∈ ss, j ∈ own.map (·.2)) (hs : ∀ x, foldedSetIterable iter X.env x = pure x := by intro _; rfl) :
    DE X (.ListComp elt [⟨tg, iter, ifs, 0⟩] scope pos) (dLc wi g tt te (own.map (·.2))) :=
  PE.imp (pe_lc hc hN hi ok hg ht he hs) fun _ _ _ h => lc_imp sub h
theorem ds_setLc {i : Nat} {y : Str} {py spos : Pos} {elt tg iter : Expr} {ifs : List Expr} {scope : Scope} {own : List (Str × Nat)} {wi : TID} {ss : List Nat} {g : TGD} {tt : TTD} (hc : X.calm = true) (hN : X.N.Nodup) (hy : X.N[i]? = some y) (hyl : X.env.scope.names.lookup y = some .local)
    (hsw : swapsWith (.ListComp elt [⟨tg, iter, ifs, 0⟩] scope pos) (some (.Name y py)) spos.line X.env = pure true) (hi : DI X tg iter wi) (ok : BlkOk X.N X.env.scope scope own)
    (hg : ∀ (s : Shared) (H : Hp) (C : Addr) (cl : List (Str × Addr)) (fp : List Addr), DG (X.blk s H scope (compEnvC scope cl C X.env) fp) tg ss g)
    (ht : ∀ (s : Shared) (H : Hp) (C : Addr) (cl : List (Str × Addr)) (fp : List Addr), DTs (X.blk s H scope (compEnvC scope cl C X.env) fp) ifs tt)
    (he : ∀ (s : Shared) (H : Hp) (C : Addr) (cl : List (Str × Addr)) (fp : List Addr), DE (X.blk s H scope (compEnvC scope cl C X.env) fp) elt te)
    (sub : ∀ j ∈ ss, j ∈ own.map (·.2)) (hs : ∀ x, foldedSetIterable iter X.env x = pure x := by intro _; rfl) :
    DS X (.Assign [.Name y py] (.ListComp elt [⟨tg, iter, ifs, 0⟩] scope pos) spos) (dSet i (dLc wi g tt te (own.map (·.2)))) :=
  PS.imp (ps_setLc hc hN hy hyl hsw hi ok hg ht he hs) fun D σ H ⟨sl, M, E, hs, hm, ht, kn, kr, kb, kc⟩ => lc_imp sub ⟨sl, M, _, hs, hm, ht, fun x M1 h1 v H1 l1 m1 r1 => kn _ M1 h1 _ H1 l1 m1 ((hs.sub l1).set i r1)⟩
theorem ds_setLcO {i : Nat} {y : Str} {py spos : Pos} {elt tg iter : Expr} {ifs : List Expr} {scope : Scope} {own : List (Str × Nat)} {wi : TID} {ss : List Nat} {g : TGD} {tt : TTD} (hc : X.calm = true) (hN : X.N.Nodup) (hy : X.N[i]? = some y) (hyl : X.env.scope.names.lookup y = some .local)
    (hsw : swapsWith (.ListComp elt [⟨tg, iter, ifs, 0⟩] scope pos) (some (.Name y py)) spos.line X.env = pure true) (hi : DI X tg iter wi) (ok : BlkOk X.N X.env.scope scope own)
    (hg : ∀ (s : Shared) (H : Hp) (C : Addr) (cl : List (Str × Addr)) (fp : List Addr), DG (X.blk s H scope (compEnvC scope cl C X.env) fp) tg ss g)
    (ht : ∀ (s : Shared) (H : Hp) (C : Addr) (cl : List (Str × Addr)) (fp : List Addr), DTs (X.blk s H scope (compEnvC scope cl C X.env) fp) ifs tt)
    (he : ∀ (s : Shared) (H : Hp) (C : Addr) (cl : List (Str × Addr)) (fp : List Addr), DE (X.blk s H scope (compEnvC scope cl C X.env) fp) elt te)
    (sub : ∀ j ∈ ss, j ∈ own.map (·.2)) (hs : ∀ x, foldedSetIterable iter X.env x = pure x := by intro _; rfl) :
    DS X (.Assign [.Name y py] (.ListComp elt [⟨tg, iter, ifs, 0⟩] scope pos) spos) (dSet i (dLcO wi g tt te (own.map (·.2)))) :=
  PS.imp (ps_setLc hc hN hy hyl hsw hi ok hg ht he hs) fun D σ H ⟨sl, M, E, hs, hm, ht, kn, kr, kb, kc⟩ => lcO_imp sub ⟨sl, M, _, hs, hm, ht, fun x M1 h1 v H1 l1 m1 r1 => kn _ M1 h1 _ H1 l1 m1 ((hs.sub l1).set i r1)⟩
end

/-! ### a def where no repr is under way -/
structure FnG (P : Program) (w : World) (K : PySem.W.Frag) (mg : Str → Option Value) (base : Heap) (CX : CXT) (k : Nat) (f : Addr) (fd : FuncData) (ps : List Str) (sp : Sp) : Prop where
  len : ∀ vs H Q E, sp vs H Q E → vs.length = ps.length
  run : ∀ (A : Around) (outer : List Env) (s : Shared) (H : Hp) (args : Args) (us : List Value) (vs : List V) (Q : VK) (E : XK), A.guards = some [] → Room k A → Env0 P w K mg base A outer s H →
    BindsTo s fd args (ps.zip us) → Vals vs us → sp vs H Q E → codeAny (model P w) A (.call (.ref f) args) (CR CX outer P w H s Q E) s
section
variable {P : Program} {w : World} {K : PySem.W.Frag} {mg : Str → Option Value} {base : Heap} {CX : CXT} {k : Nat} {f : Addr} {fd : FuncData} {ps : List Str} {sp : Sp}
theorem FnG.mono {j : Nat} (F : FnG P w K mg base CX j f fd ps sp) (h : j ≤ k) : FnG P w K mg base CX k f fd ps sp := ⟨F.len, fun A outer s H args us vs Q E hg hr => F.run A outer s H args us vs Q E hg (hr.mono h)⟩
theorem fnG_of {name qual : Str} {params : Arguments} {body : List Stmt} {scope : Scope} {dV kV doc pm cdv ct oc : Value} {an od : Option Addr} {osl : Array (Option Value)} {N : List Str}
    (lk : K.lookup f = some ⟨oc, od, .func (PySem.W.fnOf name qual params body scope dV kV doc pm an cdv ct), osl⟩) (hcd : PySem.W.codeIn K cdv qual = true) (S : FnScope N ps scope) (len : ∀ vs H Q E, sp vs H Q E → vs.length = ps.length)
    (hbody : ∀ (A : Around) (outer : List Env) (s : Shared) (H : Hp) (vs : List V) (Q : VK) (E : XK), A.guards = some [] → Room k (A.deeper (envOfC qual scope s.heap.objs.size f cdv)) → sp vs H Q E →
      ∃ t, PSs (cxOf CX P w K mg base N qual scope f cdv A outer s H E) body t ∧ t { nx := fun _ H' => Q .non H', rt := Q } (start N vs) H) :
    FnG P w K mg base CX (k + 1) f (PySem.W.fnOf name qual params body scope dV kV doc pm an cdv ct) ps sp := by
  refine ⟨len, fun A outer s H args us vs Q E hgd hr e0 hb r hsp => ?_⟩
  have kept : ∀ b o, base.get? b = some o → s.heap.get? b = some o := fun b o e => (e0.bs b o e).1
  have inK : K.In s.heap := e0.mod.kin.keeps kept
  have kinds : ∀ y ∈ ps.zip us, scope.names.lookup y.1 = some .local ∨ (scope.names.lookup y.1 = some .cell ∧ ((cellsFrom (s.heap.objs.size + 1) scope.names []).lookup y.1).isSome = true) := by
    rintro ⟨n, v⟩ hy
    exact (S.par n (List.of_mem_zip hy).1).imp id fun q => ⟨q, PySem.W.cellsFrom_some _ _ _ (.inl q)⟩
  refine codeAny_call_function hr.depth (inK _ _ lk) rfl S.co S.gen rfl (PySem.W.codeRec_of inK hcd) (hb _ _ _ _ (wpAny_newFunctionEnv_cells S.kind kinds ?_))
  intro env he s1 x
  subst he
  refine ⟨(e0.mod.nolimit.keeps kept).keeps x.toInCall.keep, codeAny_func ?_⟩
  obtain ⟨t, ht, hq⟩ := hbody A outer s H vs Q E hgd (hr.deeper _) hsp
  refine wpAny_mono (ht.run [] s1 (start N vs) H _ (inv_start S hr.hd e0 (len _ _ _ _ hsp) r x) hq) ?_ fun e s' hs => hs
  intro fl s' hs
  cases fl with
  | ret u =>
    obtain ⟨v, σ', H', J, rv, q⟩ := hs
    exact ⟨v, H', J.os, J.bare, J.base, J.hok, rv, q⟩
  | next =>
    obtain ⟨σ', H', J, q⟩ := hs
    exact ⟨.non, H', J.os, J.bare, J.base, J.hok, rfl, q⟩
  | brk =>
    obtain ⟨_, _, _, q⟩ := hs
    exact q.elim
  | cont =>
    obtain ⟨_, _, _, q⟩ := hs
    exact q.elim
end
section
variable {X : Cx} {CX : CXT} {k : Nat} {f : Addr} {fd : FuncData} {ps : List Str} {sp : Sp} {dvs : List V} {ds : List Value} {E : XK} {x : Str} {p pos : Pos} {e : Expr} {es : List Expr} {t : TA}
theorem runG {pins : List (Addr × Obj)} {σ : L2.St} {H : Hp} {s : Shared} {Q : VK} {us : List Value} {vs : List V} (hgd : X.A.guards = some []) (F : FnG X.prog X.w X.K X.mg X.base CX k f fd ps sp) (hr : Room k X.A) (hb : Binds X.K fd ps ds) (hd : Vals dvs ds) (hx : Passes CX X E)
    (I : Inv X pins σ H s) (r : Vals vs us) (h : sp (vs ++ dvs) H Q E) : wpAny (model X.prog X.w) X.A (call (.ref f) us) (EP X pins σ Q) X.xe s := by
  have r2 : Vals (vs ++ dvs) (us ++ ds) := r.append hd
  have hl : (us ++ ds).length = ps.length := r2.length.symm.trans (F.len _ _ _ _ h)
  refine wpAny_call (codeAny_mono (F.run X.A X.stack s H ⟨us, []⟩ _ _ Q E hgd hr I.env0 (hb s us I.kIn hl) r2 h) ?_)
  intro r s' hq
  match r, hq with
  | .error e, hq => exact hx pins σ H s e s' I hq
  | .ok (.ret u), hq => exact I.after hq
theorem pe_callG (hgd : X.A.guards = some []) (F : FnG X.prog X.w X.K X.mg X.base CX k f fd ps sp) (hr : Room k X.A) (hg : Gl X x) (hm : X.mg x = some (.ref f)) (hk : PySem.W.keepIn X.K (.ref f) = true) (hb : Binds X.K fd ps ds) (hd : Vals dvs ds) (hx : Passes CX X E)
    (ha : PA X (e :: es) t) (hdb : (x == ("__debug__" : Str)) = false) (he : starEach (e :: es) X.env = (false, eval e X.env) :: starEach es X.env) (hpl : (backTo pos (starEach es X.env)).any (·.1) = false) :
    PE X (.Call (.Name x p) (e :: es) [] pos) (tCall sp dvs E t) :=
  ⟨fun pins s σ H Q I h => wpAny_Call_Name_kw (ld_glob I hg hm (PySem.W.callWith_K (h₀ := X.base) I.ok.mod.kin hk (thn (ha.run pos pins s σ H _ I h) fun us s1 ⟨vs, H1, I1, r, q⟩ => ⟨I1.kIn, runG hgd F hr hb hd hx I1 r q⟩) he hpl) hdb)⟩
end

/-! ### promises over data -/
abbrev SpD := List DV → Mem → KD → Prop
def liftSp (K : PySem.W.Frag) (sp : SpD) : Sp := fun vs H Q _ => ∃ xs M R, RVs K (hide H M) vs xs ∧ RepM K H M ∧ sp xs M R ∧ Kt K H M R Q
def startD (N : List Str) (xs : List DV) : Slots := xs.map some ++ List.replicate (N.length - xs.length) none
theorem rep_start {K : PySem.W.Frag} {H : Hp} (N : List Str) {vs : List V} {xs : List DV} (r : RVs K H vs xs) : RepS K H (start N vs) (startD N xs) := by
  have hl := RVs.len r
  refine ⟨by simp [L2.start, startD, hl], fun i x e => ?_⟩
  unfold startD at e
  by_cases hi : i < xs.length
  · rw [List.getElem?_append_left (by simpa using hi), List.getElem?_map] at e
    cases ex : xs[i]? with
    | none => rw [ex] at e; cases e
    | some y =>
      rw [ex] at e
      cases e
      obtain ⟨v, ev, rv⟩ := RVs.get r ex
      exact ⟨v, by unfold L2.start; rw [List.getElem?_append_left (by rw [List.length_map]; omega), List.getElem?_map, ev]; rfl, rv⟩
  · rw [List.getElem?_append_right (by simpa using hi), List.getElem?_replicate] at e
    split at e <;> cases e
section
variable {P : Program} {w : World} {K : PySem.W.Frag} {mg : Str → Option Value} {base : Heap}
/-- THE RULE for a def over data -/
theorem fn_data {x qual : Str} {st : Stmt} {f : Addr} {fd : FuncData} {N ps : List Str} {k : Nat} {sp : SpD} (F : Fun K x qual st f fd) (S : FnScope N ps (defScope st)) (len : ∀ xs M R, sp xs M R → xs.length = ps.length) (t : TSD)
    (hbody : ∀ (cdv : Value) (A : Around) (outer : List Env) (s : Shared) (H : Hp) (E : XK), A.guards = some [] → Room k (A.deeper (envOfC qual (defScope st) s.heap.objs.size f cdv)) →
      DSs (cxOf CX0 P w K mg base N qual (defScope st) f cdv A outer s H E).nox (defBody st) t)
    (pure : ∀ xs M R, sp xs M R → t { nx := fun _ M' => R (.d .none) M', rt := R } (startD N xs) M) : FnG P w K mg base CX0 (k + 1) f fd ps (liftSp K sp) := by
  obtain ⟨oc, od, kV, doc, pm, an, cdv, ct, osl, rfl, lk, hcd⟩ := F.ex
  refine fnG_of lk hcd S (fun vs H Q E ⟨xs, M, R, rv, _, hs, _⟩ => (RVs.len rv).trans (len xs M R hs)) fun A outer s H vs Q E hg hr ⟨xs, M, R, rv, hm, hs, k⟩ => ⟨liftS K t, (hbody cdv A outer s H E hg hr).nox, ?_⟩
  exact ⟨_, M, _, rep_start N rv, hm, pure xs M R hs, fun sl M' h σ' H' l m r => k _ M' h _ H' l m .non, k, fun _ _ z => z.elim, fun _ _ z => z.elim⟩
end
section
variable {X : Cx} {k : Nat} {f : Addr} {fd : FuncData} {ps : List Str} {sp : SpD} {x : Str} {p pos : Pos} {e : Expr} {es : List Expr} {tas : TAD}
/-- f(e, ..) by its promise over data; dv: the defaults that fill up -/
theorem de_call {dvs : List V} {xds : List DV} {ds : List Value} (hgd : X.A.guards = some []) (F : FnG X.prog X.w X.K X.mg X.base CX0 k f fd ps (liftSp X.K sp)) (hr : Room k X.A) (hg : Gl X x) (hm : X.mg x = some (.ref f)) (hk : PySem.W.keepIn X.K (.ref f) = true) (hb : Binds X.K fd ps ds) (hd : Vals dvs ds) (hdv : ∀ H, RVs X.K H dvs xds)
    (ha : DA X (e :: es) tas) (hdb : (x == ("__debug__" : Str)) = false := by decide) (he : starEach (e :: es) X.env = (false, eval e X.env) :: starEach es X.env := by rfl) (hpl : (backTo pos (starEach es X.env)).any (·.1) = false := by rfl) :
    DE X (.Call (.Name x p) (e :: es) [] pos) (dCall (fun xs M R => sp (xs ++ xds) M R) tas) :=
  PE.imp (pe_callG (E := E0) hgd F hr hg hm hk hb hd pass0 ha hdb he hpl) fun σ H Q ⟨sl, M, R, hs, hm, ht, k⟩ =>
    ⟨sl, M, _, hs, hm, ht, fun xs M1 h1 vs H1 l1 m1 r1 => ⟨xs ++ xds, M1, R, RVs.append r1 (hdv _), m1, h1, k.le l1⟩⟩
theorem de_call0 (hgd : X.A.guards = some []) (F : FnG X.prog X.w X.K X.mg X.base CX0 k f fd ps (liftSp X.K sp)) (hr : Room k X.A) (hg : Gl X x) (hm : X.mg x = some (.ref f)) (hk : PySem.W.keepIn X.K (.ref f) = true) (hb : Binds X.K fd ps [])
    (ha : DA X (e :: es) tas) (hdb : (x == ("__debug__" : Str)) = false := by decide) (he : starEach (e :: es) X.env = (false, eval e X.env) :: starEach es X.env := by rfl) (hpl : (backTo pos (starEach es X.env)).any (·.1) = false := by rfl) :
    DE X (.Call (.Name x p) (e :: es) [] pos) (dCall sp tas) :=
  PE.imp (pe_callG (E := E0) (dvs := []) hgd F hr hg hm hk hb .nil pass0 ha hdb he hpl) fun σ H Q ⟨sl, M, R, hs, hm, ht, k⟩ =>
    ⟨sl, M, _, hs, hm, ht, fun xs M1 h1 vs H1 l1 m1 r1 => ⟨xs, M1, R, by simpa using r1, m1, h1, k.le l1⟩⟩
end
end DL

/-! The data layer: the end of a law. -/
namespace DL
open PySem PySem.Spec PyProof.Rows L2
section
variable {P : Program} {w : World} {K : PySem.W.Frag} {mg mb : Str → Option Value} {CX : CXT} {k : Nat} {fa a : Addr} {fd : FuncData} {x : Str} {sp : Sp} {s₁ : Shared} {vs : List Value} {ns : List Int}
/-- the law's run over an abstract heap in which at most the script is tracked, locked -/
theorem law_at {H : Hp} (hH : ∀ b, H b ≠ none → b = a ∧ K.lookup a = none ∧ ∃ xs, H b = some (.frz { cls := .type "list", data := .seq vs.toArray } (.lst xs))) (hok : HOk P w H s₁.heap)
    (KX : K.In s₁.heap) (hns : s₁.heap.Ns mainGlobals mg) (hb : s₁.heap.Ns builtinsNs mb) (hbb : ∀ x : Str, x ≠ "__name__" → mb x = bootBuiltins x) (hlim : s₁.heap.NoLimit) (hg : s₁.gens = #[])
    (ha : s₁.heap.get? a = some { cls := .type "list", data := .seq vs.toArray }) (hr : Room k callerA)
    (F : ∀ base : Heap, K.In base → base.Ns mainGlobals mg → FnG P w K mg base CX k fa fd [x] sp) (hbind : ∀ (s : Shared) (u : Value), BindsTo s fd ⟨[u], []⟩ [(x, u)])
    (hsp : sp [.ref a] H (fun v _ => v = .bl true) fun _ _ _ => False) (hCX : ∀ e s', CX [] H s₁ (fun _ _ _ => False) e s' → False) :
    codeAny (model P w) callerA (.call (.ref fa) ⟨[.ref a], []⟩) (fun r s' => r = .ok (.ret (.bool true)) ∧ OldK s₁.heap s'.heap ∧ s'.os = s₁.os ∧ AllBare s'.gens) s₁ := by
  have noList : ∀ {b : Addr} {o : Obj}, s₁.heap.get? b = some o → (∀ its n, o.data ≠ .seq its n) → H b = none := fun {b o} e nd => by
    cases q : H b with
    | none => rfl
    | some u =>
      obtain ⟨rfl, _⟩ := hH b (by rw [q]; simp)
      rw [ha] at e
      cases e
      exact absurd rfl (nd _ _)
  have ns1 : ∀ {b : Addr} {m : Str → Option Value}, s₁.heap.Ns b m → (hidT s₁.heap H).Ns b m := by
    rintro b m ⟨o, es, ep, e, d, r⟩
    exact ⟨o, es, ep, hidT_get e (noList e fun its n z => by rw [d] at z; cases z), d, r⟩
  have inB : K.In (hidT s₁.heap H) := by
    intro b o e
    refine hidT_get (KX b o e) ?_
    cases q : H b with
    | none => rfl
    | some u =>
      obtain ⟨rfl, hk, _⟩ := hH b (by rw [q]; simp)
      rw [hk] at e
      cases e
  have md : Mod K mg (hidT s₁.heap H) := by
    refine ⟨inB, ns1 hns, ⟨mb, ns1 hb, hbb⟩, ?_⟩
    obtain ⟨mc, h1, h2⟩ := hlim
    exact ⟨mc, ns1 h1, h2⟩
  have nofr : ∀ b : Addr, b ∉ frs ([] : List Env) := fun b z => by cases z
  have e0 : Env0 P w K mg (hidT s₁.heap H) callerA [] s₁ H := ⟨rfl, md, fun _ _ e => of_hidT e, Nat.le_of_eq (hidT_size _ _), trivial, fun b z => absurd z (nofr b), hok, .of_eq hg⟩
  refine codeAny_mono ((F _ inB (ns1 hns)).run callerA [] s₁ H ⟨[.ref a], []⟩ [.ref a] [.ref a] _ _ rfl hr e0 (hbind s₁ (.ref a)) (.cons rfl .nil) hsp) ?_
  intro r s' h
  match r, h with
  | .error e, h => exact (hCX e s' h).elim
  | .ok (.ret u), h =>
    obtain ⟨v, H', os, bare, un, hok', r', q⟩ := h
    have q' : v = .bl true := q
    subst q'
    obtain rfl : u = Value.bool true := r'
    refine ⟨rfl, OldK.of_keep fun b o e => ?_, os, bare⟩
    cases hq : H b with
    | none => exact un.keep b o e hq (nofr b) (by simp)
    | some u =>
      obtain ⟨rfl, _, xs, z⟩ := hH b (by rw [hq]; simp)
      obtain ⟨e2, _⟩ := hok' b _ (un.frzs b _ _ z)
      rw [ha] at e
      cases e
      exact e2
theorem law_run (KX : K.In s₁.heap) (hns : s₁.heap.Ns mainGlobals mg) (hb : s₁.heap.Ns builtinsNs mb) (hbb : ∀ x : Str, x ≠ "__name__" → mb x = bootBuiltins x) (hlim : s₁.heap.NoLimit) (hg : s₁.gens = #[])
    (ha : s₁.heap.get? a = some { cls := .type "list", data := .seq vs.toArray }) (hi : IntsAre vs ns) (hl : ns.length ≤ sizeLine) (hr : Room k callerA)
    (F : ∀ base : Heap, K.In base → base.Ns mainGlobals mg → FnG P w K mg base CX k fa fd [x] sp) (hbind : ∀ (s : Shared) (u : Value), BindsTo s fd ⟨[u], []⟩ [(x, u)])
    (hsp : ∀ H : Hp, SqL K H a (ns.map V.int) → sp [.ref a] H (fun v _ => v = .bl true) fun _ _ _ => False) (hCX : ∀ H e s', CX [] H s₁ (fun _ _ _ => False) e s' → False) :
    codeAny (model P w) callerA (.call (.ref fa) ⟨[.ref a], []⟩) (fun r s' => r = .ok (.ret (.bool true)) ∧ OldK s₁.heap s'.heap ∧ s'.os = s₁.os ∧ AllBare s'.gens) s₁ := by
  have rv := vals_ints hi
  cases hk : K.lookup a with
  | some o =>
    have e := KX a o hk
    rw [ha] at e
    cases e
    have sq : SqL K (fun _ => none) a (ns.map V.int) := .inr ⟨_, vs.toArray, _, hk, rfl, rfl, rfl, by rw [List.size_toArray, hi.length]; exact hl, by simpa using rv⟩
    exact law_at (H := fun _ => none) (fun b z => absurd rfl z) (fun b u z => by cases z) KX hns hb hbb hlim hg ha hr F hbind (hsp _ sq) fun e s' => hCX _ e s'
  | none =>
    have at1 : (fun b => if b = a then some (HO.frz { cls := .type "list", data := .seq vs.toArray } (.lst (ns.map V.int))) else none : Hp) a = some (.frz { cls := .type "list", data := .seq vs.toArray } (.lst (ns.map V.int))) := if_pos rfl
    refine law_at (H := fun b => if b = a then some (.frz { cls := .type "list", data := .seq vs.toArray } (.lst (ns.map V.int))) else none) (fun b z => ?_) (fun b u z => ?_) KX hns hb hbb hlim hg ha hr F hbind (hsp _ (.inl (.inr ⟨_, at1⟩))) fun e s' => hCX _ e s'
    · by_cases hb : b = a
      · exact ⟨hb, hk, _, if_pos hb⟩
      · exact absurd (if_neg hb) z
    · by_cases hb : b = a
      · have z' := (if_pos hb).symm.trans z
        cases z'
        subst hb
        exact ⟨ha, by rw [List.length_map]; exact hl, vs, _, rv, ha⟩
      · have z' := (if_neg hb).symm.trans z
        cases z'
end
/-- the goal that k_head leaves, from the law's promise -/
theorem walk_data {l : PySem.W.OpenLaw} {n k : Nat} {q : Program} {loose : List Str} {XP : (Str → Option Value) → Heap → Prop} {YP : World → Heap → Prop} {d : DefRec} {K : Params → PySem.W.Frag} {CX : CXT} {sp : PySem.W.Frag → Sp} {x : Str}
    (hn : l.most = some n) (hn2 : n ≤ sizeLine) (hdf : d.params.defaults = []) (hr : Room k callerA) (hY : ∀ (w : World) (h : Heap), YP w h → (K w.params).In h)
    (F : ∀ (w : World) (mg : Str → Option Value) (fa : Addr) (h : Heap), (K w.params).In h → h.Ns mainGlobals mg → mg d.name = some (.ref fa) →
      ∃ fd : FuncData, (∀ (s : Shared) (u : Value), BindsTo s fd ⟨[u], []⟩ [(x, u)]) ∧ ∀ base : Heap, (K w.params).In base → base.Ns mainGlobals mg → FnG l.prog w (K w.params) mg base CX k fa fd [x] (sp (K w.params)))
    (hsp : ∀ (K : PySem.W.Frag) (H : Hp) (a : Addr) (ns : List Int), ns.length ≤ n → SqL K H a (ns.map V.int) → sp K [.ref a] H (fun v _ => v = .bl true) fun _ _ _ => False)
    (hCX : ∀ (H : Hp) (s : Shared) (e : Value) (s' : Shared), CX [] H s (fun _ _ _ => False) e s' → False) : PySem.W.WalkO q loose XP YP l.row.toRowW d [] (fun f vs => PySem.call f vs) := by
  refine Att.attach_call hn hdf ?_
  intro w s₀ s₁ mg mb fa o pm cd doc a vs ns G Y ho hd hcd hmg hobj hints hlen hg
  obtain ⟨fd, hb, hF⟩ := F w mg fa _ (hY w _ Y) G.T.g hmg
  exact law_run (hY w _ Y) G.T.g G.T.b G.T.builtins G.T.nolimit hg hobj hints (Nat.le_trans hlen hn2) hr hF hb (fun H hS => hsp _ H a ns hlen hS) fun H e s' => hCX H s₁ e s'
/-- a law's promise -/
def spLaw (K : PySem.W.Frag) : Sp := fun vs H Q _ => ∃ (a : Addr) (ns : List Int), vs = [.ref a] ∧ SqL K H a (ns.map V.int) ∧ ns.length ≤ 63 ∧ ∀ H', Q (.bl true) H'
end DL

/-! The data layer: products of tuples and lists by ints. -/
namespace DL
open PySem PySem.Spec PyProof.Rows L2
theorem tmul_none (l : Addr) (items : Array Value) (n : Nat) (dd : Option Addr) (sl : Array (Option Value)) (x : Int) (u : Tok) (c0 : (decide (x < -(2 ^ 63)) || decide (x ≥ 2 ^ 63)) = false) (c1 : (items.isEmpty || x == 1) = false) (c2 : (decide (x ≤ 0) || items.isEmpty) = true) :
    Meets (Builtin.«tuple.__mul__» ⟨[.ref l, .int x u], []⟩) (fun _ R s => s.heap.get? l = some { cls := .type "tuple", dict := dd, data := .seq items n, slots := sl } ∧
      R (.ok (.ret (Value.ref s.heap.objs.size))) { s with heap := s.heap.push { cls := Value.type "tuple", data := Data.seq #[] }, toks := s.toks }) :=
  .of_wp fun prog w A R s h => by
    obtain ⟨hp, g, d, tk, os⟩ := s
    obtain ⟨hl, h⟩ := h
    have f1 := AutoSeq1.idx_int
    wp_walk using wpAny_loadPart' hl
    repeat (first
      | (refine wpAny_ite_false (decide_eq_false (by rw [c0]; exact Bool.false_ne_true)) ?_; wp_walk using wpAny_loadPart' hl)
      | (refine wpAny_ite_false (decide_eq_false (by rw [c1]; exact Bool.false_ne_true)) ?_; wp_walk using wpAny_loadPart' hl)
      | (refine wpAny_ite_true (decide_eq_true c2) ?_; wp_walk using wpAny_loadPart' hl))
    exact ⟨_, rfl, h⟩
theorem tmul_one (l : Addr) (items : Array Value) (n : Nat) (dd : Option Addr) (sl : Array (Option Value)) (x : Int) (u : Tok) (c0 : (decide (x < -(2 ^ 63)) || decide (x ≥ 2 ^ 63)) = false) (c1 : (items.isEmpty || x == 1) = true) :
    Meets (Builtin.«tuple.__mul__» ⟨[.ref l, .int x u], []⟩) (fun _ R s => s.heap.get? l = some { cls := .type "tuple", dict := dd, data := .seq items n, slots := sl } ∧ R (.ok (.ret (Value.ref l))) s) :=
  .of_wp fun prog w A R s h => by
    obtain ⟨hp, g, d, tk, os⟩ := s
    obtain ⟨hl, h⟩ := h
    have f1 := AutoSeq1.idx_int
    wp_walk using wpAny_loadPart' hl
    repeat (first
      | (refine wpAny_ite_false (decide_eq_false (by rw [c0]; exact Bool.false_ne_true)) ?_; wp_walk using wpAny_loadPart' hl)
      | (refine wpAny_ite_true (decide_eq_true c1) ?_; wp_walk using wpAny_loadPart' hl))
    exact ⟨_, rfl, h⟩
section
variable {X : Cx} {M : Mem}
/-- the items of xs, k times -/
def rep {α : Type} (xs : List α) (k : Int) : List α := (List.replicate k.toNat xs).flatten
theorem RDs.rep {K : PySem.W.Frag} {H : Hp} {vs : List V} {ds : List PyData} (r : RDs K H vs ds) : ∀ n : Nat, RDs K H (List.replicate n vs).flatten (List.replicate n ds).flatten
  | 0 => .nil
  | n + 1 => by
    rw [List.replicate_succ, List.replicate_succ, List.flatten_cons, List.flatten_cons]
    exact r.append (r.rep n)
def rRepA (K : PySem.W.Frag) : R2 := fun x y H Q => ∃ l k xs, x = .ref l ∧ y = .int k ∧ SqT K H l xs ∧ xs ≠ [] ∧ -1000 ≤ k ∧ k ≤ 1000 ∧ xs.length ≤ 1000 ∧ (k = 1 → Q (.ref l) H) ∧ (k ≠ 1 → NewT H (List.replicate k.toNat xs).flatten Q)
theorem op_repA : OpR X (binaryOp .Mult) (rRepA X.K) := by
  rintro pins s σ H x y v u Q I rx ry ⟨l, k, xs, rfl, rfl, hT, hne, h1, h2, hz, q1, q2⟩
  cases rx
  obtain ⟨t, rfl⟩ := ry
  obtain ⟨its, r, ⟨⟨cls, dd, data, sl⟩, ho, hc, n, hd⟩, hs⟩ := I.tuple hT
  simp only at hc hd
  subst hc hd
  have hle : its.length = xs.length := r.length.symm
  have hi : its.toArray.isEmpty = false := by
    cases r with
    | nil => exact absurd rfl hne
    | cons _ _ => rfl
  have c0 : (decide (k < -(2 ^ 63)) || decide (k ≥ 2 ^ 63)) = false := by
    rw [decide_eq_false (by omega), decide_eq_false (by omega)] <;> rfl
  have go : ∀ {Q' : Value → Shared → Prop} {S : Around → (Result → Shared → Prop) → Shared → Prop}, Meets (Builtin.«tuple.__mul__» ⟨[.ref l, .int k t], []⟩) S → (∀ A R, (∀ v s', Q' v s' → R (.ok (.ret v)) s') → S A R s) → wpAny (model X.prog X.w) X.A (binaryOp .Mult (.ref l) (.int k t)) Q' X.xe s := by
    intro Q' S me hS
    exact wpAny_binaryOp_repeat_ref (T := "tuple") (U := "int") (by decide) ⟨_, ho, rfl⟩ (fun s' => typeIs_int s' k t) noFill_tuple_mul F.fills_int_mul F.slot_int_rmul repeat_tuple F.slot_int_index.lookup
      (call_meets F.slot_int_rmul (typeIs_int s k t) F.entry_int_rmul (F.args_int_rmul_2 _ _) (int_rmul_tuple k t l its.toArray n dd sl)
        ⟨ho, rfl, ⟨_, ho, rfl⟩, call_meets F.slot_tuple_mul ⟨_, ho, rfl⟩ F.entry_tuple_mul (F.args_tuple_mul_2 _ _) me (hS _ _ fun _ _ z => z)⟩)
  have flen : ∀ {α : Type} (ys : List α), ys.length = xs.length → (List.replicate k.toNat ys).flatten.length ≤ sizeLine := fun ys e => by
    rw [lm_len_rep_flat, e, sizeLine_eq]
    have a1 : k.toNat * xs.length ≤ 1000 * 1000 := Nat.mul_le_mul (by omega) hz
    omega
  by_cases h4 : k = 1
  · refine go (tmul_one l its.toArray n dd sl k t c0 (by rw [hi, h4] <;> rfl)) fun A R hR => ⟨ho, hR _ _ ⟨.ref l, H, I, rfl, q1 h4⟩⟩
  · have c1 : (its.toArray.isEmpty || k == 1) = false := by rw [hi, Bool.false_or]; exact beq_eq_false_iff_ne.mpr h4
    by_cases h3 : 2 ≤ k
    · have hm : ((its.toArray.size : Nat) : Int) * k ≤ 1000000 := by
        rw [List.size_toArray, hle]
        have a1 : ((xs.length : Nat) : Int) * k ≤ 1000 * k := Int.mul_le_mul_of_nonneg_right (by omega) (by omega)
        omega
      have c2 : (decide (k ≤ 0) || its.toArray.isEmpty) = false := by rw [hi, Bool.or_false]; exact decide_eq_false (by omega)
      have c4 : Builtin.Tuple.tupleTooMany (((its.toArray.size : Nat) : Int) * k) = false := by unfold Builtin.Tuple.tupleTooMany; rw [sizeLine_eq]; exact decide_eq_false (by omega)
      refine go (tuple_mulW l its.toArray n dd sl k t c0 c1 c2 (by omega) c4 (by rw [size_rep, List.size_toArray]; exact flen its hle)) fun A R hR => ⟨ho, ?_⟩
      rw [size_rep]
      exact hR _ _ (put_tup I (r.rep k.toNat) (flen xs rfl) (q2 h4))
    · refine go (tmul_none l its.toArray n dd sl k t c0 c1 (by rw [decide_eq_true (by omega)] <;> rfl)) fun A R hR => ⟨ho, hR _ _ ?_⟩
      have e0 : k.toNat = 0 := by omega
      have q3 := q2 h4
      rw [e0] at q3
      exact put_tup (its := []) I .nil (Nat.zero_le _) q3
def mulD : PyData → PyData → Mem → KD → Prop
  | .int i, .int j, M, R => (CMul i j ∨ CMulW i j) ∧ R (.d (.int (i * j))) M
  | .tuple xs, .int k, M, R => (xs ≠ [] ∧ -1000 ≤ k ∧ k ≤ 1000 ∧ xs.length ≤ 1000) ∧ R (.d (.tuple (rep xs k))) M
  | .list xs, .int k, M, R => (-(2 ^ 63) ≤ k ∧ k < 2 ^ 63 ∧ xs.length * k.toNat ≤ sizeLine) ∧ R (.d (.list (rep xs k))) M
  | _, _, _, _ => False
theorem od_mul : OpD X (binaryOp .Mult) (g2 mulD) := opd fun pins s σ H x y v u Q dx dy M R I rv ru hm rx ry hg k => by
  cases rx with
  | int i =>
    cases ry with
    | int j =>
      rcases hg with ⟨hc | hc, hg⟩
      · exact op_mul pins s σ H _ _ v u Q I rv ru ⟨i, j, rfl, rfl, hc, kt_same k hm hg (.int _)⟩
      · exact op_mulW pins s σ H _ _ v u Q I rv ru ⟨i, j, rfl, rfl, hc, kt_same k hm hg (.int _)⟩
    | _ => exact hg.elim
  | tup h1 r1 =>
    cases ry with
    | int j =>
      rename_i a xs ds
      obtain ⟨⟨n1, n2, n3, n4⟩, hg⟩ := hg
      refine op_repA pins s σ H _ _ v u Q I rv ru ⟨_, j, _, rfl, rfl, sqT_sub (hide_sub _ _) h1.t, fun z => n1 (by subst z; cases r1; rfl), n2, n3, by rw [r1.len]; exact n4, fun e => ?_, fun _ => ?_⟩
      · have e1 : rep ds j = ds := by
          unfold rep
          rw [e]
          simp
        rw [e1] at hg
        exact kt_same k hm hg (.tup h1 r1)
      · exact new_tup k hm hg (r1.rep _)
    | _ => exact hg.elim
  | lst h1 r1 =>
    cases ry with
    | int j =>
      obtain ⟨⟨n1, n2, n3⟩, hg⟩ := hg
      exact op_rep pins s σ H _ _ v u Q I rv ru ⟨_, j, _, rfl, rfl, hide_sub _ _ _ _ h1, n1, n2, by rw [r1.len]; exact n3, fun p n => kt_new k hm n hg (rd_lstN hm n (r1.rep _))⟩
    | _ => exact hg.elim
  | _ => exact hg.elim
/-- list * int, the new list owned -/
def repO : G2
  | .d (.list xs), .d (.int k), M, R => (-(2 ^ 63) ≤ k ∧ k < 2 ^ 63 ∧ xs.length * k.toNat ≤ sizeLine) ∧ ∀ p, M p = none → R (.raw (.ref p)) (updM M p (.lst ((rep xs k).map DV.d)))
  | _, _, _, _ => False
theorem od_repO : OpD X (binaryOp .Mult) repO := by
  intro pins s σ H x y v u Q I rx ry hh
  obtain ⟨dx, dy, M, R, hm, r1, r2, hg, k⟩ := hh
  unfold repO at hg
  split at hg
  · cases r2
    cases r1 with
    | lst h1 r1 =>
      obtain ⟨⟨n1, n2, n3⟩, hg⟩ := hg
      exact op_rep pins s σ H _ _ v u Q I rx ry ⟨_, _, _, rfl, rfl, hide_sub _ _ _ _ h1, n1, n2, by rw [r1.len]; exact n3, fun p n => k _ _ (hg p (own_none hm n)) _ _ (le_own n) (rep_own hm n (RDs.vals (r1.rep _))) rfl⟩
  · exact hg.elim
end
end DL

/-! The data layer: enumerate of a list or a tuple. -/
namespace DL
open PySem PySem.Spec PyProof.Rows L2
open AutoSeq1 (wpAny_loadPart')
theorem enum_newT (l : Addr) (items : Array Value) (n : Nat) (dct : Option Addr) (sl : Array (Option Value)) :
    Meets (Builtin.«enumerate.__new__» ⟨[.type "enumerate", .ref l], []⟩) (fun _ R s => s.heap.get? l = some { cls := .type "tuple", dict := dct, data := .seq items n, slots := sl } ∧
      R (.ok (.ret (.ref (s.heap.push { cls := .type "tuple_iterator", data := .fields #[.ref l, .int 0 0] }).objs.size)))
        { s with heap := (s.heap.push { cls := .type "tuple_iterator", data := .fields #[.ref l, .int 0 0] }).push { cls := .type "enumerate", data := .fields #[.none, .bool false, .ref s.heap.objs.size, rawInt 0, .none, .none] } }) :=
  .of_wp fun prog w A R s h => by
    obtain ⟨hp, g, d, tk, os⟩ := s
    obtain ⟨hl, h⟩ := h
    have hsub := sub_enumerate
    have hL : Heap.IsTuple (Shared.heap ⟨hp, g, d, tk, os⟩) l items := ⟨_, hl, rfl, n, rfl⟩
    wp_walk using wpAny_loadPart' hl
    refine wpAny_stack_any fun st => wpAny_pure ?_
    split
    · rename_i c _ _ _ _ _
      cases (c == Value.type "enumerate")
      · wp_walk using wpAny_loadPart' hl, wpAny_pyIter_tuple hL
        exact ⟨_, rfl, h⟩
      · wp_walk using wpAny_loadPart' hl, wpAny_pyIter_tuple hL
        exact ⟨_, rfl, h⟩
    · wp_walk using wpAny_loadPart' hl, wpAny_pyIter_tuple hL
      exact ⟨_, rfl, h⟩
section
variable {prog : Program} {w : World} {A : Around} {E : Value → Shared → Prop} {s : Shared}
theorem call_enumT {l : Addr} {items : Array Value} {Q : Value → Shared → Prop} (hL : s.heap.IsTuple l items)
    (h : ∀ h', IsEnum h' (s.heap.objs.size + 1) s.heap.objs.size 0 .none → h'.IsTupleIter s.heap.objs.size l 0 → h'.objs.size = s.heap.objs.size + 2 →
      (∀ b o, s.heap.get? b = some o → h'.get? b = some o) → Q (.ref (s.heap.objs.size + 1)) { s with heap := h' }) : wpAny (model prog w) A (call (.type "enumerate") [.ref l]) Q E s := by
  obtain ⟨⟨c, dct, dt, sl⟩, hl, hc, n, hd⟩ := hL
  simp only at hc hd
  subst hc hd
  refine callType_new F.called_enumerate (by decide) (F.typeCall_enumerate_1 _) (F.newCall_enumerate_1 _) (fun obj => F.args_object_init_2 obj _) F.entry_enumerate_new (enum_newT l items n dct sl) ⟨hl, ?_⟩
  have hz : (s.heap.push { cls := .type "tuple_iterator", data := .fields #[.ref l, .int 0 0] }).objs.size = s.heap.objs.size + 1 := Heap.size_push ..
  show _ ∧ _
  rw [hz]
  have he : IsEnum ((s.heap.push { cls := .type "tuple_iterator", data := .fields #[.ref l, .int 0 0] }).push
      { cls := .type "enumerate", data := .fields #[.none, .bool false, .ref s.heap.objs.size, rawInt 0, .none, .none] }) (s.heap.objs.size + 1) s.heap.objs.size 0 .none := by
    have q := Heap.get?_push_size (s.heap.push { cls := .type "tuple_iterator", data := .fields #[.ref l, .int 0 0] }) (o := { cls := .type "enumerate", data := .fields #[.none, .bool false, .ref s.heap.objs.size, rawInt 0, .none, .none] }) rfl
    rw [hz] at q
    exact q
  exact ⟨⟨_, he, rfl⟩, h _ he ⟨_, Heap.get?_push_of_some _ (Heap.get?_push_size _ rfl), rfl, rfl⟩ (by rw [Heap.size_push, hz]) fun b o x => Heap.get?_push_of_some _ (Heap.get?_push_of_some _ x)⟩
end
/-- the tuple at a, each item in a new pair -/
def IteT (K : PySem.W.Frag) (a : Addr) : It :=
  ⟨fun i H => ∃ (xs : List V) (x : V), SqT K H a xs ∧ xs[i]? = some x, fun i H v H' => ∃ T x, v = .ref T ∧ H T = none ∧ H' = upd H T (.tup [.int (i : Nat), x]) ∧ ∀ xs, SqT K H a xs → xs[i]? = some x, fun i H => ∃ xs : List V, SqT K H a xs ∧ xs.length = i⟩
theorem turn_enumT {P : Program} {w : World} {K : PySem.W.Frag} {elts : List Expr} {kk : Nat} {tpos : Pos} (a e it : Addr) :
    Turn P w K (.Tuple elts kk tpos) (IteT K a) [e, it] e (fun i h => (∃ old, IsEnum h e it ((i : Nat) : Int) old) ∧ h.IsTupleIter it a i ∧ e ≠ it ∧ a ≠ it ∧ e ≠ a) where
  mem := by simp
  obj := fun i h st b hb => by
    obtain ⟨⟨old, he⟩, ⟨o, ho, hc, hd⟩, _⟩ := st
    have e' : b = e ∨ b = it := by simpa using hb
    rcases e' with z | z
    · rw [z]
      exact ⟨_, he, fun v q => nomatch q⟩
    · rw [z]
      exact ⟨o, ho, fun v q => by rw [hd] at q; cases q⟩
  keep := fun i h h' st k => let ⟨⟨old, he⟩, hi, hne⟩ := st; ⟨⟨old, k e (by simp) _ he⟩, hi.at fun o q => k it (by simp) o q, hne⟩
  item := by
    intro X hP hw hK hc i pins s σ H E I hf st hg
    subst hP hw hK
    obtain ⟨⟨old, he⟩, hit, hne, hai, hea⟩ := st
    obtain ⟨xs, x, hq, hx⟩ := hg
    obtain ⟨its, rv, p, hz⟩ := I.tuple hq
    obtain ⟨u, hu, ru⟩ := rv.get hx
    have hlen := rv.length
    have hi : i < its.toArray.size := by
      rw [List.size_toArray]
      exact (List.getElem?_eq_some_iff.mp hu).1
    have hel : e < s.heap.objs.size := Heap.lt_size he
    have hil : it < s.heap.objs.size := by obtain ⟨_, q, _⟩ := hit; exact Heap.lt_size q
    refine wpAny_pyNext_enum_itemD (Draws.tuple (A := X.A.in1) (I.ok.hd hc) it a hai its.toArray) he ⟨hit, p⟩ hi hne (by simp [hne, hea]) fun u' h' tk pu ho hst hT hsz hk => ?_
    have eu : u' = u := by
      have q : its.toArray[i]? = some u := by simpa using hu
      exact Option.some.inj (pu.symm.trans q)
    subst eu
    refine ⟨_, rfl, wpAny_letOwnedTupleGo_enum (s := { s with heap := h', toks := tk + 1 }) ho fun h'' he' sb => ?_⟩
    have hT2 : h''.get? s.heap.objs.size = some { cls := .type "tuple", data := .seq #[.int i tk, u'] } := (sb.2 _ (Nat.ne_of_gt hel)).trans hT
    have new : ObjOk X.prog X.w (upd H s.heap.objs.size (.tup [.int (i : Nat), x])) h'' s.heap.objs.size (.tup [.int (i : Nat), x]) :=
      ⟨by show 2 ≤ sizeLine; decide, [.int i tk, u'], .cons ⟨_, rfl⟩ (.cons ru .nil), ⟨_, hT2, rfl, _, rfl⟩⟩
    have I1 : Inv X pins σ (upd H s.heap.objs.size (.tup [.int (i : Nat), x])) { s with heap := h'', toks := tk + 1 } :=
      I.turnedNew (ch := [e, it]) (fun b ob hb q => (sb.2 b (fun z => hb (by simp [z]))).trans (hk b ob (fun z => hb (by simp [z])) (fun z => hb (by simp [z])) q)) hf (Nat.le_refl _) new
    refine ⟨.ref s.heap.objs.size, _, I1, rfl, ⟨_, x, rfl, I.hok.fresh (Nat.le_refl _), rfl, fun ys hy => by rw [I.tuple_inj hy hq]; exact hx⟩, ⟨⟨u', ?_⟩, hst.1.at fun o q => (sb.2 it (Ne.symm hne)).trans q, hne, hai, hea⟩, fun b hb => ?_⟩
    · have e1 : ((i + 1 : Nat) : Int) = (i : Int) + 1 := by omega
      rw [e1]
      exact he'
    · have hb' : b < s.heap.objs.size := by
        have e' : b = e ∨ b = it := by simpa using hb
        rcases e' with z | z
        · rw [z]; exact hel
        · rw [z]; exact hil
      rw [upd_ne (Nat.ne_of_lt hb')]
      exact (hf b hb).1
  done := by
    intro X hP hw hK hc i pins s σ H E I hf st hg
    subst hP hw hK
    obtain ⟨⟨old, he⟩, hit, hne, hai, hea⟩ := st
    obtain ⟨xs, hq, hx⟩ := hg
    obtain ⟨its, rv, p, hz⟩ := I.tuple hq
    obtain ⟨f0, f1, f2, f3, f4, f5⟩ := hf it (by simp)
    have hl := rv.length
    have ei : its.toArray.size = i := by rw [List.size_toArray]; omega
    exact wpAny_pyNext_enum_endD (Draws.tuple (A := X.A.in1) (I.ok.hd hc) it a hai its.toArray) he (by rw [ei]; exact ⟨hit, p⟩) fun h' eb => ⟨rfl, I.turned (t' := s.toks) (fun b o hb q => eb b o hb q) f0 f1 f3 f4 f5⟩
  self := fun A i s Q E st h => let ⟨⟨_, he⟩, _⟩ := st; wpAny_pyIter_enum he h
def iEnumA (K : PySem.W.Frag) (ta : TA) : TI := fun σ H R => ta σ H fun vs H1 => (∃ a xs, vs = [.ref a] ∧ SqL K H1 a xs ∧ R (Ite K a) H1) ∨ ∃ a xs, vs = [.ref a] ∧ SqT K H1 a xs ∧ R (IteT K a) H1
theorem pi_enumA {X : Cx} {e : Expr} {ta : TA} {p pos tpos : Pos} {elts : List Expr} {kk : Nat} (hg : Gl X "enumerate") (hm : X.mg "enumerate" = none) (ha : PA X [e] ta) (hs : starEach [e] X.env = [(false, eval e X.env)]) :
    PI X (.Tuple elts kk tpos) (.Call (.Name "enumerate" p) [e] [] pos) (iEnumA X.K ta) := by
  refine ⟨fun pins s σ H R I h => ?_⟩
  refine Call_ (ld_blt I hg hm boot_enumerate (PyProof.Rows.callWith_type1 (thn (ha.run pos pins s σ H _ I h) ?_) hs rfl))
  intro us s1 hh
  obtain ⟨vs, H1, I1, r1, q1⟩ := hh
  have new : ∀ b ∈ [s1.heap.objs.size + 1, s1.heap.objs.size], FpOk X pins H1 b := fun b hb => by
    have hle : s1.heap.objs.size ≤ b := by
      rcases List.mem_cons.mp hb with z | z
      · omega
      · rw [List.mem_singleton.mp z]; exact Nat.le_refl _
    exact I1.fpOk hle (I1.hok.fresh hle)
  rcases q1 with ⟨a, xs, ex, hq, q⟩ | ⟨a, xs, ex, hq, q⟩
  · subst ex
    obtain ⟨u, rfl, ru⟩ := vals1 r1
    cases ru
    obtain ⟨its, rv, p', hz⟩ := I1.list hq
    refine call_enumerate_list p'.isList fun h' he hit hsz hk => wpAny_pyIter_enum he ?_
    exact ⟨_, _, _, _, H1, rfl, I1.kept (t' := s1.toks) hk, turn_enum a (s1.heap.objs.size + 1) s1.heap.objs.size, ⟨⟨.none, he⟩, hit, Nat.succ_ne_self _⟩, new, q⟩
  · subst ex
    obtain ⟨u, rfl, ru⟩ := vals1 r1
    cases ru
    obtain ⟨its, rv, p', hz⟩ := I1.tuple hq
    have hal : a < s1.heap.objs.size := p'.lt
    refine call_enumT p' fun h' he hit hsz hk => wpAny_pyIter_enum he ?_
    exact ⟨_, _, _, _, H1, rfl, I1.kept (t' := s1.toks) hk, turn_enumT a (s1.heap.objs.size + 1) s1.heap.objs.size, ⟨⟨.none, he⟩, hit, Nat.succ_ne_self _, Nat.ne_of_lt hal, Nat.ne_of_gt (Nat.lt_succ_of_lt hal)⟩, new, q⟩
section
variable {X : Cx} {tas : TAD}
def enumL (ds : List PyData) : List DV := ds.zipIdx.map fun p => DV.pr (.d (.int (p.2 : Nat))) (.d p.1)
theorem enumL_len (ds : List PyData) : (enumL ds).length = ds.length := by unfold enumL; rw [List.length_map, List.length_zipIdx]
theorem enumL_get (ds : List PyData) (i : Nat) : (enumL ds)[i]? = ds[i]?.map fun d => DV.pr (.d (.int (i : Nat))) (.d d) := by
  unfold enumL
  rw [List.getElem?_map, List.getElem?_zipIdx]
  cases ds[i]? <;> simp
def diEnum (ta : TAD) : TID := fun sl M R => ta sl M fun xs M1 => match xs with
  | [.d (.list ds)] => R (enumL ds) M1
  | [.d (.tuple ds)] => R (enumL ds) M1
  | _ => False
theorem pair_ok {K : PySem.W.Frag} {H1 H2 : Hp} {M1 : Mem} {T : Addr} {i : Nat} {x : V} {d : PyData} (m : RepM K H1 M1) (n : H1 T = none) (e : H2 = upd H1 T (.tup [.int (i : Nat), x])) (rd : RD K (hide H1 M1) x d) :
    Le H1 M1 H2 M1 ∧ RepM K H2 M1 ∧ RV K (hide H2 M1) (.ref T) (.pr (.d (.int (i : Nat))) (.d d)) := by
  subst e
  exact ⟨le_new n, rep_new m n, T, .int (i : Nat), x, rfl, SqT.of (new_at m n), .int _, RD.sub (le_new n) rd⟩
theorem it_enumL {K : PySem.W.Frag} {H : Hp} {M : Mem} {a : Addr} {xs : List V} {ds : List PyData} (h : hide H M a = some (.lst xs)) (r : RDs K (hide H M) xs ds) : ItOk K H M (Ite K a) (enumL ds) := fun H1 M1 l m => by
  have h1 : SqL K H1 a xs := SqL.of (hide_sub _ _ _ _ (l _ _ h))
  have len := r.len
  refine ⟨fun i hi => ?_, ⟨xs, h1, by rw [enumL_len]; omega⟩⟩
  rw [enumL_len] at hi
  refine ⟨⟨xs, xs[i], h1, by rw [List.getElem?_eq_getElem (by omega)]⟩, fun v H2 y => ?_⟩
  obtain ⟨T, x, rfl, n, e, y⟩ := y
  obtain ⟨d, ed, rd⟩ := r.getV (y xs h1)
  obtain ⟨p1, p2, p3⟩ := pair_ok m n e (RD.sub l rd)
  exact ⟨p1, p2, .pr (.d (.int (i : Nat))) (.d d), by rw [enumL_get, ed]; rfl, p3⟩
theorem it_enumT {K : PySem.W.Frag} {H : Hp} {M : Mem} {a : Addr} {xs : List V} {ds : List PyData} (h : SqT K (hide H M) a xs) (r : RDs K (hide H M) xs ds) : ItOk K H M (IteT K a) (enumL ds) := fun H1 M1 l m => by
  have h1 : SqT K H1 a xs := sqT_sub (hide_sub _ _) (sqT_sub l h)
  have len := r.len
  refine ⟨fun i hi => ?_, ⟨xs, h1, by rw [enumL_len]; omega⟩⟩
  rw [enumL_len] at hi
  refine ⟨⟨xs, xs[i], h1, by rw [List.getElem?_eq_getElem (by omega)]⟩, fun v H2 y => ?_⟩
  obtain ⟨T, x, rfl, n, e, y⟩ := y
  obtain ⟨d, ed, rd⟩ := r.getV (y xs h1)
  obtain ⟨p1, p2, p3⟩ := pair_ok m n e (RD.sub l rd)
  exact ⟨p1, p2, .pr (.d (.int (i : Nat))) (.d d), by rw [enumL_get, ed]; rfl, p3⟩
theorem di_enum {e : Expr} {p pos tpos : Pos} {elts : List Expr} {kk : Nat} (hg : Gl X "enumerate") (hm : X.mg "enumerate" = none) (ha : DA X [e] tas) (hs : starEach [e] X.env = [(false, eval e X.env)] := by rfl) :
    DI X (.Tuple elts kk tpos) (.Call (.Name "enumerate" p) [e] [] pos) (diEnum tas) :=
  PI.imp (pi_enumA hg hm ha hs) fun σ H R ⟨sl, M, RR, hs, hm, ht, k⟩ => ⟨sl, M, _, hs, hm, ht, fun x M1 h1 v H1 l1 m1 r1 => by
    split at h1
    · cases r1 with
      | cons r1 r2 =>
        cases r2
        cases r1 with
        | lst q1 q2 => exact .inl ⟨_, _, rfl, SqL.of (hide_sub _ _ _ _ q1), k _ M1 h1 _ H1 l1 m1 (it_enumL q1 q2)⟩
    · cases r1 with
      | cons r1 r2 =>
        cases r2
        cases r1 with
        | tup q1 q2 => exact .inr ⟨_, _, rfl, sqT_sub (hide_sub _ _) q1.t, k _ M1 h1 _ H1 l1 m1 (it_enumT q1.t q2)⟩
    · exact h1.elim⟩
end
end DL

/-! The data layer: defs and constants of the text by name; chains; isinstance, all, any, list. -/
namespace DL
open PySem PySem.Spec PyProof.Rows L2
/-- a def of the text, by its name, its level and its promise (defaults filled up within) -/
structure Def (P : Program) (w : World) (K : PySem.W.Frag) (mg : Str → Option Value) (base : Heap) (x : Str) (k : Nat) (sp : SpD) : Prop where
  ex : ∃ (f : Addr) (fd : FuncData) (ps : List Str) (spF : SpD) (ds : List Value) (dvs : List V) (xds : List DV), FnG P w K mg base CX0 k f fd ps (liftSp K spF) ∧ mg x = some (.ref f) ∧ PySem.W.keepIn K (.ref f) = true ∧
    Binds K fd ps ds ∧ Vals dvs ds ∧ (∀ H, RVs K H dvs xds) ∧ ∀ xs M R, sp xs M R → spF (xs ++ xds) M R
/-- a constant of the text -/
structure Glb (K : PySem.W.Frag) (mg : Str → Option Value) (x : Str) (d : DV) : Prop where
  ex : ∃ v u, mg x = some u ∧ RelV v u ∧ ∀ H, RV K H v d
section
variable {P : Program} {w : World} {K : PySem.W.Frag} {mg : Str → Option Value} {base : Heap}
theorem Def.of {x : Str} {k : Nat} {sp : SpD} {f : Addr} {fd : FuncData} {ps : List Str} (F : FnG P w K mg base CX0 k f fd ps (liftSp K sp)) (m : mg x = some (.ref f)) (kp : PySem.W.keepIn K (.ref f) = true) (b : Binds K fd ps []) : Def P w K mg base x k sp :=
  ⟨f, fd, ps, sp, [], [], [], F, m, kp, b, .nil, fun _ => .nil, fun xs M R h => by rw [List.append_nil]; exact h⟩
/-- a def as it stands behind the top, whatever its defaults -/
structure FunA (K : PySem.W.Frag) (x qual : Str) (st : Stmt) (dV : Value) (f : Addr) (fd : FuncData) : Prop where
  ex : ∃ (oc : Value) (od : Option Addr) (kV doc pm : Value) (an : Option Addr) (cdv ct : Value) (osl : Array (Option Value)),
    fd = PySem.W.fnOf x qual (defArgs st) (defBody st) (defScope st) dV kV doc pm an cdv ct ∧ K.lookup f = some ⟨oc, od, .func fd, osl⟩ ∧ PySem.W.codeIn K cdv qual = true
  kp : PySem.W.keepIn K (.ref f) = true
theorem funA_mk {x qual : Str} {st : Stmt} {f : Addr} {oc : Value} {od an : Option Addr} {osl : Array (Option Value)} {dV kV doc pm cdv ct : Value} (l : K.lookup f = some ⟨oc, od, .func (PySem.W.fnOf x qual (defArgs st) (defBody st) (defScope st) dV kV doc pm an cdv ct), osl⟩)
    (c : PySem.W.codeIn K cdv qual = true) (k : PySem.W.keepIn K (.ref f) = true) : FunA K x qual st dV f (PySem.W.fnOf x qual (defArgs st) (defBody st) (defScope st) dV kV doc pm an cdv ct) := ⟨⟨oc, od, kV, doc, pm, an, cdv, ct, osl, rfl, l, c⟩, k⟩
theorem FunA.binds {x qual : Str} {st : Stmt} {f : Addr} {fd : FuncData} {dV : Value} {ps : List Str} (F : FunA K x qual st dV f fd)
    (h : ∀ (kV doc pm : Value) (an : Option Addr) (cdv ct : Value) (us : List Value), us.length = ps.length → bindArgs (PySem.W.fnOf x qual (defArgs st) (defBody st) (defScope st) dV kV doc pm an cdv ct) ⟨us, []⟩ = pure (ps.zip us)) : Binds K fd ps [] := by
  obtain ⟨oc, od, kV, doc, pm, an, cdv, ct, osl, rfl, lk, hcd⟩ := F.ex
  exact .all (h kV doc pm an cdv ct)
/-- a def with defaults: m values are written, those behind the first j fill up -/
theorem FunA.bindsD {x qual : Str} {st : Stmt} {f T : Addr} {fd : FuncData} {ps : List Str} {tc : Value} {td : Option Addr} {its : List Value} {n : Nat} {ts : Array (Option Value)} (F : FunA K x qual st (.ref T) f fd) (lT : K.lookup T = some ⟨tc, td, .seq its.toArray n, ts⟩) (m j : Nat) (hm : m + (its.length - j) = ps.length)
    (h : ∀ (kV doc pm : Value) (an : Option Addr) (cdv ct : Value) (us : List Value), us.length = m → ∃ k, bindArgs (PySem.W.fnOf x qual (defArgs st) (defBody st) (defScope st) (.ref T) kV doc pm an cdv ct) ⟨us, []⟩ = seqItems? (.ref T) >>= k ∧ k (some its.toArray) = pure (ps.zip (us ++ its.drop j))) : Binds K fd ps (its.drop j) := by
  obtain ⟨oc, od, kV, doc, pm, an, cdv, ct, osl, rfl, lk, hcd⟩ := F.ex
  intro s us X hlen
  obtain ⟨k, e1, e2⟩ := h kV doc pm an cdv ct us (by rw [List.length_append, List.length_drop] at hlen; omega)
  refine L2.BindsTo.of_looks fun M => ?_
  rw [e1]
  exact looks_items X lT rfl (.of_pure e2)
/-- THE RULE for a def over data -/
theorem FunA.data {x qual : Str} {st : Stmt} {dV : Value} {f : Addr} {fd : FuncData} {N ps : List Str} {k : Nat} {sp : SpD} (F : FunA K x qual st dV f fd) (S : FnScope N ps (defScope st)) (len : ∀ xs M R, sp xs M R → xs.length = ps.length) (t : TSD)
    (hbody : ∀ (cdv : Value) (A : Around) (outer : List Env) (s : Shared) (H : Hp) (E : XK), A.guards = some [] → Room k (A.deeper (envOfC qual (defScope st) s.heap.objs.size f cdv)) →
      DSs (cxOf CX0 P w K mg base N qual (defScope st) f cdv A outer s H E).nox (defBody st) t)
    (pure : ∀ xs M R, sp xs M R → t { nx := fun _ M' => R (.d .none) M', rt := R } (startD N xs) M) : FnG P w K mg base CX0 (k + 1) f fd ps (liftSp K sp) := by
  obtain ⟨oc, od, kV, doc, pm, an, cdv, ct, osl, rfl, lk, hcd⟩ := F.ex
  refine fnG_of lk hcd S (fun vs H Q E ⟨xs, M, R, rv, _, hs, _⟩ => (RVs.len rv).trans (len xs M R hs)) fun A outer s H vs Q E hg hr ⟨xs, M, R, rv, hm, hs, k⟩ => ⟨liftS K t, (hbody cdv A outer s H E hg hr).nox, ?_⟩
  exact ⟨_, M, _, rep_start N rv, hm, pure xs M R hs, fun sl M' h σ' H' l m r => k _ M' h _ H' l m .non, k, fun _ _ z => z.elim, fun _ _ z => z.elim⟩
end
section
variable {X : Cx} {x : Str} {p pos : Pos} {a b c e : Expr} {es : List Expr} {ta tb tc te : TD} {tas : TAD} {k : Nat} {sp : SpD}
theorem Def.de (D : Def X.prog X.w X.K X.mg X.base x k sp) (hgd : X.A.guards = some []) (hr : Room k X.A) (hg : Gl X x) (ha : DA X (e :: es) tas) (hdb : (x == ("__debug__" : Str)) = false := by decide) (he : starEach (e :: es) X.env = (false, eval e X.env) :: starEach es X.env := by rfl)
    (hpl : (backTo pos (starEach es X.env)).any (·.1) = false := by rfl) : DE X (.Call (.Name x p) (e :: es) [] pos) (dCall sp tas) := by
  obtain ⟨f, fd, ps, spF, ds, dvs, xds, F, m, kp, hb, hv, hx, hi⟩ := D.ex
  exact PE.imp (pe_callG (E := E0) hgd F hr hg m kp hb hv pass0 ha hdb he hpl) fun σ H Q ⟨sl, M, R, hs, hm, ht, k⟩ =>
    ⟨sl, M, _, hs, hm, ht, fun xs M1 h1 vs H1 l1 m1 r1 => ⟨xs ++ xds, M1, R, RVs.append r1 (hx _), m1, hi _ _ _ h1, k.le l1⟩⟩
theorem Glb.de {d : DV} (g : Glb X.K X.mg x d) (hg : Gl X x) (hd : (x == ("__debug__" : Str)) = false := by decide) : DE X (.Name x pos) (dC d) := by
  obtain ⟨v, u, m, r, rd⟩ := g.ex
  exact de_glob hg m r rd hd
/-- a op b op' c -/
def dChain (g g' : G2) (ta tb tc : TD) : TD := fun sl M R => ta sl M fun x M1 => tb sl M1 fun y M2 => g x y M2 fun z M3 => match z with
  | .d (.bool k) => if k = true then tc sl M3 fun w M4 => g' y w M4 R else R (.d (.bool false)) M3
  | _ => False
theorem chain_imp {g g' : G2} {σ : L2.St} {H : Hp} {Q : VK} (h : liftE X.K (dChain g g' ta tb tc) σ H Q) : tChain (lift2 X.K g) (lift2 X.K g') (liftE X.K ta) (liftE X.K tb) (liftE X.K tc) σ H Q := by
  obtain ⟨sl, M, R, hs, hm, ht, k⟩ := h
  refine ⟨sl, M, _, hs, hm, ht, fun x M1 h1 v H1 l1 m1 r1 => ⟨sl, M1, _, hs.sub l1, m1, h1, fun y M2 h2 u H2 l2 m2 r2 => ⟨x, y, M2, _, m2, r1.sub l2, r2, h2, fun z M3 h3 w H3 l3 m3 r3 => ?_⟩⟩⟩
  split at h3
  · rename_i kk
    cases r3
    refine ⟨kk, rfl, ?_⟩
    have l12 := (l1.trans l2).trans l3
    cases kk with
    | false => exact k _ M3 h3 _ H3 l12 m3 (.bl _)
    | true => exact ⟨sl, M3, _, hs.sub l12, m3, h3, fun w' M4 h4 wv H4 l4 m4 r4 => ⟨y, w', M4, R, m4, (r2.sub l3).sub l4, r4, h4, k.le (l12.trans l4)⟩⟩
  · exact h3.elim
theorem de_chain {op op' : CmpOp} {g g' : G2} (ho : OpD X (compareOp op) g) (ho' : OpD X (compareOp op') g') (ha : DE X a ta) (hb : DE X b tb) (hc : DE X c tc) (hm : lastMarks [op, op'] [b, c] = false := by with_unfolding_all rfl) : DE X (.Compare a [op, op'] [b, c] pos) (dChain g g' ta tb tc) :=
  PE.imp (pe_chain ho ho' ha hb hc hm) fun _ _ _ h => chain_imp h
theorem dt_chain {op op' : CmpOp} {g g' : G2} (ho : OpD X (compareOp op) g) (ho' : OpD X (compareOp op') g') (ha : DE X a ta) (hb : DE X b tb) (hc : DE X c tc) (hm : lastMarks [op, op'] [b, c] = false := by with_unfolding_all rfl) : DT X (.Compare a [op, op'] [b, c] pos) (dB (dChain g g' ta tb tc)) :=
  PT.imp (pt_chain ho ho' ha hb hc hm) fun _ _ _ h => chain_imp (dB_imp h)
end
end DL

/-! The data layer: words for the pure parts; the source of the draws. -/
namespace DL
open PySem PySem.Spec PyProof.Rows L2
/-- a law's start -/
theorem law_start {K : PySem.W.Frag} {H : Hp} {a : Addr} {ns : List Int} {sp : SpD} {n : Nat} {E : XK} (says : ∀ ns M R, ns.length ≤ n → (∀ M', R (.d (.bool true)) M') → sp [.scr ns] M R) (hl : ns.length ≤ n) (hS : SqL K H a (ns.map V.int)) :
    liftSp K sp [.ref a] H (fun v _ => v = .bl true) E := by
  have e : hide H (fun _ => none) = H := by
    funext b
    rfl
  refine ⟨[.scr ns], fun _ => none, fun x _ => x = .d (.bool true), ?_, fun a o z => (by cases z), says ns _ _ hl fun _ => rfl, fun x M' h v H' _ _ r => ?_⟩
  · rw [e]
    exact .cons ⟨a, rfl, hS⟩ .nil
  · subst h
    cases r
    rfl
/-- an if whose test is a decision -/
theorem if_dec {p : Prop} [Decidable p] {A B : Prop} (h1 : p → A) (h2 : ¬ p → B) : if decide p = true then A else B := by
  by_cases h : p
  · rw [if_pos (decide_eq_true h)]
    exact h1 h
  · rw [if_neg (by rw [decide_eq_false h]; exact Bool.false_ne_true)]
    exact h2 h
theorem if_ndec {p : Prop} [Decidable p] {A B : Prop} (h1 : ¬ p → A) (h2 : p → B) : if (!decide p) = true then A else B := by
  by_cases h : p
  · rw [decide_eq_true h]
    exact h2 h
  · rw [decide_eq_false h]
    exact h1 h
theorem if_yes {k : Bool} {A B : Prop} (e : k = true) (h : A) : if k = true then A else B := by rw [if_pos e]; exact h
theorem if_no {k : Bool} {A B : Prop} (e : k = false) (h : B) : if k = true then A else B := by rw [e]; exact h
theorem if_b {k : Bool} {A B : Prop} (h1 : k = true → A) (h2 : k = false → B) : if k = true then A else B := by
  cases k with
  | true => exact h1 rfl
  | false => exact h2 rfl
theorem range_get {lo : Int} {n i : Nat} {x : DV} (h : (rangeL lo n)[i]? = some x) : x = .d (.int (lo + (i : Int))) ∧ i < n := by
  unfold rangeL at h
  rw [List.getElem?_map] at h
  cases e : (List.range n)[i]? with
  | none => rw [e] at h; cases h
  | some j =>
    have hi : i < n := by
      have := (List.getElem?_eq_some_iff.mp e).1
      simpa using this
    rw [List.getElem?_range hi] at e
    cases e
    rw [List.getElem?_range hi] at h
    cases h
    exact ⟨rfl, hi⟩
theorem rangeL_len {lo : Int} {n : Nat} : (rangeL lo n).length = n := by unfold rangeL; rw [List.length_map, List.length_range]
theorem map_get {α : Type} {f : α → DV} {l : List α} {i : Nat} {x : DV} (h : (l.map f)[i]? = some x) : ∃ a, l[i]? = some a ∧ x = f a := by
  rw [List.getElem?_map] at h
  cases e : l[i]? with
  | none => rw [e] at h; cases h
  | some a => rw [e] at h; cases h; exact ⟨a, rfl, rfl⟩
theorem small {n : Nat} (h : n ≤ 1000000) : n ≤ sizeLine := Nat.le_trans h (by decide)
theorem smallL {n : Nat} (h : n < 1000000) : n < sizeLine := Nat.lt_of_lt_of_le h (by decide)

theorem sz (n : Nat) {m : Nat} (h : n ≤ 1000000 := by decide) (e : m = n := by rfl) : m ≤ sizeLine := e ▸ small h
/-- a display of data -/
theorem disp {xs : List DV} {ds : List PyData} {Q : List PyData → Prop} (q : Q ds) (e : allD xs = some ds := by rfl) (h : ds.length ≤ 1000000 := by exact Nat.le_of_ble_eq_true rfl) : optP (allD xs) (fun ds => ds.length ≤ sizeLine ∧ Q ds) := optP_of e ⟨small h, q⟩

/-! ### ints as data -/
abbrev dI (ns : List Int) : List PyData := ns.map PyData.int
theorem eqvAll_ints : ∀ (a b : List Int), PyData.eqvAll (dI a) (dI b) = decide (a = b)
  | [], [] => by simp [dI, PyData.eqvAll]
  | [], _ :: _ => by simp [dI, PyData.eqvAll]
  | _ :: _, [] => by simp [dI, PyData.eqvAll]
  | x :: xs, y :: ys => by
    show PyData.eqvAll (.int x :: dI xs) (.int y :: dI ys) = _
    rw [PyData.eqvAll, eqv_int, eqvAll_ints xs ys]
    by_cases h : x = y
    · by_cases h2 : xs = ys
      · simp [h, h2]
      · simp [h, h2]
    · simp [h]
theorem eqv_tup (a b : List PyData) : PyData.eqv (.tuple a) (.tuple b) = PyData.eqvAll a b := by simp only [PyData.eqv]
theorem eqv_lst (a b : List PyData) : PyData.eqv (.list a) (.list b) = PyData.eqvAll a b := by simp only [PyData.eqv]
theorem eqv_ti (a b : List Int) : PyData.eqv (.tuple (dI a)) (.tuple (dI b)) = decide (a = b) := (eqv_tup _ _).trans (eqvAll_ints a b)
theorem eqv_li (a b : List Int) : PyData.eqv (.list (dI a)) (.list (dI b)) = decide (a = b) := (eqv_lst _ _).trans (eqvAll_ints a b)
theorem eqv_nil (a : List PyData) : PyData.eqv (.list a) (.list []) = decide (a = []) := by
  cases a <;> simp [eqv_lst, PyData.eqvAll]
theorem eqv_nilT (a : List PyData) : PyData.eqv (.tuple a) (.tuple []) = decide (a = []) := by
  cases a <;> simp [eqv_tup, PyData.eqvAll]
theorem depthAll_ints : ∀ a : List Int, PyData.depthAll (dI a) = 0
  | [] => rfl
  | x :: xs => by
    show PyData.depthAll (.int x :: dI xs) = 0
    rw [PyData.depthAll, depthAll_ints xs]
    simp [PyData.depth]
theorem depth_ti (a : List Int) : PyData.depth (.tuple (dI a)) = 1 := by
  unfold PyData.depth
  rw [depthAll_ints]
theorem depth_li (a : List Int) : PyData.depth (.list (dI a)) = 1 := by
  unfold PyData.depth
  rw [depthAll_ints]
theorem depth_nilL : PyData.depth (.list []) = 1 := rfl
theorem plain_ints : ∀ a : List Int, PyData.plainAll (dI a) = true
  | [] => rfl
  | x :: xs => by
    show PyData.plainAll (.int x :: dI xs) = true
    rw [PyData.plainAll, plain_ints xs]
    rfl
theorem plainAll_map {α : Type} {f : α → PyData} (h : ∀ x, (f x).plain = true) : ∀ l : List α, PyData.plainAll (l.map f) = true
  | [] => rfl
  | x :: xs => by rw [List.map_cons, PyData.plainAll, h x, plainAll_map h xs]; rfl
theorem plain_tup {ds : List PyData} (h : PyData.plainAll ds = true) : PyData.plain (.tuple ds) = true := by simpa only [PyData.plain] using h
theorem plain_lst {ds : List PyData} (h : PyData.plainAll ds = true) : PyData.plain (.list ds) = true := by simpa only [PyData.plain] using h
theorem eqOk_ti (a b : List Int) : EqOk (.tuple (dI a)) (.tuple (dI b)) := ⟨plain_tup (plain_ints a), plain_tup (plain_ints b), Nat.le_trans (Nat.min_le_left _ _) (by rw [depth_ti]; decide)⟩
theorem eqOk_li (a b : List Int) : EqOk (.list (dI a)) (.list (dI b)) := ⟨plain_lst (plain_ints a), plain_lst (plain_ints b), Nat.le_trans (Nat.min_le_left _ _) (by rw [depth_li]; decide)⟩
theorem eqOk_T {ds : List PyData} (h : PyData.plainAll ds = true) : EqOk (.tuple ds) (.tuple []) := ⟨plain_tup h, rfl, Nat.le_trans (Nat.min_le_right _ _) (by decide)⟩
theorem eqOk_L {ds : List PyData} (h : PyData.plainAll ds = true) : EqOk (.list ds) (.list []) := ⟨plain_lst h, rfl, Nat.le_trans (Nat.min_le_right _ _) (by decide)⟩
theorem dI_nil {a : List Int} : dI a = [] ↔ a = [] := by cases a <;> simp [dI]
theorem cut_map {α β : Type} (f : α → β) (xs : List α) (lo hi : Option Int) : cutL (xs.map f) lo hi = (cutL xs lo hi).map f := by
  unfold cutL
  rw [List.length_map, List.map_take, List.map_drop]
theorem cut_from {α : Type} (xs : List α) (k : Nat) : cutL xs (some (k : Int)) none = xs.drop k := by
  unfold cutL
  rw [HT.sIx_nat, HT.sIx_none]
  by_cases h : k ≤ xs.length
  · rw [Nat.min_eq_left h, List.take_of_length_le (by rw [List.length_drop]; exact Nat.le_refl _)]
  · rw [Nat.min_eq_right (by omega), List.drop_of_length_le (Nat.le_refl _), List.drop_of_length_le (by omega), List.take_nil]
theorem cut_to {α : Type} (xs : List α) (k : Nat) : cutL xs none (some (k : Int)) = xs.take k := by
  unfold cutL
  rw [HT.sIx_nat, HT.sIx_none, List.drop_zero, Nat.sub_zero]
  by_cases h : k ≤ xs.length
  · rw [Nat.min_eq_left h]
  · rw [Nat.min_eq_right (by omega), List.take_length, List.take_of_length_le (by omega)]
theorem atI_map {α β : Type} (f : α → β) (xs : List α) (i : Int) : atI (xs.map f) i = (atI xs i).map f := by
  unfold atI
  rw [List.length_map]
  cases ixN xs.length i with
  | none => rfl
  | some j => show (xs.map f)[j]? = _; rw [List.getElem?_map]; rfl
theorem atI_ge {α : Type} {xs : List α} {j : Nat} (h : j < xs.length) : atI xs (j : Int) = some xs[j] := atI_nat (List.getElem?_eq_getElem h)

/-! ### the source of the draws: [numbers, index, rest, size] -/
def srcO (nums : List Int) (i z w : Int) : MO := .lst [.d (.list (dI nums)), .d (.int i), .d (.int z), .d (.int w)]
def Src (M : Mem) (p : Addr) : Prop := ∃ nums i z w, M p = some (srcO nums i z w)
def Keeps (p : Addr) (M M' : Mem) : Prop := ∀ a, a ≠ p → M' a = M a
theorem Keeps.refl (p : Addr) (M : Mem) : Keeps p M M := fun _ _ => rfl
theorem Keeps.trans {p : Addr} {A B C : Mem} (h : Keeps p A B) (k : Keeps p B C) : Keeps p A C := fun a n => (k a n).trans (h a n)
theorem Keeps.upd {p : Addr} {M M' : Mem} (h : Keeps p M M') (o : MO) : Keeps p M (updM M' p o) := fun a n => by rw [updM_ne n]; exact h a n
/-- an owned cell made, changed and given up -/
theorem delM_upd {M : Mem} {q : Addr} {o : MO} (n : M q = none) : delM (updM M q o) q = M := by
  funext a
  unfold delM updM
  by_cases h : a = q
  · rw [if_pos h, h, n]
  · rw [if_neg h, if_neg h]
theorem delM_same {M : Mem} {q : Addr} : delM M q q = none := by unfold delM; rw [if_pos rfl]
theorem delM_ne {M : Mem} {a q : Addr} (h : a ≠ q) : delM M q a = M a := by unfold delM; rw [if_neg h]
/-- between two statements: what holds there (J) -/
theorem seq_cut {t u : TSD} {D : EndsD} {sl : Slots} {M : Mem} (J : Slots → Mem → Prop) (h1 : ∀ N : Slots → Mem → Prop, (∀ sl M, J sl M → N sl M) → t { D with nx := N } sl M) (h2 : ∀ sl M, J sl M → u D sl M) : dSeq t u D sl M := sq (h1 (u D) h2)
/-- a test in between: what holds where it says k (J) -/
theorem ifS_cut {t : TTD} {A B : TSD} {D : EndsD} {sl : Slots} {M : Mem} (J : Bool → Mem → Prop) (h1 : ∀ N : Bool → Mem → Prop, (∀ k M, J k M → N k M) → t sl M N) (h2 : ∀ M1, J true M1 → A D sl M1) (h3 : ∀ M1, J false M1 → B D sl M1) : dIfS t A B D sl M := by
  refine h1 _ fun k M1 j => ?_
  cases k with
  | true => exact h2 M1 j
  | false => exact h3 M1 j
/-- a value in between: what holds of it (J) -/
theorem e_cut {t : TD} {sl : Slots} {M : Mem} {R : KD} (J : KD) (h1 : ∀ N : KD, (∀ x M, J x M → N x M) → t sl M N) (h2 : ∀ x M, J x M → R x M) : t sl M R := h1 R h2
/-- a comprehension whose turns change nothing: f says what each item gives -/
theorem lc_pure {items : List DV} {g : TGD} {tt : TTD} {te : TD} {vs : List Nat} {sl : Slots} {M1 : Mem} {R : KD} (f : DV → Option PyData) (hl : items.length < 1000000)
    (step : ∀ x, x ∈ items → ∀ (M' : Mem) (Y : KD) (Z : Mem → Prop), (∀ y, f x = some y → Y (.d y) M') → (f x = none → Z M') → g x (wipeD sl vs) M' fun sl2 M2 => tt sl2 M2 fun k M3 => if k = true then te sl2 M3 Y else Z M3)
    (h : R (.d (.list (items.filterMap f))) M1) : ∀ p, M1 p = none → ∃ P : Nat → Mem → Prop, P 0 (updM M1 p (.lst [])) ∧
      (∀ i x M, items[i]? = some x → P i M → g x (wipeD sl vs) M fun sl2 M2 => tt sl2 M2 fun k M3 => if k = true then te sl2 M3 fun y M4 => getL M4 p (fun acc => acc.length < sizeLine ∧ P (i + 1) (updM M4 p (.lst (acc ++ [y])))) else P (i + 1) M3) ∧
      ∀ M, P items.length M → getL M p fun xs => optP (allD xs) fun ds => R (.d (.list ds)) (delM M p) := by
  intro p np
  refine ⟨fun i M' => M' = updM M1 p (.lst (((items.take i).filterMap f).map DV.d)), rfl, ?_, ?_⟩
  · rintro i x M' hx rfl
    have hm : x ∈ items := List.mem_of_getElem? hx
    have ht : items.take (i + 1) = items.take i ++ [x] := by rw [List.take_add_one, hx]; rfl
    refine step x hm _ _ _ (fun y hy => getL_of updM_same ⟨smallL ?_, ?_⟩) fun hn => ?_
    · rw [List.length_map]
      have h1 := List.length_filterMap_le f (items.take i)
      rw [List.length_take] at h1
      omega
    · show updM (updM M1 p _) p _ = updM M1 p _
      rw [updM_upd, ht, List.filterMap_append, List.map_append]
      have : ([x].filterMap f) = [y] := by simp [hy]
      rw [this]
      rfl
    · show updM M1 p _ = updM M1 p _
      rw [ht, List.filterMap_append]
      have : ([x].filterMap f) = [] := by simp [hn]
      rw [this, List.append_nil]
  · rintro M' rfl
    refine getL_of updM_same (optP_of (allD_of _) ?_)
    rw [List.take_length, delM_upd np]
    exact h
/-- the same, its list put into a name -/
theorem lc_set {items : List DV} {g : TGD} {tt : TTD} {te : TD} {vs : List Nat} {sl sl' : Slots} {i0 : Nat} {nx : Slots → Mem → Prop} {M1 : Mem} (f : DV → Option PyData) (hl : items.length < 1000000)
    (step : ∀ x, x ∈ items → ∀ (M' : Mem) (Y : KD) (Z : Mem → Prop), (∀ y, f x = some y → Y (.d y) M') → (f x = none → Z M') → g x (wipeD sl vs) M' fun sl2 M2 => tt sl2 M2 fun k M3 => if k = true then te sl2 M3 Y else Z M3)
    (h : nx (sl'.set i0 (some (.d (.list (items.filterMap f))))) M1) : ∀ p, M1 p = none → ∃ P : Nat → Mem → Prop, P 0 (updM M1 p (.lst [])) ∧
      (∀ i x M, items[i]? = some x → P i M → g x (wipeD sl vs) M fun sl2 M2 => tt sl2 M2 fun k M3 => if k = true then te sl2 M3 fun y M4 => getL M4 p (fun acc => acc.length < sizeLine ∧ P (i + 1) (updM M4 p (.lst (acc ++ [y])))) else P (i + 1) M3) ∧
      ∀ M, P items.length M → getL M p fun xs => optP (allD xs) fun ds => nx (sl'.set i0 (some (.d (.list ds)))) (delM M p) :=
  lc_pure (R := fun x M => nx (sl'.set i0 (some x)) M) f hl step h
/-! ### what repr writes of a tuple of ints -/
/-- its repr can be written -/
def OkShow (x : PyData) : Prop := x.showable = true ∧ x.depth ≤ 60 ∧ x.shown.length ≤ sizeLine ∧ (x.hasDict = true → lstFree x = true)
theorem shown_int {i : Int} (h : i.natAbs.log2 < 1920) : (PyData.shown (.int i)).length ≤ 1921 := by
  unfold PyData.shown
  show (Str.ofString (toString i)).length ≤ 1921
  rw [PySem.ofString_length]
  exact int_text_length_le (by decide) h
theorem log2_of {i : Int} (h0 : 0 ≤ i) (h : i < 2 ^ 1000) : i.natAbs.log2 < 1920 := by
  have h1 : i.natAbs < 2 ^ 1000 := by omega
  exact Nat.lt_of_lt_of_le (PySem.Flt.log2_lt_of (by decide) h1) (by decide)
theorem okShow_int {i : Int} (h : i.natAbs.log2 < 1920) : OkShow (.int i) := by
  refine ⟨by simpa [PyData.showable] using h, Nat.zero_le _, Nat.le_trans (shown_int h) (by decide), fun q => (by simp [PyData.hasDict] at q)⟩
theorem okShow_bool (b : Bool) : OkShow (.bool b) := by
  refine ⟨rfl, Nat.zero_le _, ?_, fun q => (by simp [PyData.hasDict] at q)⟩
  cases b <;> decide +kernel
theorem showableAll_ints : ∀ ns : List Int, (∀ x ∈ ns, x.natAbs.log2 < 1920) → PyData.showableAll (dI ns) = true
  | [], _ => rfl
  | n :: ns, h => by
    show PyData.showableAll (.int n :: dI ns) = true
    rw [PyData.showableAll, showableAll_ints ns fun x hx => h x (List.mem_cons_of_mem _ hx)]
    simp [PyData.showable, h n List.mem_cons_self]
theorem piled_ints : ∀ ns : List Int, (∀ x ∈ ns, x.natAbs.log2 < 1920) → piled (PyData.shownAll (dI ns)) ≤ 1923 * ns.length
  | [], _ => Nat.zero_le _
  | n :: ns, h => by
    show piled (PyData.shownAll (.int n :: dI ns)) ≤ _
    rw [PyData.shownAll, piled_cons, List.length_cons]
    have h1 := shown_int (h n List.mem_cons_self)
    have h2 := piled_ints ns fun x hx => h x (List.mem_cons_of_mem _ hx)
    omega
theorem okShow_ti {ns : List Int} (hl : ns.length ≤ 5000) (h : ∀ x ∈ ns, x.natAbs.log2 < 1920) : OkShow (.tuple (dI ns)) := by
  refine ⟨by unfold PyData.showable; exact showableAll_ints ns h, by rw [depth_ti]; decide, ?_, fun q => (by rw [noDict_plain _ (plain_tup (plain_ints ns))] at q; cases q)⟩
  unfold PyData.shown
  have h1 := fmt_text (PyData.shownAll (dI ns))
  have h2 := piled_ints ns h
  have hs : sizeLine = 16777216 := sizeLine_eq
  omega
end DL

/-! The data layer: isinstance, all, any, dicts written down. -/
namespace DL
open PySem PySem.Spec PyProof.Rows L2
section
variable {X : Cx} {x : Str} {pos : Pos} {a b c e : Expr} {ta tb te : TD}
/-- a built-in class by name -/
theorem de_tyN {T : String} (hg : Gl X x) (hm : X.mg x = none) (hv : bootBuiltins x = some (.type T)) (hn : x ≠ "__name__" := by decide) (hd : (x == ("__debug__" : Str)) = false := by decide) : DE X (.Name x pos) (dC (.raw (.ty T))) :=
  de_const (pe_bltn (v := .ty T) hg hm hv rfl hn hd) fun _ => rfl
def isaG (T : String) (f : PyData → Bool) : GC
  | [.d x, .raw (.ty S)], M, R => S = T ∧ R (.d (.bool (f x))) M
  | _, _, _ => False
theorem cd_isa {T : String} {f : PyData → Bool}
    (h : ∀ (s : Shared) (v : Value) (d : PyData) (as : List Addr) (Q : Value → Shared → Prop) (E : Value → Shared → Prop), Reads s.heap v d as → (∀ tk, s.toks ≤ tk → Q (.bool (f d)) { s with toks := tk }) → wpAny (model X.prog X.w) X.A (call (.builtin "isinstance") [v, .type T]) Q E s) :
    CallD X (.builtin "isinstance") (isaG T f) := by
  intro pins s σ H vs us Q I r hh
  obtain ⟨xs, M, R, hm, rv, hg, k⟩ := hh
  match xs, hg with
  | [.d x, .raw (.ty S)], ⟨hT, hz⟩ =>
    subst hT
    cases rv with
    | cons r1 r2 =>
      cases r2 with
      | cons r3 r4 =>
        cases r4
        cases r3
        cases r with
        | cons q1 q2 =>
          cases q2 with
          | cons q3 q4 =>
            cases q4
            cases q3
            obtain ⟨as, rd⟩ := RD.reads I r1 q1
            exact h s _ x as _ _ rd fun tk _ => ⟨.bl _, H, I.tok _, rfl, k (.d (.bool (f x))) M hz _ H (Le.refl _ _) hm (.bl _)⟩
theorem cd_isaInt : CallD X (.builtin "isinstance") (isaG "int" PyData.isInt) := cd_isa fun _ _ _ _ _ _ r q => PySem.W.isinstance_int_data r q
theorem cd_isaBool : CallD X (.builtin "isinstance") (isaG "bool" PyData.isBool) := cd_isa fun _ _ _ _ _ _ r q => PySem.W.isinstance_bool_data r q
theorem cd_isaStr : CallD X (.builtin "isinstance") (isaG "str" PyData.isStr) := cd_isa fun _ _ _ _ _ _ r q => PySem.W.isinstance_str_data r q
theorem cd_isaTuple : CallD X (.builtin "isinstance") (isaG "tuple" PyData.isTuple) := cd_isa fun _ _ _ _ _ _ r q => PySem.W.isinstance_tuple_data r q
theorem cd_isaList : CallD X (.builtin "isinstance") (isaG "list" PyData.isList) := cd_isa fun _ _ _ _ _ _ r q => PySem.W.isinstance_list_data r q
theorem cd_isaDict : CallD X (.builtin "isinstance") (isaG "dict" PyData.isDict) := cd_isa fun _ _ _ _ _ _ r q => PySem.W.isinstance_dict_data r q
/-! ### all, any of a list of bools -/
def boolsD : List PyData → Option (List Bool)
  | [] => some []
  | .bool i :: r => (boolsD r).map (i :: ·)
  | _ :: _ => none
theorem boolsD_map : ∀ {ds : List PyData} {ns : List Bool}, boolsD ds = some ns → ds = ns.map PyData.bool
  | [], ns, h => by cases h; rfl
  | .bool i :: r, ns, h => by
    unfold boolsD at h
    cases e : boolsD r with
    | none => rw [e] at h; cases h
    | some es => rw [e] at h; cases h; rw [boolsD_map e]; rfl
  | .none :: _, ns, h => by cases h
  | .int _ :: _, ns, h => by cases h
  | .str _ :: _, ns, h => by cases h
  | .list _ :: _, ns, h => by cases h
  | .tuple _ :: _, ns, h => by cases h
  | .dict _ :: _, ns, h => by cases h
theorem boolsD_of : ∀ bs : List Bool, boolsD (bs.map PyData.bool) = some bs
  | [] => rfl
  | b :: bs => by
    show (boolsD (bs.map PyData.bool)).map (b :: ·) = _
    rw [boolsD_of bs]
    rfl
theorem rds_bools {K : PySem.W.Frag} {H : Hp} : ∀ {vs : List V} {bs : List Bool}, RDs K H vs (bs.map PyData.bool) → vs = bs.map V.bl
  | vs, [], h => by cases h; rfl
  | vs, b :: bs, h => by
    rw [List.map_cons] at h
    cases h with
    | cons h t =>
      cases h
      rw [rds_bools t]
      rfl
def allG : GC
  | [.d (.list xs)], M, R => optP (boolsD xs) fun bs => R (.d (.bool (bs.all id))) M
  | _, _, _ => False
def anyG : GC
  | [.d (.list xs)], M, R => optP (boolsD xs) fun bs => R (.d (.bool (bs.any id))) M
  | _, _, _ => False
theorem cd_all (hc : X.calm = true) : CallD X (.builtin "all") allG := by
  intro pins s σ H vs us Q I r hh
  obtain ⟨xs, M, R, hm, rv, hg, k⟩ := hh
  match xs, hg with
  | [.d (.list xs)], hg =>
    cases rv with
    | cons r1 r2 =>
      cases r2
      cases r1 with
      | lst h1 r1 =>
        obtain ⟨bs, e, hg'⟩ := optP_elim hg
        have e' := boolsD_map e
        subst e'
        have ev := rds_bools r1
        subst ev
        exact cr_all hc pins s σ H _ us Q I r ⟨_, bs, rfl, SqL.of (hide_sub _ _ _ _ h1), kt_same k hm hg' (.bl _)⟩
theorem cd_any (hc : X.calm = true) : CallD X (.builtin "any") anyG := by
  intro pins s σ H vs us Q I r hh
  obtain ⟨xs, M, R, hm, rv, hg, k⟩ := hh
  match xs, hg with
  | [.d (.list xs)], hg =>
    cases rv with
    | cons r1 r2 =>
      cases r2
      cases r1 with
      | lst h1 r1 =>
        obtain ⟨bs, e, hg'⟩ := optP_elim hg
        have e' := boolsD_map e
        subst e'
        have ev := rds_bools r1
        subst ev
        exact cr_any hc pins s σ H _ us Q I r ⟨_, bs, rfl, SqL.of (hide_sub _ _ _ _ h1), kt_same k hm hg' (.bl _)⟩
/-! ### dicts written down -/
def dNew (x : PyData) : TD := fun _ M R => R (.d x) M
theorem de_dic0 : DE X (.Dict [] [] pos) (dNew (.dict [])) :=
  PE.imp pe_dnewK fun σ H Q ⟨sl, M, R, hs, hm, ht, k⟩ => fun p n => kt_new k hm n ht (.dct (new_at hm n) .nil)
theorem de_dic1 {ke ve : Expr} {key : Key} {v : V} {d : PyData} (hk : PE X ke (tC (kV key))) (hv : PE X ve (tC v)) (rd : ∀ H, RD X.K H v d) : DE X (.Dict [some ke] [ve] pos) (dNew (.dict [(keyD key, d)])) :=
  PE.imp (pe_disp (trs := [(tC (kV key), tC v)]) (pps_cons hk hv pps_nil) rfl rfl (by simp) (by show 1 ≤ 15; decide)) fun σ H Q ⟨sl, M, R, hs, hm, ht, k⟩ => fun p n => by
    refine ⟨upd_same, [(key, v)], rfl, by show 1 ≤ 15; decide, ?_⟩
    rw [upd_upd]
    have e : mergeK [] [(key, v)] = [(key, v)] := by
      show putK [] key v = _
      rfl
    rw [e]
    exact kt_new k hm n ht (.dct (new_at hm n) (.cons (rd _) .nil))
end
/-- what holds of the cell at q alone -/
structure At (q : Addr) (S : Mem → Prop) : Prop where
  loc : ∀ A B : Mem, B q = A q → S A → S B
  some : ∀ M, S M → M q ≠ none
theorem at_src (q : Addr) : At q (fun M => Src M q) := ⟨fun _ _ e ⟨a, b, c, d, h⟩ => ⟨a, b, c, d, e.trans h⟩, fun M ⟨_, _, _, _, h⟩ e => by rw [h] at e; cases e⟩
/-- a comprehension whose turns change the cell at q alone -/
theorem lc_at {items : List DV} {g : TGD} {tt : TTD} {te : TD} {vs : List Nat} {sl : Slots} {M1 : Mem} {R : KD} {q : Addr} {S : Mem → Prop} (a0 : At q S) (Yp : PyData → Prop) (hl : items.length < 1000000) (hS : S M1)
    (step : ∀ x, x ∈ items → ∀ (M' : Mem) (N : KD) (Z : Mem → Prop), S M' → (∀ y M2, Yp y → Keeps q M' M2 → S M2 → N (.d y) M2) → g x (wipeD sl vs) M' fun sl2 M2 => tt sl2 M2 fun k M3 => if k = true then te sl2 M3 N else Z M3)
    (h : ∀ ys M2, ys.length = items.length → (∀ y ∈ ys, Yp y) → Keeps q M1 M2 → S M2 → R (.d (.list ys)) M2) : ∀ p, M1 p = none → ∃ P : Nat → Mem → Prop, P 0 (updM M1 p (.lst [])) ∧
      (∀ i x M, items[i]? = some x → P i M → g x (wipeD sl vs) M fun sl2 M2 => tt sl2 M2 fun k M3 => if k = true then te sl2 M3 fun y M4 => getL M4 p (fun acc => acc.length < sizeLine ∧ P (i + 1) (updM M4 p (.lst (acc ++ [y])))) else P (i + 1) M3) ∧
      ∀ M, P items.length M → getL M p fun xs => optP (allD xs) fun ds => R (.d (.list ds)) (delM M p) := by
  intro p np
  have npq : q ≠ p := by
    intro e
    subst e
    exact a0.some _ hS np
  refine ⟨fun i M => ∃ ys : List PyData, ys.length = i ∧ (∀ y ∈ ys, Yp y) ∧ M p = some (.lst (ys.map DV.d)) ∧ (∀ a, a ≠ q → a ≠ p → M a = M1 a) ∧ S M, ⟨[], rfl, fun y hy => (by cases hy), updM_same, fun a _ ha => updM_ne ha, a0.loc _ _ (updM_ne npq) hS⟩, ?_, ?_⟩
  · rintro i x M hx ⟨ys, hi, hy, hp, hk, hs⟩
    refine step x (List.mem_of_getElem? hx) M _ _ hs fun y M2 yy k2 s2 => ?_
    have hp2 : M2 p = some (.lst (ys.map DV.d)) := (k2 p (fun e => npq e.symm)).trans hp
    have hlt : i < items.length := by
      obtain ⟨h, _⟩ := List.getElem?_eq_some_iff.mp hx
      exact h
    refine getL_of hp2 ⟨smallL (by rw [List.length_map]; omega), ys ++ [y], by rw [List.length_append, hi]; rfl, ?_, ?_, fun a h1 h2 => ?_, a0.loc _ _ (updM_ne npq) s2⟩
    · intro z hz
      rcases List.mem_append.mp hz with hz | hz
      · exact hy z hz
      · rw [List.mem_singleton.mp hz]
        exact yy
    · rw [updM_same, List.map_append]
      rfl
    · rw [updM_ne h2, k2 a h1]
      exact hk a h1 h2
  · rintro M ⟨ys, hi, hy, hp, hk, hs⟩
    refine getL_of hp (optP_of (allD_of _) (h ys _ hi hy (fun a ha => ?_) (a0.loc _ _ (delM_ne npq) hs)))
    by_cases e : a = p
    · subst e
      rw [delM_same, np]
    · rw [delM_ne e]
      exact hk a ha e
/-- the same, its list put into a name -/
theorem lc_atS {items : List DV} {g : TGD} {tt : TTD} {te : TD} {vs : List Nat} {sl sl' : Slots} {i0 : Nat} {nx : Slots → Mem → Prop} {M1 : Mem} {q : Addr} {S : Mem → Prop} (a0 : At q S) (Yp : PyData → Prop) (hl : items.length < 1000000) (hS : S M1)
    (step : ∀ x, x ∈ items → ∀ (M' : Mem) (N : KD) (Z : Mem → Prop), S M' → (∀ y M2, Yp y → Keeps q M' M2 → S M2 → N (.d y) M2) → g x (wipeD sl vs) M' fun sl2 M2 => tt sl2 M2 fun k M3 => if k = true then te sl2 M3 N else Z M3)
    (h : ∀ ys M2, ys.length = items.length → (∀ y ∈ ys, Yp y) → Keeps q M1 M2 → S M2 → nx (sl'.set i0 (some (.d (.list ys)))) M2) : ∀ p, M1 p = none → ∃ P : Nat → Mem → Prop, P 0 (updM M1 p (.lst [])) ∧
      (∀ i x M, items[i]? = some x → P i M → g x (wipeD sl vs) M fun sl2 M2 => tt sl2 M2 fun k M3 => if k = true then te sl2 M3 fun y M4 => getL M4 p (fun acc => acc.length < sizeLine ∧ P (i + 1) (updM M4 p (.lst (acc ++ [y])))) else P (i + 1) M3) ∧
      ∀ M, P items.length M → getL M p fun xs => optP (allD xs) fun ds => nx (sl'.set i0 (some (.d (.list ds)))) (delM M p) :=
  lc_at (R := fun x M => nx (sl'.set i0 (some x)) M) a0 Yp hl hS step h
/-- the same; what is said of an item knows its place -/
theorem lc_ati {items : List DV} {g : TGD} {tt : TTD} {te : TD} {vs : List Nat} {sl : Slots} {M1 : Mem} {R : KD} {q : Addr} {S : Mem → Prop} (a0 : At q S) (Yp : Nat → PyData → Prop) (hl : items.length < 1000000) (hS : S M1)
    (step : ∀ i x, items[i]? = some x → ∀ (M' : Mem) (N : KD) (Z : Mem → Prop), S M' → (∀ y M2, Yp i y → Keeps q M' M2 → S M2 → N (.d y) M2) → g x (wipeD sl vs) M' fun sl2 M2 => tt sl2 M2 fun k M3 => if k = true then te sl2 M3 N else Z M3)
    (h : ∀ ys M2, ys.length = items.length → (∀ i y, ys[i]? = some y → Yp i y) → Keeps q M1 M2 → S M2 → R (.d (.list ys)) M2) : ∀ p, M1 p = none → ∃ P : Nat → Mem → Prop, P 0 (updM M1 p (.lst [])) ∧
      (∀ i x M, items[i]? = some x → P i M → g x (wipeD sl vs) M fun sl2 M2 => tt sl2 M2 fun k M3 => if k = true then te sl2 M3 fun y M4 => getL M4 p (fun acc => acc.length < sizeLine ∧ P (i + 1) (updM M4 p (.lst (acc ++ [y])))) else P (i + 1) M3) ∧
      ∀ M, P items.length M → getL M p fun xs => optP (allD xs) fun ds => R (.d (.list ds)) (delM M p) := by
  intro p np
  have npq : q ≠ p := by
    intro e
    subst e
    exact a0.some _ hS np
  refine ⟨fun i M => ∃ ys : List PyData, ys.length = i ∧ (∀ j y, ys[j]? = some y → Yp j y) ∧ M p = some (.lst (ys.map DV.d)) ∧ (∀ a, a ≠ q → a ≠ p → M a = M1 a) ∧ S M, ⟨[], rfl, fun j y hy => (by cases hy), updM_same, fun a _ ha => updM_ne ha, a0.loc _ _ (updM_ne npq) hS⟩, ?_, ?_⟩
  · rintro i x M hx ⟨ys, hi, hy, hp, hk, hs⟩
    refine step i x hx M _ _ hs fun y M2 yy k2 s2 => ?_
    have hp2 : M2 p = some (.lst (ys.map DV.d)) := (k2 p (fun e => npq e.symm)).trans hp
    have hlt : i < items.length := by
      obtain ⟨h, _⟩ := List.getElem?_eq_some_iff.mp hx
      exact h
    refine getL_of hp2 ⟨smallL (by rw [List.length_map]; omega), ys ++ [y], by rw [List.length_append, hi]; rfl, ?_, ?_, fun a h1 h2 => ?_, a0.loc _ _ (updM_ne npq) s2⟩
    · intro j z hz
      by_cases e : j < ys.length
      · rw [List.getElem?_append_left e] at hz
        exact hy j z hz
      · rw [List.getElem?_append_right (by omega)] at hz
        by_cases e2 : j - ys.length = 0
        · rw [e2] at hz
          have hz : some y = some z := hz
          cases hz
          rw [show j = i by omega]
          exact yy
        · rw [List.getElem?_eq_none (by show 1 ≤ j - ys.length; omega)] at hz
          cases hz
    · rw [updM_same, List.map_append]
      rfl
    · rw [updM_ne h2, k2 a h1]
      exact hk a h1 h2
  · rintro M ⟨ys, hi, hy, hp, hk, hs⟩
    refine getL_of hp (optP_of (allD_of _) (h ys _ hi hy (fun a ha => ?_) (a0.loc _ _ (delM_ne npq) hs)))
    by_cases e : a = p
    · subst e
      rw [delM_same, np]
    · rw [delM_ne e]
      exact hk a ha e
/-! ### the second source: [numbers, place, rest] -/
def srcO2 (nums : List Int) (i z : Int) : MO := .lst [.d (.list (dI nums)), .d (.int i), .d (.int z)]
def Src2 (M : Mem) (p : Addr) : Prop := ∃ nums i z, nums.length ≤ 14 ∧ M p = some (srcO2 nums i z)
theorem at_src2 (q : Addr) : At q (fun M => Src2 M q) := ⟨fun _ _ e ⟨a, b, c, l, h⟩ => ⟨a, b, c, l, e.trans h⟩, fun M ⟨_, _, _, _, h⟩ e => by rw [h] at e; cases e⟩
end DL

/-! The data layer: a, *b = t; dict index, dict(pairs); sorted; % and // of any sign. -/
namespace DL
open PySem PySem.Spec PyProof.Rows L2
section
variable {prog : Program} {w : World} {A : Around} {E : Value → Shared → Prop} {s : Shared}
/-- a tuple's iterator from its k-th item on -/
theorem walks_tail (hh : A.handled = none) (I ax : Addr) (hne : ax ≠ I) (items : Array Value) (k : Nat) :
    WalksS prog w A I [I, ax] [I] (fun a b => a = b) (items.size - k) (fun i v => items[k + i]? = some v) (fun i s => IsTupIter s.heap I ax (k + i) ∧ IsTup s.heap ax items) where
  sub := fun b hb => by simp at hb; simp [hb]
  grefl := fun _ => rfl
  gtrans := fun _ _ _ h k => h.trans k
  frame := fun _ s h' tk st _ hk => by
    obtain ⟨⟨o, e, r⟩, o2, e2, r2⟩ := st
    exact ⟨⟨o, hk I (by simp) o e, r⟩, o2, hk ax (by simp) o2 e2, r2⟩
  item := fun i s Q E hi st hQ => by
    have hlt : k + i < items.size := by omega
    refine next_tuple_item st.1 st.2 (x := items[k + i]) (by simp [hlt]) fun h' hit hs => ?_
    exact hQ _ _ (by simp [hlt]) ⟨hit, st.2.extBut hs.extBut hne⟩ ⟨fun b o hb e => hs.extBut b o (fun q => hb (by simp [q])) e, rfl, rfl, rfl, Nat.le_refl _⟩
  done := fun s Q E st hQ => next_tuple_end hh st.1 st.2 (by simp; omega) fun h' he => hQ _ ⟨fun b o hb e => he b o (fun q => hb (by simp [q])) e, rfl, rfl, rfl, Nat.le_refl _⟩
  self := fun i s Q E st hQ => wpAny_pyIter_tupleiter st.1 hQ
theorem items_tail {items acc : Array Value} (h : ItemsOf (fun i v => items[1 + i]? = some v) acc (items.size - 1)) : acc.toList = items.toList.drop 1 := by
  obtain ⟨h1, h2⟩ := h
  apply List.ext_getElem?
  intro i
  rw [List.getElem?_drop, Array.getElem?_toList, Array.getElem?_toList]
  cases e : acc[i]? with
  | some v => exact (h2 i v e).symm
  | none =>
    have : acc.size ≤ i := by simpa using e
    symm
    simp
    omega
theorem unpackItems_star {t : Addr} {items : Array Value} {x : Value} {Q : List Value → Shared → Prop} (hh : A.handled = none) (ht : IsTup s.heap t items) (h0 : items[0]? = some x) (hz : items.size ≤ sizeLine)
    (hQ : ∀ (h' : Heap) (tk : Nat), (∀ b o, s.heap.get? b = some o → h'.get? b = some o) → Q [x, .ref h'.objs.size] { s with heap := h'.push { cls := .type "list", data := .seq (items.toList.drop 1).toArray }, toks := tk }) :
    wpAny (model prog w) A (unpackItems (.ref t) 2 (some 1)) Q E s := by
  have hlt : t ≠ s.heap.objs.size := by obtain ⟨o, ho, _⟩ := ht; exact Nat.ne_of_lt (Heap.lt_size ho)
  have hsz : 0 < items.size := by
    obtain ⟨h, _⟩ := Array.getElem?_eq_some_iff.mp h0
    exact h
  have hx : items[0] = x := by
    obtain ⟨h, e⟩ := Array.getElem?_eq_some_iff.mp h0
    exact e
  unfold unpackItems
  refine wpAny_bind ?_
  unfold notIterableAtAll
  refine wpAny_bind (wpAny_specialOf ht.typeIs slot_tuple_iter.lookup ?_)
  refine wpAny_pure ?_
  simp only [Bool.false_eq_true, if_false]
  refine wpAny_bind (wpAny_holding (iter_tuple ht ?_))
  refine wpAny_bind (wpAny_holding (draw_tuple hlt 1 0 _ _ ⟨_, Heap.get?_push_size _ rfl, rfl, rfl⟩ (ht.push _) (by omega) fun h₁ hit₁ hs₁ => ?_))
  have e1 : List.take 1 (List.drop 0 items.toList) = [x] := by
    rw [List.drop_zero]
    cases hq : items.toList with
    | nil => rw [← Array.length_toList, hq] at hsz; cases hsz
    | cons y r =>
      have : items[0]? = some y := by rw [← Array.getElem?_toList, hq]; rfl
      rw [h0] at this
      cases this
      rfl
  rw [e1]
  rw [if_neg (by simp)]
  have ht₁ : IsTup h₁ t items := (ht.push _).extBut hs₁.extBut hlt
  have keep : ∀ b o, s.heap.get? b = some o → h₁.get? b = some o := fun b o e => hs₁.extBut b o (Nat.ne_of_lt (Heap.lt_size e)) (Heap.get?_push_of_some _ e)
  have hi1 : s.heap.objs.size < h₁.objs.size := by
    obtain ⟨o, ho, _⟩ := hit₁
    exact Heap.lt_size ho
  refine wpAny_bind (wpAny_holding (wpAny_collect_iter (I := s.heap.objs.size) (T := "tuple_iterator") (.inr (.inr (.inr rfl))) (walks_tail (A := A.in1) hh s.heap.objs.size t hlt items 1) (fun i s st => ?_) ⟨hit₁, ht₁⟩ (fun b hb => ?_) (by simp) (fun s' acc mv ia => ?_) (by omega)))
  · obtain ⟨⟨o, e, c, _⟩, _⟩ := st
    exact ⟨o, e, c⟩
  · simp only [List.mem_cons, List.not_mem_nil, or_false] at hb
    rcases hb with rfl | rfl
    · exact hi1
    · obtain ⟨o, ho, _⟩ := ht₁
      exact Heap.lt_size ho
  · have ea := items_tail ia
    rw [ea]
    have el : (items.toList.drop 1).length = items.size - 1 := by rw [List.length_drop, Array.length_toList]
    rw [if_neg (by omega)]
    have es : s' = { s with heap := s'.heap, toks := s'.toks } := by
      obtain ⟨h, g, d, t, o⟩ := s'
      obtain ⟨m1, m2, m3, m4, m5⟩ := mv
      cases m2
      cases m3
      cases m4
      rfl
    have et : List.take ((items.toList.drop 1).length - (2 - 1 - 1)) (items.toList.drop 1) = items.toList.drop 1 := List.take_of_length_le (by omega)
    have ed : List.drop ((items.toList.drop 1).length - (2 - 1 - 1)) (items.toList.drop 1) = [] := List.drop_of_length_le (by omega)
    refine wpAny_bind (wpAny_newList ?_ (by rw [et, el]; omega))
    rw [et, ed, es]
    refine wpAny_pure (hQ s'.heap s'.toks fun b o e => ?_)
    exact mv.heap b o (by simp; exact Nat.ne_of_lt (Heap.lt_size e)) (keep b o e)
end
section
variable {X : Cx} {pos : Pos}
/-- a, *b = a tuple -/
def gStar (K : PySem.W.Frag) (t1 t2 : TG) : TG := fun v σ H Q => ∃ a x xs, v = .ref a ∧ SqT K H a (x :: xs) ∧ ∀ p, H p = none → t1 x σ (upd H p (.lst xs)) fun σ1 H1 => t2 (.ref p) σ1 H1 Q
theorem pg_star {e1 e2 : Expr} {p2 : Pos} {k : Nat} {t1 t2 : TG} (hc : X.calm = true) (h1 : PG X e1 t1) (h2 : PG X e2 t2) (he : assignEach [e1, .Starred e2 p2] X.env = [(false, assign e1 X.env), (true, assign e2 X.env)] := by rfl) :
    PG X (.Tuple [e1, .Starred e2 p2] k pos) (gStar X.K t1 t2) := by
  refine ⟨fun pins s σ H v u Q I r hw => ?_⟩
  obtain ⟨a, x, xs, e, hq, hw⟩ := hw
  subst e
  cases r
  obtain ⟨its, rv, ht, hz⟩ := I.tuple hq
  cases rv with
  | cons rx rxs =>
    rename_i u0 us
    rw [arm_assign_Tuple, he]
    refine wpAny_bind (wpAny_standAt ?_)
    unfold unpack
    refine wpAny_bind (wpAny_holding (unpackItems_star (x := u0) (I.ok.hd hc) ht rfl (by rw [List.size_toArray, List.length_cons, ← rxs.length]; simpa using hz) fun h' tk hk => ?_))
    have hg : s.heap.get? h'.objs.size = none := by
      cases e : s.heap.get? h'.objs.size with
      | none => rfl
      | some o => exact absurd (Heap.lt_size (hk _ _ e)) (Nat.lt_irrefl _)
    have hn : H h'.objs.size = none := I.hok.gone hg
    have J : Inv X pins σ (upd H h'.objs.size (.lst xs)) { s with heap := h'.push { cls := .type "list", data := .seq us.toArray }, toks := tk } :=
      I.laidN (t' := tk) (fun b o e => Heap.get?_push_of_some _ (hk b o e)) hg hn ⟨by simp only [List.length_cons] at hz; omega, us, 0, rxs, Heap.get?_push_size _ rfl⟩
    refine assignInOrder_cons (thn (h1.run pins _ σ _ _ _ _ J rx (hw _ hn)) fun _ s1 ⟨σ1, H1, I1, q1⟩ => ?_)
    refine assignInOrder_cons (thn (h2.run pins s1 σ1 H1 (.ref h'.objs.size) _ _ I1 rfl q1) fun _ s2 ⟨σ2, H2, I2, q2⟩ => ?_)
    exact assignInOrder_nil ⟨σ2, H2, I2, q2⟩
def dgStar (g1 g2 : TGD) : TGD := fun x sl M R => match x with
  | .d (.tuple (y :: ys)) => g1 (.d y) sl M fun sl1 M1 => g2 (.d (.list ys)) sl1 M1 R
  | _ => False
theorem dg_star {e1 e2 : Expr} {p2 : Pos} {k : Nat} {s1 s2 : List Nat} {g1 g2 : TGD} (hc : X.calm = true) (h1 : DG X e1 s1 g1) (h2 : DG X e2 s2 g2) (he : assignEach [e1, .Starred e2 p2] X.env = [(false, assign e1 X.env), (true, assign e2 X.env)] := by rfl) :
    DG X (.Tuple [e1, .Starred e2 p2] k pos) (s1 ++ s2) (dgStar g1 g2) :=
  PG.imp (pg_star hc h1 h2 he) fun v σ H Q ⟨x, sl, M, R, hs, hm, rv, hg, k⟩ => by
    unfold dgStar at hg
    split at hg
    · rename_i y ys
      cases rv with
      | tup q1 q2 =>
        cases q2 with
        | cons q2 q3 =>
          refine ⟨_, _, _, rfl, sqT_sub (hide_sub _ _) q1.t, fun p n => ?_⟩
          refine ⟨.d y, sl, M, _, hs.sub (le_new n), rep_new hm n, RD.sub (le_new n) q2, hg, fun sl' M' h σ' H' l m r len fr => ⟨.d (.list ys), sl', M', R, r, m, RD.sub l (rd_lstN hm n q3), h, fun sl2 M2 h2 σ2 H2 l2 m2 r2 len2 fr2 => k sl2 M2 h2 σ2 H2 ((le_new n).trans (l.trans l2)) m2 r2 (len2.trans len) fun j hj => ?_⟩⟩
          rw [fr2 j (fun z => hj (List.mem_append_right _ z)), fr j (fun z => hj (List.mem_append_left _ z))]
    · exact hg.elim
/-! ### dicts: index, in, dict(pairs) -/
def sameK : PyData → Key → Bool
  | .int i, .inl j => decide (i = j)
  | .str x, .inr y => decide (x = y)
  | _, _ => false
theorem sameK_key (k k' : Key) : sameK (keyD k) k' = decide (k = k') := by
  cases k with
  | inl i =>
    cases k' with
    | inl j => exact (decide_eq_decide.mpr ⟨fun h => by rw [h], fun h => Sum.inl.inj h⟩)
    | inr y => exact (decide_eq_false (by simp)).symm
  | inr x =>
    cases k' with
    | inl j => exact (decide_eq_false (by simp)).symm
    | inr y => exact (decide_eq_decide.mpr ⟨fun h => by rw [h], fun h => Sum.inr.inj h⟩)
def lookD (kds : List (PyData × PyData)) (k : Key) : Option PyData := (kds.find? fun p => sameK p.1 k).map (·.2)
theorem RKs.look {K : PySem.W.Frag} {H : Hp} {key : Key} : ∀ {kvs : List (Key × V)} {kds : List (PyData × PyData)}, RKs K H kvs kds → (∃ d v, lookD kds key = some d ∧ valV kvs key = some v ∧ RD K H v d) ∨ (lookD kds key = none ∧ valV kvs key = none)
  | _, _, .nil => .inr ⟨rfl, rfl⟩
  | _, _, .cons (k := k) h q => by
    by_cases e : k = key
    · refine .inl ⟨_, _, ?_, ?_, h⟩
      · unfold lookD
        rw [List.find?_cons_of_pos (by rw [sameK_key]; exact decide_eq_true e)]
        rfl
      · unfold valV
        rw [List.find?_cons_of_pos (by exact decide_eq_true e)]
        rfl
    · have e1 : ∀ {kds : List (PyData × PyData)} {d : PyData}, lookD ((keyD k, d) :: kds) key = lookD kds key := fun {kds d} => by
        unfold lookD
        rw [List.find?_cons_of_neg (by rw [sameK_key, decide_eq_false e]; exact Bool.false_ne_true)]
      have e2 : ∀ {kvs : List (Key × V)} {v : V}, valV ((k, v) :: kvs) key = valV kvs key := fun {kvs v} => by
        unfold valV
        rw [List.find?_cons_of_neg (by rw [decide_eq_false e]; exact Bool.false_ne_true)]
      rw [e1, e2]
      exact RKs.look q
def keyOf : PyData → Option Key
  | .int i => some (.inl i)
  | .str x => some (.inr x)
  | _ => none
theorem keyOf_rd {K : PySem.W.Frag} {H : Hp} {v : V} {d : PyData} {k : Key} (r : RD K H v d) (e : keyOf d = some k) : v = kV k := by
  cases r <;> cases e <;> rfl
/-- d[k] of a dict -/
def ixK : G2
  | .d (.dict kds), .d y, M, R => optP (keyOf y) fun k => optP (lookD kds k) fun v => R (.d v) M
  | _, _, _, _ => False
variable {a b : Expr} {ta tb : TD}
theorem de_ixK {k : Nat} (hr : Room k X.A) (ha : DE X a ta) (hb : DE X b tb) (hs : NoSl b := by exact fun _ _ => rfl) : DE X (.Subscript a b pos) (dOp ixK ta tb) :=
  PE.imp (pe_dget (by have := hr.units; omega) ha hb hs) fun σ H Q ⟨sl, M, R, hs, hm, ht, k⟩ => ⟨sl, M, _, hs, hm, ht, fun x M1 h1 v H1 l1 m1 r1 => ⟨sl, M1, _, hs.sub l1, m1, h1, fun y M2 h2 u H2 l2 m2 r2 => by
    unfold ixK at h2
    split at h2
    · obtain ⟨key, e1, h2⟩ := optP_elim h2
      obtain ⟨d, e2, h2⟩ := optP_elim h2
      have r1 := RD.sub l2 r1
      cases r1 with
      | dct q1 q2 =>
        rcases RKs.look (key := key) q2 with ⟨d', v', f1, f2, f3⟩ | ⟨f1, _⟩
        · rw [e2] at f1
          cases f1
          exact ⟨_, v', rfl, .inl ⟨_, key, .inl (hide_sub _ _ _ _ q1), keyOf_rd r2 e1, f2.symm⟩, k _ M2 h2 _ _ (l1.trans l2) m2 f3⟩
        · rw [e2] at f1
          cases f1
    · exact h2.elim⟩⟩
/-- k in d, k not in d -/
def inK (neg : Bool) : G2
  | .d y, .d (.dict kds), M, R => optP (keyOf y) fun k => R (.d (.bool (if neg then !(lookD kds k).isSome else (lookD kds k).isSome))) M
  | _, _, _, _ => False
/-- dict(pairs), keys apart -/
def pairsD : List PyData → Option (List (Key × PyData))
  | [] => some []
  | .tuple [x, d] :: r => match keyOf x, pairsD r with
    | some k, some q => some ((k, d) :: q)
    | _, _ => none
  | _ :: _ => none
def dictG : GC
  | [.d (.list ps)], M, R => optP (pairsD ps) fun kds => (kds.map (·.1)).Nodup ∧ R (.d (.dict (kds.map fun p => (keyD p.1, p.2)))) M
  | _, _, _ => False
theorem pairs_rd {K : PySem.W.Frag} {H H0 : Hp} (hsub : Sub H H0) : ∀ {ps : List PyData} {vs : List V} {kds : List (Key × PyData)}, RDs K H vs ps → pairsD ps = some kds →
    ∃ (as : List Addr) (kvs : List (Key × V)), vs = as.map V.ref ∧ Paired (fun p kv => SqT K H0 p [kV kv.1, kv.2]) as kvs ∧ kvs.map (·.1) = kds.map (·.1) ∧ RKs K H kvs (kds.map fun p => (keyD p.1, p.2))
  | [], vs, kds, h, e => by
    cases h
    cases e
    exact ⟨[], [], rfl, .nil, rfl, .nil⟩
  | p :: ps, vs, kds, h, e => by
    unfold pairsD at e
    split at e
    · rename_i e0
      cases e0
    · rename_i x d r e0
      cases e0
      split at e
      · rename_i k q ek eq
        cases e
        cases h with
        | cons h t =>
          obtain ⟨as, kvs, e1, e2, e3, e4⟩ := pairs_rd hsub t eq
          cases h with
          | tup q1 q2 =>
            cases q2 with
            | cons q2 q3 =>
              cases q3 with
              | cons q3 q4 =>
                cases q4
                have ex := keyOf_rd q2 ek
                subst ex
                exact ⟨_ :: as, (k, _) :: kvs, by rw [e1]; rfl, .cons (sqT_sub hsub q1.t) e2, by rw [List.map_cons, List.map_cons, e3], .cons q3 e4⟩
      · cases e
    · cases e
theorem putK_new {kvs : List (Key × V)} {k : Key} {v : V} (h : k ∉ kvs.map (·.1)) : putK kvs k v = kvs ++ [(k, v)] := by
  unfold putK
  rw [if_neg]
  intro hq
  obtain ⟨x, hx, e⟩ := List.any_eq_true.mp hq
  exact h (List.mem_map.mpr ⟨x, hx, of_decide_eq_true e⟩)
theorem mergeK_new : ∀ (more kvs : List (Key × V)), ((kvs ++ more).map (·.1)).Nodup → mergeK kvs more = kvs ++ more
  | [], kvs, _ => by rw [List.append_nil]; rfl
  | p :: r, kvs, h => by
    have h1 : p.1 ∉ kvs.map (·.1) := by
      rw [List.map_append, List.map_cons] at h
      intro hm
      exact (List.nodup_append.mp h).2.2 _ hm _ List.mem_cons_self rfl
    show mergeK (putK kvs p.1 p.2) r = _
    rw [putK_new h1, mergeK_new r (kvs ++ [(p.1, p.2)]) (by simpa using h), List.append_assoc]
    rfl
theorem cd_dict (hc : X.calm = true) : CallD X (.type "dict") dictG := by
  intro pins s σ H vs us Q I r hh
  obtain ⟨xs, M, R, hm, rv, hg, k⟩ := hh
  match xs, hg with
  | [.d (.list ps)], hg =>
    cases rv with
    | cons r1 r2 =>
      cases r2
      cases r1 with
      | lst h1 r1 =>
        obtain ⟨kds, e, hn, hg'⟩ := optP_elim hg
        obtain ⟨as, kvs, e1, e2, e3, e4⟩ := pairs_rd (hide_sub H M) r1 e
        subst e1
        refine call_dictP hc pins s σ H _ us Q I r ⟨_, as, kvs, rfl, SqL.of (hide_sub _ _ _ _ h1), e2, fun p n => ?_⟩
        have em : mergeK [] kvs = kvs := mergeK_new kvs [] (by rw [List.nil_append, e3]; exact hn)
        rw [em]
        exact kt_new k hm n hg' (.dct (new_at hm n) (RKs.sub (le_new n) e4))
/-! ### sorted(list of ints) -/
def sortedG : GC
  | [.d (.list xs)], M, R => optP (intsD xs) fun ns => ∀ ns' : List Int, ns'.Perm ns → ns'.Pairwise (· ≤ ·) → R (.d (.list (dI ns'))) M
  | _, _, _ => False
theorem cd_sorted : CallD X (.builtin "sorted") sortedG := by
  intro pins s σ H vs us Q I r hh
  obtain ⟨xs, M, R, hm, rv, hg, k⟩ := hh
  match xs, hg with
  | [.d (.list xs)], hg =>
    cases rv with
    | cons r1 r2 =>
      cases r2
      cases r1 with
      | lst h1 r1 =>
        obtain ⟨ns, e, hg'⟩ := optP_elim hg
        have e' := intsD_map e
        subst e'
        have ev := rds_ints r1
        subst ev
        exact cr_sortedI pins s σ H _ us Q I r ⟨_, ns, rfl, SqL.of (hide_sub _ _ _ _ h1), fun ns' p h2 h3 n => kt_new k hm n (hg' ns' h2 h3) (rd_lstN hm n (rds_of_ints ns'))⟩
/-! ### % and // by divisors of any sign -/
def CDivA (_ j : Int) : Prop := j ≠ 0 ∧ j.natAbs.log2 < 9000
theorem op_fdivA : OpR X (binaryOp .FloorDiv) (rI CDivA fun i j => .int (i.fdiv j)) := opI fun _ _ _ _ _ _ _ hc q => floordiv_int hc.1 q (.inl (PyProof.noPylong_of_log2 hc.2))
theorem od_fdivA : OpD X (binaryOp .FloorDiv) (g2 (intOpC CDivA Int.fdiv)) := od_intC op_fdivA
theorem od_modA : OpD X (binaryOp .Mod) (g2 (intOpC (fun _ j => j ≠ 0) Int.fmod)) := od_intC op_modN
end
/-- nothing is promised -/
theorem fnG_none {P : Program} {w : World} {K : PySem.W.Frag} {mg : Str → Option Value} {base : Heap} {CX : CXT} {k : Nat} {f : Addr} {fd : FuncData} {ps : List Str} {sp : Sp} (h : ∀ vs H Q E, ¬ sp vs H Q E) : FnG P w K mg base CX k f fd ps sp :=
  ⟨fun vs H Q E q => (h vs H Q E q).elim, fun _ _ _ H _ _ vs Q E _ _ _ _ _ q => (h vs H Q E q).elim⟩
end DL

/-! The data layer: errors kept as values. -/
namespace DL
open PySem PySem.Spec PyProof.Rows L2
section
variable {X : Cx} {pins : List (Addr × Obj)} {σ : L2.St} {H : Hp} {s : Shared} {a : Addr} {oe : Obj} {o : HO}
theorem excH_ok {P : Program} {w : World} {h : Heap} {cls : Value} {d : Option Addr} {vs : Array Value} (e : h.get? a = some oe) (z : Zc cls d oe) (dd : oe.data = .fields vs) : ObjOk P w H h a (excH cls d a) :=
  ⟨⟨oe, vs, e, z, dd⟩, ⟨oe, e⟩, fun h1 h2 ⟨oe, vs, e, r⟩ k => ⟨oe, vs, k oe e, r⟩⟩
/-- an object of ours that stands already is tracked from now on -/
theorem track (I : Inv X pins σ H s) (hn : H a = none) (n0 : X.s_0.heap.get? a = none) (nl : a ≠ X.env.locals) (nc : ∀ x c, X.env.cells.lookup x = some c → c ≠ a) (np : ∀ p ∈ X.pn ++ pins, p.1 ≠ a) (ok : ObjOk X.prog X.w (upd H a o) s.heap a o) :
    Inv X pins σ (upd H a o) s := by
  have z0 : ∀ {b : Addr} {u : Obj}, X.s_0.heap.get? b = some u → b ≠ a := fun {b u} e q => by subst q; rw [n0] at e; cases e
  have zs : ∀ {b : Addr} {u : HO}, H b = some u → b ≠ a := fun {b u} e q => by subst q; rw [hn] at e; cases e
  have up : ∀ {b : Addr}, b ≠ a → upd H a o b = H b := fun {b} q => upd_ne q
  refine ⟨I.ok, I.os, I.bare, ⟨I.base.keep, I.base.slot, fun b u e n q => ?_, I.base.there, fun b xs e => ?_, fun b u v e => ?_, fun b ps e => ?_⟩, I.loc, I.cell, ?_, fun x c e => ?_, fun p hp => ?_, fun b u e => ?_, I.len⟩
  · rw [up (z0 e)]; exact I.base.free b u e n q
  · have := I.base.tups b xs e
    rw [up (zs this)]; exact this
  · have := I.base.frzs b u v e
    rw [up (zs this)]; exact this
  · obtain ⟨m, q⟩ := I.base.tbls b ps e
    exact ⟨m, by rw [up (zs q)]; exact q⟩
  · rw [up (fun q => nl q.symm)]; exact I.free
  · rw [up (nc x c e)]; exact I.freeC x c e
  · obtain ⟨p1, p2, p3, p4, p5⟩ := I.pin p hp
    exact ⟨p1, by rw [up (np p hp)]; exact p2, p3, p4, p5⟩
  · by_cases hb : b = a
    · subst hb
      rw [upd_same] at e
      cases e
      exact ok
    · rw [up hb] at e
      exact (I.hok b u e).stay (fun _ _ _ q => q) (fun c q => by rw [up (zs q)]; exact q) fun c xs q => by rw [up (zs q)]; exact q
/-- what 'except x as n: m = n' wishes of an error of the body, one that x takes: n's slot is i, m's is j; the error is kept in m, tracked -/
def wKeep (K : PySem.W.Frag) (c : Value) (i j : Nat) (D : Ends) : WX := fun cls d σ H =>
  PySem.W.exmOne K cls c = some true ∧ ∀ a, H a = none → D.nx (((σ.set i (some (.ref a))).set j (some (.ref a))).set i none) (upd H a (excH cls d a))
theorem keepPin {pn' : List (Addr × Obj)} {q : Addr × Obj} (S : Inv (X.suite a (q :: (X.pn ++ pins))) pn' σ H s) (ok : X.Ok) : Inv X (q :: pins) σ H s :=
  ⟨ok, S.os, S.bare, S.base, S.loc, S.cell, S.free, S.freeC, fun p hp => S.pin p (by
    rcases List.mem_append.mp hp with z | z
    · exact List.mem_append_left _ (List.mem_cons_of_mem _ (List.mem_append_left _ z))
    · rcases List.mem_cons.mp z with z | z
      · rw [z]; exact List.mem_append_left _ List.mem_cons_self
      · exact List.mem_append_left _ (List.mem_cons_of_mem _ (List.mem_append_right _ z))), S.hok, S.len⟩
theorem dropPin {q : Addr × Obj} (I : Inv X (q :: pins) σ H s) : Inv X pins σ H s :=
  ⟨I.ok, I.os, I.bare, I.base, I.loc, I.cell, I.free, I.freeC, fun p hp => I.pin p (by
    rcases List.mem_append.mp hp with z | z
    · exact List.mem_append_left _ z
    · exact List.mem_append_right _ (List.mem_cons_of_mem _ z)), I.hok, I.len⟩
/-- the end of such a suite: the name goes, the error's object is tracked -/
theorem keep_end {M : Model} {A : Around} {E : Value → Shared → Prop} {i : Nat} {n : Str} {pos : Pos} {cls : Value} {d : Option Addr} {vs : Array Value} {Q : Shared → Prop} (J : Inv X ((a, oe) :: pins) σ H s) (n0 : X.s_0.heap.get? a = none) (hz : Zc cls d oe) (hd : oe.data = .fields vs) (nP : ∀ p ∈ X.pn ++ pins, p.1 ≠ a)
    (nC : ∀ x c, X.env.cells.lookup x = some c → c ≠ a) (hN : X.N.Nodup) (hi : X.N[i]? = some n) (hl : X.env.kindOf n = some .local) (h : ∀ s', Inv X pins (σ.set i none) (upd H a (excH cls d a)) s' → Q s') :
    wpAny M A (do bindName X.env n .none; unbindBehindTheSuite X.env n pos) (fun _ s' => Q s') E s :=
  gone_ok J hN hi hl fun s' J' => by
    obtain ⟨e1, e2, e3, _⟩ := J'.pin (a, oe) (List.mem_append_right _ List.mem_cons_self)
    exact h s' (track (dropPin J') e2 n0 e3 nC nP (excH_ok e1 hz hd))
/-- an error in the air stands at an address that nothing else of ours has -/
theorem air_apart {B : Heap} {l : List Env} {h : Heap} {Z : Obj → Prop} (I : Inv X pins σ H s) (nb : ∀ b o, s.heap.get? b = some o → b ∉ frs X.stack → B.get? b = some o) (fl : HandSPX.FlyingZ B X.stack a Z h) :
    a ∉ frs X.stack ∧ s.heap.get? a = none := by
  obtain ⟨_, k2, k3, oe, vs, _, _, _, he, _, hd, _⟩ := fl
  have nf : a ∉ frs X.stack := fun hm => by
    obtain ⟨_, o', e', hnf⟩ := k3.mem hm
    rw [he] at e'
    cases e'
    exact hnf _ hd
  refine ⟨nf, ?_⟩
  cases e : s.heap.get? a with
  | none => rfl
  | some o =>
    have := nb a o e nf
    rw [k2] at this
    cases this
theorem apart_all (I : Inv X pins σ H s) (hex : X.ex = []) (na : s.heap.get? a = none) : X.s_0.heap.get? a = none ∧ (∀ p ∈ X.pn ++ pins, p.1 ≠ a) ∧ (∀ x c, X.env.cells.lookup x = some c → c ≠ a) ∧ a ≠ X.env.locals := by
  refine ⟨?_, fun p hp q => ?_, fun x c e q => ?_, fun q => ?_⟩
  · cases e : X.s_0.heap.get? a with
    | none => rfl
    | some o =>
      obtain ⟨o', e'⟩ := I.base.there a o e (by rw [hex]; exact List.not_mem_nil)
      rw [na] at e'
      cases e'
  · have := (I.pin p hp).1
    rw [q, na] at this
    cases this
  · obtain ⟨v, o, e', _⟩ := I.cell x c e
    rw [q, na] at e'
    cases e'
  · obtain ⟨m, ⟨o, es, ep, ho, _⟩, _⟩ := I.loc
    rw [← q, na] at ho
    cases ho
variable {x n m : Str} {c : Value} {i j : Nat} {body : List Stmt} {np mp np2 ap pos pos' : Pos} {tb : WX → TS}
theorem ps_keep (hs : X.stack = X.env :: X.outer) (hf : X.env.frame = some X.env.locals) (hex : X.ex = []) (hN : X.N.Nodup) (hi : X.N[i]? = some n) (hj : X.N[j]? = some m) (hln : X.env.kindOf n = some .local) (hlm : X.env.kindOf m = some .local) (hc : Names X x c)
    (hb : ∀ (W : WX) (pn : List (Addr × Obj)) (xe : Value → Shared → Prop), Takes (X.tr pn xe) W → PassesOwn (model X.prog X.w) X.A X.env xe → PSs (X.tr pn xe) body (tb W))
    (hsu : ∀ (a : Addr) (oe : Obj) (pn : List (Addr × Obj)), PSs (X.suite a ((a, oe) :: pn)) [.Assign [.Name m mp] (.Name n np2) ap] (fun D σ H => ∃ v, σ[i]? = some (some v) ∧ D.nx (σ.set j (some v)) H)) :
    PS X (.Try body [.ExceptHandler (some (.Name x np)) (some n) [.Assign [.Name m mp] (.Name n np2) ap] pos'] [] [] pos) (fun D σ H => tb (wKeep X.K c i j D) D σ H) := by
  refine ⟨fun pins s σ H D I h => ?_⟩
  have ok := I.ok
  have fr2 : X.A.frames = some (X.env :: X.outer) := ok.frames.trans (congrArg some hs)
  refine wpAny_Try_except ?_
  refine wpAny_mono ((hb (wKeep X.K c i j D) (X.pn ++ pins) (fun e s₁ => wpAny (model X.prog X.w) X.A (noteFrame e X.env) (fun _ s₂ => wpAny (model X.prog X.w) X.A (setFlight e none) (fun _ s₃ =>
      wpAny (model X.prog X.w) X.A (handleBy e X.env [.ExceptHandler (some (.Name x np)) (some n) [.Assign [.Name m mp] (.Name n np2) ap] pos']) (SP X pins D) X.xe s₃) X.xe s₂) X.xe s₁) (fun u s' air => ?_) PassesOwn.looking).run [] s σ H D (I.toTry _) h) (fun f s1 q => ?_) (fun _ _ q => q)
  · obtain ⟨a, B, sI, pinsI, σ', H', cls, d, rfl, J0, nb, up, sky, na, os, ag, eb, yes⟩ := air
    have J : Inv X pins σ' H' sI := J0.ofTry ok
    have sky2 : Sky B (X.env :: X.outer) a (Zc cls d) X.env.locals s'.heap := hs ▸ sky
    refine Sky.land (A := X.A) Zc.steady fr2 hf sky2 fun h3 fl3 up3 => ?_
    obtain ⟨nfr, nI⟩ := air_apart (l := []) J nb (show HandSPX.FlyingZ B X.stack a (Zc cls d) h3 by rw [hs]; exact fl3)
    obtain ⟨n0, nP, nC, nL⟩ := apart_all J hex nI
    have nF : a ∉ X.fs := fun hm => by
      obtain ⟨e, he, q⟩ := List.mem_filterMap.mp hm
      exact nfr (by rw [hs]; exact List.mem_filterMap.mpr ⟨e, List.mem_cons_of_mem _ he, q⟩)
    have J3 : Inv X pins σ' H' { s' with heap := h3 } := J.landed nb fl3.1 (up.trans up3) os ag
    obtain ⟨o3, v3, g3, z3, d3⟩ := fl3.there
    have S3 := J3.suite g3 d3 na nL nF
    refine wpAny_handleBy_cons (codeAny_handlers_test ?_) (by intro q; cases q)
    have kind : PySem.W.Looks (model X.prog X.w) h3 (typeOf (.ref a)) cls := fun A Q E s k q => wpAny_typeOf_ref (k _ _ g3) (by rw [z3.1]; exact q)
    have says := PySem.W.exm_one (M := model X.prog X.w) (J3.kIn) kind eb
    have named : ∀ {Q : Value → Shared → Prop} {E : Value → Shared → Prop}, Q c { s' with heap := h3 } → wpAny (model X.prog X.w) (X.A.mark (some (.ref a))) (eval (.Name x np) X.env) Q E { s' with heap := h3 } := fun {Q E} q => by
      rcases hc with ⟨c1, c2, c3 | ⟨c3, c4, c5⟩⟩
      · exact ld_glob (X := X.suite a ((a, o3) :: (X.pn ++ pins))) S3 c1 c3 q c2
      · exact ld_blt (X := X.suite a ((a, o3) :: (X.pn ++ pins))) S3 c1 c3 c4 q c5 c2
    refine named (says.here ?_)
    refine codeAny_handlers_suite_as (HandSPX.lands_againZ fl3 fun h4 fl4 up4 => ?_)
    obtain ⟨o4, v4, g4, z4, d4⟩ := fl4.there
    have S4 := (J.landed (s' := { s' with heap := h4 }) nb fl4.1 ((up.trans up3).trans up4) os ag).suite g4 d4 na nL nF
    refine store_ok (X := X.suite a ((a, o4) :: (X.pn ++ pins))) (v := .ref a) S4 hN hi (.inl hln) rfl (fun s5 S5 => ?_) (.inr hln)
    have hlt : i < σ'.length := by rw [J.len]; exact (List.getElem?_eq_some_iff.mp hi).1
    refine wpAny_mono ((hsu a o4 (X.pn ++ pins)).run [] s5 _ H' { nx := fun σ6 H6 => σ6 = (σ'.set i (some (.ref a))).set j (some (.ref a)) ∧ H6 = H', rt := fun _ _ => False } S5 ⟨.ref a, List.getElem?_set_self hlt, rfl, rfl⟩) (fun f s6 q => ?_) (fun _ _ z => False.elim z)
    cases f with
    | next =>
      obtain ⟨σ6, H6, S6, e1, e2⟩ := q
      subst e1 e2
      exact keep_end (keepPin S6 ok) n0 z4 d4 nP nC hN hi hln fun s7 J7 => ⟨_, _, J7, yes a na⟩
    | brk => obtain ⟨_, _, _, q⟩ := q; exact q.elim
    | cont => obtain ⟨_, _, _, q⟩ := q; exact q.elim
    | ret u => obtain ⟨_, _, _, _, _, q⟩ := q; exact q.elim
  · cases f with
    | next => obtain ⟨σ1, H1, J1, q1⟩ := q; exact wpAny_execs_nil ⟨σ1, H1, J1.ofTry ok, q1⟩
    | brk => obtain ⟨σ1, H1, J1, q1⟩ := q; exact ⟨σ1, H1, J1.ofTry ok, q1⟩
    | cont => obtain ⟨σ1, H1, J1, q1⟩ := q; exact ⟨σ1, H1, J1.ofTry ok, q1⟩
    | ret u => obtain ⟨v, σ1, H1, J1, r1, q1⟩ := q; exact ⟨v, σ1, H1, J1.ofTry ok, r1, q1⟩
end
end DL

/-! The data layer: zip of lists and tuples. -/
namespace DL
open PySem PySem.Spec PyProof.Rows L2
/-- a list (false) or a tuple (true) -/
def SqK (K : PySem.W.Frag) (H : Hp) : Bool → Addr → List V → Prop
  | true => SqT K H
  | false => SqL K H
def itObj : Bool → Addr → Obj
  | true, a => { cls := .type "tuple_iterator", data := .fields #[.ref a, .int 0 0] }
  | false, a => { cls := .type "list_iterator", data := .fields #[.ref a, .int 0 0] }
def ItAt : Bool → Heap → Addr → Addr → Nat → Prop
  | true, h, it, a, i => h.IsTupleIter it a i
  | false, h, it, a, i => h.IsListIter it a i
def SeqA : Bool → Heap → Addr → Array Value → Prop
  | true, h, a, its => h.IsTuple a its
  | false, h, a, its => h.IsList a its
theorem draws_k {P : Program} {w : World} {A : Around} (t : Bool) (hh : A.handled = none) (it a : Addr) (hne : a ≠ it) (its : Array Value) : Draws P w A it [it, a] its.size (fun i v => its[i]? = some v) (fun i h => ItAt t h it a i ∧ SeqA t h a its) := by
  cases t
  · exact .list hh it a hne its
  · exact .tuple hh it a hne its
theorem begins_k (t : Bool) (a : Addr) (its : Array Value) : Begins (.ref a) (itObj t a) (fun h => SeqA t h a its) := by
  cases t
  · exact begins_list a its
  · exact begins_tuple a its
theorem itAt_new {t : Bool} {h : Heap} {it a : Addr} (e : h.get? it = some (itObj t a)) : ItAt t h it a 0 := by
  cases t <;> exact ⟨_, e, rfl, rfl⟩
theorem ItAt.at {t : Bool} {h h' : Heap} {it a : Addr} {i : Nat} (x : ItAt t h it a i) (k : ∀ o, h.get? it = some o → h'.get? it = some o) : ItAt t h' it a i := by
  cases t
  · exact Heap.IsListIter.at x k
  · exact Heap.IsTupleIter.at x k
theorem ItAt.obj {t : Bool} {h : Heap} {it a : Addr} {i : Nat} (x : ItAt t h it a i) : ∃ o, h.get? it = some o ∧ ∀ v, o.data ≠ .cell v := by
  cases t
  · obtain ⟨o, e, _, d⟩ := x
    exact ⟨o, e, fun v q => by rw [d] at q; cases q⟩
  · obtain ⟨o, e, _, d⟩ := x
    exact ⟨o, e, fun v q => by rw [d] at q; cases q⟩
section
variable {X : Cx} {pins : List (Addr × Obj)} {σ : L2.St} {H : Hp} {s : Shared} {a : Addr} {xs ys : List V} {t : Bool}
theorem inv_seq (I : Inv X pins σ H s) (h : SqK X.K H t a xs) : ∃ its : List Value, Vals xs its ∧ SeqA t s.heap a its.toArray ∧ xs.length ≤ sizeLine ∧ a < s.heap.objs.size := by
  cases t
  · obtain ⟨its, r, p, z⟩ := I.list h
    exact ⟨its, r, p.isList, z, p.lt⟩
  · obtain ⟨its, r, p, z⟩ := I.tuple h
    obtain ⟨o, e, _⟩ := id p
    exact ⟨its, r, p, z, Heap.lt_size e⟩
theorem seq_inj (I : Inv X pins σ H s) (h : SqK X.K H t a xs) (h' : SqK X.K H t a ys) : xs = ys := by
  cases t
  · exact I.list_inj h h'
  · exact I.tuple_inj h h'
end
/-- two of them, side by side, each pair new -/
def Itzk (K : PySem.W.Frag) (t u : Bool) (a b : Addr) : It :=
  ⟨fun i H => ∃ (xs ys : List V) (x y : V), SqK K H t a xs ∧ SqK K H u b ys ∧ xs[i]? = some x ∧ ys[i]? = some y,
   fun i H v H' => ∃ T x y, v = .ref T ∧ H T = none ∧ H' = upd H T (.tup [x, y]) ∧ (∀ xs, SqK K H t a xs → xs[i]? = some x) ∧ ∀ ys, SqK K H u b ys → ys[i]? = some y,
   fun i H => ∃ xs ys : List V, SqK K H t a xs ∧ SqK K H u b ys ∧ min xs.length ys.length = i⟩
theorem turn_zipk {P : Program} {w : World} {K : PySem.W.Frag} {elts : List Expr} {kk : Nat} {tpos : Pos} (t u : Bool) {a b z TI TO i1 i2 : Addr} (S : ZipSep2 z TI TO i1 i2 [i1, a] [i2, b]) (n1 : a ≠ i1) (n2 : b ≠ i2) :
    Turn P w K (.Tuple elts kk tpos) (Itzk K t u a b) [z, TI, TO, i1, i2] z (fun i h => IsZip h z TI TO .none ∧ IsTupOf2 h TI (.ref i1) (.ref i2) ∧ (∃ a1 a2, IsTupOf2 h TO a1 a2) ∧ ItAt t h i1 a i ∧ ItAt u h i2 b i) where
  mem := by simp
  obj := fun i h st c hc => by
    obtain ⟨hz, hTI, ⟨a1, a2, hTO⟩, h1, h2⟩ := st
    simp only [List.mem_cons, List.not_mem_nil, or_false] at hc
    rcases hc with q | q | q | q | q <;> subst q
    · exact ⟨_, hz, fun v q => nomatch q⟩
    · exact ⟨_, hTI, fun v q => nomatch q⟩
    · exact ⟨_, hTO, fun v q => nomatch q⟩
    · exact h1.obj
    · exact h2.obj
  keep := fun i h h' st k => by
    obtain ⟨hz, hTI, ⟨a1, a2, hTO⟩, h1, h2⟩ := st
    exact ⟨k z (by simp) _ hz, k TI (by simp) _ hTI, ⟨a1, a2, k TO (by simp) _ hTO⟩, h1.at fun o q => k i1 (by simp) o q, h2.at fun o q => k i2 (by simp) o q⟩
  item := by
    intro X hP hw hK hc i pins s σ H E I hf st hg
    subst hP hw hK
    obtain ⟨hz, hTI, hTO, h1, h2⟩ := st
    obtain ⟨xs, ys, x, y, hq1, hq2, hx, hy⟩ := hg
    obtain ⟨its, rv, p1, _⟩ := inv_seq I hq1
    obtain ⟨jts, rw', p2, _⟩ := inv_seq I hq2
    obtain ⟨v1, hv1, r1⟩ := rv.get hx
    obtain ⟨v2, hv2, r2⟩ := rw'.get hy
    have l1 : i < its.length := (List.getElem?_eq_some_iff.mp hv1).1
    have l2 : i < jts.length := (List.getElem?_eq_some_iff.mp hv2).1
    have hol := I.ok.hd hc
    have hTO' := hTO
    obtain ⟨_, _, hTOo⟩ := hTO'
    have lt : ∀ c ∈ [z, TI, TO, i1, i2], c < s.heap.objs.size := fun c hcm => by
      simp only [List.mem_cons, List.not_mem_nil, or_false] at hcm
      rcases hcm with q | q | q | q | q <;> subst q
      · exact Heap.lt_size hz
      · exact Heap.lt_size hTI
      · exact Heap.lt_size hTOo
      · obtain ⟨o, e, _⟩ := h1.obj; exact Heap.lt_size e
      · obtain ⟨o, e, _⟩ := h2.obj; exact Heap.lt_size e
    refine wpAny_mono ((GoesN.zip2 S (draws_k (A := X.A.in1) t hol i1 a n1 its.toArray) (draws_k (A := X.A.in1) u hol i2 b n2 jts.toArray)).goes i s (fun v s2 => ∃ x' H', Inv X pins σ H' s2 ∧ RelV x' v ∧ (Itzk X.K t u a b).yld i H x' H' ∧ (IsZip s2.heap z TI TO .none ∧ IsTupOf2 s2.heap TI (.ref i1) (.ref i2) ∧ (∃ a1 a2, IsTupOf2 s2.heap TO a1 a2) ∧ ItAt t s2.heap i1 a (i + 1) ∧ ItAt u s2.heap i2 b (i + 1)) ∧ ∀ b ∈ [z, TI, TO, i1, i2], H' b = none) E (by simp only [List.size_toArray]; omega) ⟨hz, hTI, hTO, ⟨h1, p1⟩, ⟨h2, p2⟩⟩ ?_) (fun r s1 q => q) (fun _ _ q => q)
    intro v h' tk hY st' hk htk
    obtain ⟨T, w1, w2, rfl, hT, e1, e2, hp⟩ := hY
    have e1' : w1 = v1 := by
      have q : its.toArray[i]? = some v1 := by simpa using hv1
      exact Option.some.inj (e1.symm.trans q)
    have e2' : w2 = v2 := by
      have q : jts.toArray[i]? = some v2 := by simpa using hv2
      exact Option.some.inj (e2.symm.trans q)
    subst e1' e2'
    have new : ObjOk X.prog X.w (upd H T (.tup [x, y])) h' T (.tup [x, y]) := ⟨by show 2 ≤ sizeLine; decide, [w1, w2], .cons r1 (.cons r2 .nil), hp⟩
    obtain ⟨g1, g2, g3, ⟨g4, _⟩, ⟨g5, _⟩⟩ := st'
    refine ⟨.ref T, _, I.turnedNew (t' := tk) (ch := [z, TI, TO, i1, i2]) (fun c o hb q => hk c o (fun hm => hb (by simp at hm ⊢; rcases hm with q | q | q | q <;> simp [q])) q) hf hT new, rfl, ⟨T, x, y, rfl, I.hok.fresh hT, rfl, fun l hl => ?_, fun l hl => ?_⟩, ⟨g1, g2, g3, g4, g5⟩, fun c hcm => ?_⟩
    · rw [seq_inj I hl hq1]; exact hx
    · rw [seq_inj I hl hq2]; exact hy
    · rw [upd_ne (Nat.ne_of_lt (Nat.lt_of_lt_of_le (lt c hcm) hT))]
      exact (hf c hcm).1
  done := by
    intro X hP hw hK hc i pins s σ H E I hf st hg
    subst hP hw hK
    obtain ⟨hz, hTI, hTO, h1, h2⟩ := st
    obtain ⟨xs, ys, hq1, hq2, hend⟩ := hg
    obtain ⟨its, rv, p1, _⟩ := inv_seq I hq1
    obtain ⟨jts, rw', p2, _⟩ := inv_seq I hq2
    have hl1 := rv.length
    have hl2 := rw'.length
    have hol := I.ok.hd hc
    have em : i = min its.toArray.size jts.toArray.size := by simp only [List.size_toArray]; omega
    refine wpAny_mono ((GoesN.zip2 (elts := elts) (x1 := kk) (pos := tpos) S (draws_k (A := X.A.in1) t hol i1 a n1 its.toArray) (draws_k (A := X.A.in1) u hol i2 b n2 jts.toArray)).stops s (fun s1 => Inv X pins σ H s1) E (em ▸ ⟨hz, hTI, hTO, ⟨h1, p1⟩, ⟨h2, p2⟩⟩) ?_) (fun r s1 q => q) (fun _ _ q => q)
    intro h' tk hk _
    exact I.turnedL (t' := tk) (ch := [z, TI, TO, i1, i2]) (fun c o hb q => hk c o (fun hm => hb (by simp at hm ⊢; rcases hm with q | q | q | q <;> simp [q])) q) hf
  self := fun A i s Q E st h => wpAny_pyIter_zip st.1 h
def iZipk (K : PySem.W.Frag) (ta : TA) : TI := fun σ H R => ta σ H fun vs H1 => ∃ t u a b xs ys, vs = [.ref a, .ref b] ∧ SqK K H1 t a xs ∧ SqK K H1 u b ys ∧ R (Itzk K t u a b) H1
theorem pi_zipk {X : Cx} {e e2 : Expr} {ta : TA} {p pos tpos : Pos} {elts : List Expr} {kk : Nat} (hg : Gl X "zip") (hm : X.mg "zip" = none) (ha : PA X [e, e2] ta)
    (hs : starEach [e, e2] X.env = (false, eval e X.env) :: starEach [e2] X.env := by rfl) (hpl : (backTo pos (starEach [e2] X.env)).any (·.1) = false := by rfl) :
    PI X (.Tuple elts kk tpos) (.Call (.Name "zip" p) [e, e2] [] pos) (iZipk X.K ta) := by
  refine ⟨fun pins s σ H R I h => ?_⟩
  refine Call_ (ld_blt I hg hm boot_zip (callWith_type1 (thn (ha.run pos pins s σ H _ I h) ?_) hs hpl))
  intro us s1 hh
  obtain ⟨vs, H1, I1, r1, t, u, a, b, xs, ys, rfl, hq1, hq2, q⟩ := hh
  cases r1 with
  | cons ra rr =>
    cases rr with
    | cons rb rr =>
      cases rr
      cases ra
      cases rb
      obtain ⟨its, rv, p1, _, la⟩ := inv_seq I1 hq1
      obtain ⟨jts, rw', p2, _, lb⟩ := inv_seq I1 hq2
      refine zip_begins2 (begins_k t a its.toArray) (begins_k u b jts.toArray) p1 p2 fun h' hz hTI hTO h1 h2 hsz hk => wpAny_pyIter_zip hz ?_
      have sep := zip_sep2 (N := s1.heap.objs.size) (fp1 := [a]) (fp2 := [b]) (fun c hc => by simp at hc; rw [hc]; exact la) (fun c hc => by simp at hc; rw [hc]; exact lb)
      refine ⟨_, [s1.heap.objs.size + 4, s1.heap.objs.size + 2, s1.heap.objs.size + 3, s1.heap.objs.size, s1.heap.objs.size + 1], _, _, H1, rfl, I1.kept (t' := s1.toks) hk, turn_zipk t u sep (Nat.ne_of_lt la) (Nat.ne_of_lt (Nat.lt_succ_of_lt lb)), ⟨hz, hTI, ⟨_, _, hTO⟩, itAt_new h1, itAt_new h2⟩, fun c hc => ?_, q⟩
      have hle : s1.heap.objs.size ≤ c := by
        simp only [List.mem_cons, List.not_mem_nil, or_false] at hc
        rcases hc with q | q | q | q | q <;> rw [q]
        · exact Nat.le_add_right _ _
        · exact Nat.le_add_right _ _
        · exact Nat.le_add_right _ _
        · exact Nat.le_refl _
        · exact Nat.le_add_right _ _
      exact I1.fpOk hle (I1.hok.fresh hle)
section
variable {X : Cx} {tas : TAD}
def zipL (xs ys : List PyData) : List DV := (List.zip xs ys).map fun p => DV.pr (.d p.1) (.d p.2)
theorem zipL_get (xs ys : List PyData) (i : Nat) : (zipL xs ys)[i]? = ((List.zip xs ys)[i]?).map fun p => DV.pr (.d p.1) (.d p.2) := by
  unfold zipL
  rw [List.getElem?_map]
/-- a list or a tuple of data -/
def seqOf : DV → Option (List PyData)
  | .d (.list xs) => some xs
  | .d (.tuple xs) => some xs
  | _ => none
theorem seqOf_rv {K : PySem.W.Frag} {H : Hp} {v : V} {x : DV} {ds : List PyData} (r : RV K H v x) (e : seqOf x = some ds) : ∃ t a xs, v = .ref a ∧ SqK K H t a xs ∧ RDs K H xs ds := by
  cases x with
  | d y =>
    cases y with
    | list l =>
      cases e
      cases r with
      | lst q1 q2 => exact ⟨false, _, _, rfl, SqL.of q1, q2⟩
    | tuple l =>
      cases e
      cases r with
      | tup q1 q2 => exact ⟨true, _, _, rfl, q1.t, q2⟩
    | _ => cases e
  | _ => cases e
theorem sqK_sub {K : PySem.W.Frag} {H H' : Hp} {t : Bool} {a : Addr} {xs : List V} (s : Sub H H') (h : SqK K H t a xs) : SqK K H' t a xs := by
  cases t
  · exact sqL_sub s h
  · exact sqT_sub s h
theorem it_zip {K : PySem.W.Frag} {H : Hp} {M : Mem} {t u : Bool} {a b : Addr} {xs ys : List V} {ds es : List PyData} (h1 : SqK K (hide H M) t a xs) (r1 : RDs K (hide H M) xs ds) (h2 : SqK K (hide H M) u b ys) (r2 : RDs K (hide H M) ys es) : ItOk K H M (Itzk K t u a b) (zipL ds es) := fun H1 M1 l m => by
  have g1 : SqK K H1 t a xs := sqK_sub (hide_sub _ _) (sqK_sub l h1)
  have g2 : SqK K H1 u b ys := sqK_sub (hide_sub _ _) (sqK_sub l h2)
  have l1 := r1.len
  have l2 := r2.len
  have hlen : (zipL ds es).length = min ds.length es.length := by unfold zipL; rw [List.length_map, List.length_zip]
  refine ⟨fun i hi => ?_, ⟨xs, ys, g1, g2, by rw [hlen]; omega⟩⟩
  rw [hlen] at hi
  refine ⟨⟨xs, ys, xs[i], ys[i], g1, g2, List.getElem?_eq_getElem (by omega), List.getElem?_eq_getElem (by omega)⟩, fun v H2 y => ?_⟩
  obtain ⟨T, x, y, rfl, n, rfl, y1, y2⟩ := y
  obtain ⟨d, ed, rd⟩ := r1.getV (y1 xs g1)
  obtain ⟨e, ee, re⟩ := r2.getV (y2 ys g2)
  refine ⟨le_new n, rep_new m n, .pr (.d d) (.d e), ?_, T, x, y, rfl, SqT.of (new_at m n), RD.sub (le_new n) (RD.sub l rd), RD.sub (le_new n) (RD.sub l re)⟩
  rw [zipL_get]
  have : (List.zip ds es)[i]? = some (d, e) := by
    rw [List.getElem?_zip_eq_some]
    exact ⟨ed, ee⟩
  rw [this]
  rfl
def diZip (ta : TAD) : TID := fun sl M R => ta sl M fun xs M1 => match xs with
  | [x, y] => optP (seqOf x) fun ds => optP (seqOf y) fun es => R (zipL ds es) M1
  | _ => False
theorem di_zip {e e2 : Expr} {p pos tpos : Pos} {elts : List Expr} {kk : Nat} (hg : Gl X "zip") (hm : X.mg "zip" = none) (ha : DA X [e, e2] tas) (hs : starEach [e, e2] X.env = (false, eval e X.env) :: starEach [e2] X.env := by rfl) (hpl : (backTo pos (starEach [e2] X.env)).any (·.1) = false := by rfl) :
    DI X (.Tuple elts kk tpos) (.Call (.Name "zip" p) [e, e2] [] pos) (diZip tas) :=
  PI.imp (pi_zipk hg hm ha hs hpl) fun σ H R ⟨sl, M, RR, hs, hm, ht, k⟩ => ⟨sl, M, _, hs, hm, ht, fun x M1 h1 v H1 l1 m1 r1 => by
    match x, h1 with
    | [x, y], h1 =>
      obtain ⟨ds, e1, h1⟩ := optP_elim h1
      obtain ⟨es, e2, h1⟩ := optP_elim h1
      cases r1 with
      | cons r1 r2 =>
        cases r2 with
        | cons r2 r3 =>
          cases r3
          obtain ⟨t, a, xs, rfl, q1, q2⟩ := seqOf_rv r1 e1
          obtain ⟨u, b, ys, rfl, q3, q4⟩ := seqOf_rv r2 e2
          exact ⟨t, u, a, b, xs, ys, rfl, sqK_sub (hide_sub _ _) q1, sqK_sub (hide_sub _ _) q3, k _ M1 h1 _ H1 l1 m1 (it_zip q1 q2 q3 q4)⟩⟩
end
end DL

/-! The data layer: dict(zip(x, y)). -/
namespace DL
open PySem PySem.Spec PyProof.Rows L2
theorem Draws.over' {P : Program} {w : World} {A : Around} {it : Addr} {fp : List Addr} {n : Nat} {R : Nat → Value → Prop} {St : Nat → Heap → Prop} (D : Draws P w A it fp n R St) {i : Nat} {h h' : Heap} {c : Addr} (st : St i h) (sb : Heap.SameBut c h h') (nc : c ∉ fp) : St i h' :=
  D.frame i h h' st fun b hb o e => sb.extBut b o (fun q => nc (q ▸ hb)) e
section
variable {P : Program} {w : World} {A : Around} {E : Value → Shared → Prop} {s : Shared} {z TI TO i1 i2 T : Addr} {f : Bool} {oT : Obj} {fp1 fp2 : List Addr} {n1 n2 i : Nat} {P1 P2 : Nat → Value → Prop} {St1 St2 : Nat → Heap → Prop}
/-- next of a zip whose last tuple is still out -/
theorem zheld_item {Q : Option Value → Shared → Prop} (S : ZipSep2 z TI TO i1 i2 fp1 fp2) (D1 : Draws P w A.in1 i1 fp1 n1 P1 St1) (D2 : Draws P w A.in1 i2 fp2 n2 P2 St2) (hz : IsZipHeld s.heap z TI TO T f) (hT : s.heap.get? T = some oT) (hTI : IsTupOf2 s.heap TI (.ref i1) (.ref i2))
    (st1 : St1 i s.heap) (st2 : St2 i s.heap) (l1 : i < n1) (l2 : i < n2)
    (hQ : ∀ x1 x2 h' tk, P1 i x1 → P2 i x2 → IsZipHeld h' z TI TO T true → St1 (i + 1) h' → St2 (i + 1) h' → IsTupOf2 h' s.heap.objs.size x1 x2 → (∀ c o, c ≠ z → c ≠ i1 → c ≠ i2 → s.heap.get? c = some o → h'.get? c = some o) → Q (some (.ref s.heap.objs.size)) { s with heap := h', toks := tk }) :
    wpAny (model P w) A (pyNext (.ref z)) Q E s := by
  have ty : s.TypeIs (.ref z) "zip" := ⟨_, hz, rfl⟩
  unfold pyNext
  refine wpAny_bind (wpAny_attempt (wpAny_callSpecial?_slot (name := Str.ofString "__next__") ty F.slot_zip_next (wpAny_call_entry F.slot_zip_next ty F.entry_zip_next ?_ (F.args_zip_next_1 _))))
  obtain ⟨hp, g, d, tk0, os⟩ := s
  (show wpAny _ _ (field (.ref z) 2 >>= _) _ _ _); refine wpAny_bind (wpAny_field hz rfl (x := .bool false) rfl ?_)
  (show wpAny _ _ (field (.ref z) 3 >>= _) _ _ _); refine wpAny_bind (wpAny_field hz rfl (x := .ref TI) rfl (?_)); refine wpAny_bind (wpAny_seqItems hTI rfl ?_)
  (show wpAny _ _ (Builtin.SmallTypes.ownedTupleIsFree (.ref z) >>= _) _ _ _); refine wpAny_bind (wpAny_tupleHeld_zip hz hT fun g0 hz0 hs0 => ?_)
  replace hs0 : Heap.SameBut z hp g0 := hs0
  simp only [Bool.false_eq_true, if_false]; refine wpAny_bind ?_
  rw [← Array.forIn_toList]; simp only [List.forIn_cons, List.forIn_nil]; refine wpAny_bind (wpAny_bind (wpAny_holding ?_))
  show wpAny _ _ (Builtin.SmallTypes.nextOf (.ref i1) >>= _) _ _ ⟨g0, g, d, tk0, os⟩
  refine wpAny_bind (D1.item i _ _ _ l1 (Draws.over' D1 st1 hs0 S.zf1) fun x1 p1 tk1 hx1 sn1 hp1 => wpAny_pure (wpAny_pure ?_))
  replace hp1 : Heap.SameBut i1 g0 p1 := hp1
  refine wpAny_bind (wpAny_bind (wpAny_holding ?_)); show wpAny _ _ (Builtin.SmallTypes.nextOf (.ref i2) >>= _) _ _ ⟨p1, g, d, tk1, os⟩
  refine wpAny_bind (D2.item i _ _ _ l2 (Draws.over' D2 (Draws.over' D2 st2 hs0 S.zf2) hp1 S.sep1_2) fun x2 p2 tk2 hx2 sn2 hp2 => wpAny_pure (wpAny_pure (wpAny_pure ?_)))
  replace hp2 : Heap.SameBut i2 p1 p2 := hp2
  show wpAny _ _ (newTuple [x1, x2] >>= _) _ _ ⟨p2, g, d, tk2, os⟩
  refine wpAny_bind (wpAny_newTuple ?_)
  have sz : p2.objs.size = hp.objs.size := by rw [hp2.1, hp1.1, hs0.1]
  have zz : IsZipHeld p2 z TI TO T true := hp2.extBut _ _ S.zi2 (hp1.extBut _ _ S.zi1 hz0)
  have up : ∀ c o, p2.get? c = some o → (p2.push { cls := .type "tuple", data := .seq #[x1, x2] }).get? c = some o := fun c o e => Heap.get?_push_of_some _ e
  have kk : ∀ c o, c ≠ z → c ≠ i1 → c ≠ i2 → hp.get? c = some o → p2.get? c = some o := fun c o cz c1 c2 e => hp2.extBut _ _ c2 (hp1.extBut _ _ c1 (hs0.extBut _ _ cz e))
  have nt : IsTupOf2 (p2.push { cls := .type "tuple", data := .seq #[x1, x2] }) p2.objs.size x1 x2 := Heap.get?_push_size _ rfl
  refine wpAny_pure ⟨_, rfl, wpAny_pure ?_⟩
  rw [sz] at nt
  show Q (some (.ref p2.objs.size)) _
  rw [sz]
  exact hQ x1 x2 _ tk2 hx1 hx2 (up _ _ zz) (D1.frame _ _ _ (Draws.over' D1 sn1 hp2 S.sep2_1) fun b _ o e => up b o e) (D2.frame _ _ _ sn2 fun b _ o e => up b o e) nt fun c o cz c1 c2 e => up c o (kk c o cz c1 c2 e)
theorem zheld_end {Q : Option Value → Shared → Prop} (S : ZipSep2 z TI TO i1 i2 fp1 fp2) (D1 : Draws P w A.in1 i1 fp1 n1 P1 St1) (D2 : Draws P w A.in1 i2 fp2 n2 P2 St2) (hz : IsZipHeld s.heap z TI TO T f) (hT : s.heap.get? T = some oT) (hTI : IsTupOf2 s.heap TI (.ref i1) (.ref i2))
    (st1 : St1 i s.heap) (st2 : St2 i s.heap) (l1 : i ≤ n1) (l2 : i ≤ n2) (le : i = n1 ∨ i = n2)
    (hQ : ∀ h' tk, (∀ c o, c ≠ z → c ≠ i1 → c ≠ i2 → s.heap.get? c = some o → h'.get? c = some o) → Q none { s with heap := h', toks := tk }) :
    wpAny (model P w) A (pyNext (.ref z)) Q E s := by
  have ty : s.TypeIs (.ref z) "zip" := ⟨_, hz, rfl⟩
  unfold pyNext
  refine wpAny_bind (wpAny_attempt (wpAny_callSpecial?_slot (name := Str.ofString "__next__") ty F.slot_zip_next (wpAny_call_entry F.slot_zip_next ty F.entry_zip_next ?_ (F.args_zip_next_1 _))))
  obtain ⟨hp, g, d, tk0, os⟩ := s
  (show wpAny _ _ (field (.ref z) 2 >>= _) _ _ _); refine wpAny_bind (wpAny_field hz rfl (x := .bool false) rfl ?_)
  (show wpAny _ _ (field (.ref z) 3 >>= _) _ _ _); refine wpAny_bind (wpAny_field hz rfl (x := .ref TI) rfl (?_)); refine wpAny_bind (wpAny_seqItems hTI rfl ?_)
  (show wpAny _ _ (Builtin.SmallTypes.ownedTupleIsFree (.ref z) >>= _) _ _ _); refine wpAny_bind (wpAny_tupleHeld_zip hz hT fun g0 hz0 hs0 => ?_)
  replace hs0 : Heap.SameBut z hp g0 := hs0
  simp only [Bool.false_eq_true, if_false]; refine wpAny_bind ?_
  rw [← Array.forIn_toList]; simp only [List.forIn_cons, List.forIn_nil]; refine wpAny_bind (wpAny_bind (wpAny_holding ?_))
  show wpAny _ _ (Builtin.SmallTypes.nextOf (.ref i1) >>= _) _ _ ⟨g0, g, d, tk0, os⟩
  have fin : ∀ (h' : Heap) (tk : Nat) (e : Addr), (∀ c o, c ≠ z → c ≠ i1 → c ≠ i2 → hp.get? c = some o → h'.get? c = some o) → (∃ o, h'.get? e = some o ∧ o.cls = .type "StopIteration") →
      wpAny (model P w) A (do if ← isInstance (.ref e) (.type "StopIteration") then pure none else throw (.ref e)) Q E ⟨h', g, d, tk, os⟩ := fun h' tk e hk ⟨o, ho, hc⟩ =>
    wpAny_bind (wpAny_isInstance (T := "StopIteration") (b := true) ⟨o, ho, hc⟩ isSubtype_stop (wpAny_pure (hQ h' tk hk)))
  by_cases e1 : i = n1
  · subst e1
    refine wpAny_bind (D1.done _ _ _ (Draws.over' D1 st1 hs0 S.zf1) fun h' e ex he => ?_)
    exact fin h' tk0 e (fun c o cz c1 c2 q => ex c o c1 (hs0.extBut _ _ cz q)) he
  · have e2 : i = n2 := by rcases le with q | q; exact absurd q e1; exact q
    refine wpAny_bind (D1.item i _ _ _ (by omega) (Draws.over' D1 st1 hs0 S.zf1) fun x1 p1 tk1 hx1 sn1 hp1 => wpAny_pure (wpAny_pure ?_))
    replace hp1 : Heap.SameBut i1 g0 p1 := hp1
    refine wpAny_bind (wpAny_bind (wpAny_holding ?_)); show wpAny _ _ (Builtin.SmallTypes.nextOf (.ref i2) >>= _) _ _ ⟨p1, g, d, tk1, os⟩
    subst e2
    refine wpAny_bind (D2.done _ _ _ (Draws.over' D2 (Draws.over' D2 st2 hs0 S.zf2) hp1 S.sep1_2) fun h' e ex he => ?_)
    exact fin h' tk1 e (fun c o cz c1 c2 q => ex c o c2 (hp1.extBut _ _ c1 (hs0.extBut _ _ cz q))) he
end
theorem SeqA.at {t : Bool} {h h' : Heap} {a : Addr} {its : Array Value} (x : SeqA t h a its) (k : ∀ o, h.get? a = some o → h'.get? a = some o) : SeqA t h' a its := by
  cases t
  · exact Heap.IsList.at x k
  · exact Heap.IsTuple.at x k
theorem SeqA.obj {t : Bool} {h : Heap} {a : Addr} {its : Array Value} (x : SeqA t h a its) : ∃ o, h.get? a = some o := by
  cases t
  · obtain ⟨o, e, _⟩ := x
    exact ⟨o, e⟩
  · obtain ⟨o, e, _⟩ := x
    exact ⟨o, e⟩
theorem pairArg_zip {P : Program} {w : World} (t u : Bool) {z TI TO i1 i2 a b : Addr} (S : ZipSep2 z TI TO i1 i2 [i1, a] [i2, b]) (n1 : a ≠ i1) (n2 : b ≠ i2) (aTI : a ≠ TI) (bTI : b ≠ TI) (xs ys : Array Value) :
    PairArg P w "zip" z [z, TI, TO, i1, i2, a, b] [z, TO, i1, i2] (min xs.size ys.size) (fun i k v => xs[i]? = some k ∧ ys[i]? = some v)
      (fun h => IsZip h z TI TO .none ∧ IsTupOf2 h TI (.ref i1) (.ref i2) ∧ (∃ x y, IsTupOf2 h TO x y) ∧ (ItAt t h i1 a 0 ∧ SeqA t h a xs) ∧ (ItAt u h i2 b 0 ∧ SeqA u h b ys)) where
  type := fun s ok => ⟨_, ok.1, rfl⟩
  notDict := by decide
  keep := fun h h' ok hk => by
    obtain ⟨hz, hTI, ⟨x, y, hTO⟩, ⟨h1, p1⟩, ⟨h2, p2⟩⟩ := ok
    exact ⟨hk _ _ hz, hk _ _ hTI, ⟨x, y, hk _ _ hTO⟩, ⟨h1.at fun o e => hk _ o e, p1.at fun o e => hk _ o e⟩, ⟨h2.at fun o e => hk _ o e, p2.at fun o e => hk _ o e⟩⟩
  there := fun h ok c hc => by
    obtain ⟨hz, hTI, ⟨x, y, hTO⟩, ⟨h1, p1⟩, ⟨h2, p2⟩⟩ := ok
    simp only [List.mem_cons, List.not_mem_nil, or_false] at hc
    rcases hc with q | q | q | q | q | q | q <;> subst q
    · exact ⟨_, hz⟩
    · exact ⟨_, hTI⟩
    · exact ⟨_, hTO⟩
    · obtain ⟨o, e, _⟩ := h1.obj; exact ⟨o, e⟩
    · obtain ⟨o, e, _⟩ := h2.obj; exact ⟨o, e⟩
    · exact p1.obj
    · exact p2.obj
  sub := fun c hc => by
    simp at hc ⊢
    rcases hc with q | q | q | q <;> simp [q]
  noKeys := fun A s Q E hA ok h => getAttrOr_miss_zip ok.1 rfl rfl rfl zip_no_keys (by decide +kernel) hA h
  iter := fun A s d Q E hA ok hd hdf h => by
    obtain ⟨hz, hTI, hTO, s1, s2⟩ := ok
    simp only [List.mem_cons, List.not_mem_nil, or_false, not_or] at hdf
    obtain ⟨dz, dTI, dTO, d1, d2, da, db⟩ := hdf
    have fp1 : ∀ c ∈ [i1, a], c ≠ d := fun c hc q => by
      subst q
      simp at hc
      rcases hc with q | q
      · exact d1 q
      · exact da q
    have fp2 : ∀ c ∈ [i2, b], c ≠ d := fun c hc q => by
      subst q
      simp at hc
      rcases hc with q | q
      · exact d2 q
      · exact db q
    have D1 := draws_k (P := P) (w := w) (A := A.in1) t hA i1 a n1 xs
    have D2 := draws_k (P := P) (w := w) (A := A.in1) u hA i2 b n2 ys
    refine wpAny_pyIter_zip hz (h z [z, TO, i1, i2] (fun i h => IsTupOf2 h TI (.ref i1) (.ref i2) ∧ (ItAt t h i1 a i ∧ SeqA t h a xs) ∧ (ItAt u h i2 b i ∧ SeqA u h b ys) ∧
      ((IsZip h z TI TO .none ∧ ∃ x y, IsTupOf2 h TO x y) ∨ ∃ T f oT, IsZipHeld h z TI TO T f ∧ h.get? T = some oT ∧ T ≠ z ∧ T ≠ i1 ∧ T ≠ i2 ∧ T ≠ d)) s.heap s.toks ?_ ⟨hTI, s1, s2, .inl ⟨hz, hTO⟩⟩ (fun _ _ e => e) fun c hc => .inl hc)
    refine { off := fun hm => ?_, frame := fun i h₁ h₂ st hk => ?_, item := fun i s₁ Q₁ E₁ hi st hds hQ => ?_, done := fun s₁ Q₁ E₁ st hQ => ?_ }
    · simp only [List.mem_cons, List.not_mem_nil, or_false] at hm
      rcases hm with q | q | q | q
      · exact dz q
      · exact dTO q
      · exact d1 q
      · exact d2 q
    · obtain ⟨g1, g2, g3, g4⟩ := st
      refine ⟨hk _ _ (Ne.symm dTI) g1, D1.frame i _ _ g2 fun c hc o e => hk c o (fp1 c hc) e, D2.frame i _ _ g3 fun c hc o e => hk c o (fp2 c hc) e, ?_⟩
      rcases g4 with ⟨q1, x, y, q2⟩ | ⟨T, f, oT, q1, q2, r1, r2, r3, r4⟩
      · exact .inl ⟨hk _ _ (Ne.symm dz) q1, x, y, hk _ _ (Ne.symm dTO) q2⟩
      · exact .inr ⟨T, f, oT, hk _ _ (Ne.symm dz) q1, hk _ _ r4 q2, r1, r2, r3, r4⟩
    · obtain ⟨g1, g2, g3, g4⟩ := st
      have l1 : i < xs.size := Nat.lt_of_lt_of_le hi (Nat.min_le_left ..)
      have l2 : i < ys.size := Nat.lt_of_lt_of_le hi (Nat.min_le_right ..)
      have ne : ∀ {c o}, s₁.heap.get? c = some o → s₁.heap.objs.size ≠ c := fun e => Nat.ne_of_gt (Heap.lt_size e)
      obtain ⟨o1, e1, _⟩ := g2.1.obj
      obtain ⟨o2, e2, _⟩ := g3.1.obj
      rcases g4 with ⟨q1, x, y, q2⟩ | ⟨T, f, oT, q1, q2, r1, r2, r3, r4⟩
      · have ty : s₁.TypeIs (.ref z) "zip" := ⟨_, q1, rfl⟩
        unfold pyNext
        refine wpAny_bind (wpAny_attempt (wpAny_callSpecial?_slot (name := Str.ofString "__next__") ty F.slot_zip_next (wpAny_call_entry F.slot_zip_next ty F.entry_zip_next (zipD2_next_item S D1 D2 q1 g1 q2 g2 g3 l1 l2 fun x1 x2 h' tk hx1 hx2 z' _ st1 st2 nt _ hk => wpAny_pure ?_) (F.args_zip_next_1 _))))
        refine hQ _ x1 x2 h' tk ⟨hx1, hx2⟩ (.inl ⟨_, nt, rfl, _, rfl⟩) ⟨hk _ _ S.TIz S.TITO S.TIi1 S.TIi2 g1, st1, st2, .inr ⟨_, false, _, z', nt, ne q1, ne e1, ne e2, Nat.ne_of_gt hds⟩⟩ fun c o hc e => hk c o (fun q => hc (by simp [q])) (fun q => hc (by simp [q])) (fun q => hc (by simp [q])) (fun q => hc (by simp [q])) e
      · refine zheld_item S D1 D2 q1 q2 g1 g2 g3 l1 l2 fun x1 x2 h' tk hx1 hx2 z' st1 st2 nt hk => ?_
        exact hQ _ x1 x2 h' tk ⟨hx1, hx2⟩ (.inl ⟨_, nt, rfl, _, rfl⟩) ⟨hk _ _ S.TIz S.TIi1 S.TIi2 g1, st1, st2, .inr ⟨T, true, oT, z', hk _ _ r1 r2 r3 q2, r1, r2, r3, r4⟩⟩ fun c o hc e => hk c o (fun q => hc (by simp [q])) (fun q => hc (by simp [q])) (fun q => hc (by simp [q])) e
    · obtain ⟨g1, g2, g3, g4⟩ := st
      have le : min xs.size ys.size = xs.size ∨ min xs.size ys.size = ys.size := by omega
      rcases g4 with ⟨q1, x, y, q2⟩ | ⟨T, f, oT, q1, q2, r1, r2, r3, r4⟩
      · have ty : s₁.TypeIs (.ref z) "zip" := ⟨_, q1, rfl⟩
        unfold pyNext
        refine wpAny_bind (wpAny_attempt (wpAny_callSpecial?_slot (name := Str.ofString "__next__") ty F.slot_zip_next (wpAny_call_entry F.slot_zip_next ty F.entry_zip_next (zipD2_next_end S D1 D2 q1 g1 q2 g2 g3 (Nat.min_le_left ..) (Nat.min_le_right ..) le fun h' tk e hk he => ?_) (F.args_zip_next_1 _))))
        obtain ⟨o, ho, hc⟩ := he
        exact wpAny_bind (wpAny_isInstance (T := "StopIteration") (b := true) ⟨o, ho, hc⟩ isSubtype_stop (wpAny_pure (hQ h' tk fun c o hc e => hk c o (fun q => hc (by simp [q])) (fun q => hc (by simp [q])) (fun q => hc (by simp [q])) (fun q => hc (by simp [q])) e)))
      · exact zheld_end S D1 D2 q1 q2 g1 g2 g3 (Nat.min_le_left ..) (Nat.min_le_right ..) le fun h' tk hk => hQ h' tk fun c o hc e => hk c o (fun q => hc (by simp [q])) (fun q => hc (by simp [q])) (fun q => hc (by simp [q])) e
/-- dict(zip(x, y)): keys ints or texts -/
def tDictZip (K : PySem.W.Frag) (ta : TA) : TE := fun σ H Q => ta σ H fun vs H1 => ∃ (t u : Bool) (a b : Addr) (ks : List Key) (ys : List V), vs = [.ref a, .ref b] ∧ SqK K H1 t a (ks.map kV) ∧ SqK K H1 u b ys ∧ ∀ p, H1 p = none → Q (.ref p) (upd H1 p (.dK (mergeK [] (ks.zip ys))))
theorem vals_keys {P : Program} {w : World} : ∀ {ks : List Key} {us : List Value}, Vals (ks.map kV) us → ∀ (i : Nat) (u : Value), us[i]? = some u → ∃ k, ks[i]? = some k ∧ (mixKind P w).is k u = true
  | [], us, r, i, u, h => by
    cases r
    cases h
  | k :: ks, us, r, i, u, h => by
    cases r with
    | cons r1 r2 =>
      cases i with
      | zero =>
        cases h
        refine ⟨k, rfl, ?_⟩
        cases k with
        | inl j => obtain ⟨t, rfl⟩ := r1; exact mixKind_int P w j t
        | inr x => obtain ⟨t, rfl⟩ := r1; exact mixKind_str P w x t
      | succ i => exact vals_keys r2 i u h
theorem kv_zip : ∀ {ks : List Key} {ys : List V} {us : List Value}, Vals ys us → KV (ks.zip ys) (ks.zip us)
  | [], _, _, _ => .nil
  | _ :: _, _, _, .nil => .nil
  | k :: ks, _, _, .cons r t => .cons ⟨rfl, r⟩ (kv_zip t)
theorem pe_dictZip {X : Cx} {e e2 : Expr} {ta : TA} {p p2 q pos : Pos} (hc : X.calm = true) (hg : Gl X "dict") (hm : X.mg "dict" = none) (hg2 : Gl X "zip") (hm2 : X.mg "zip" = none) (ha : PA X [e, e2] ta)
    (na : starEach [.Call (.Name "zip" p2) [e, e2] [] q] X.env = (false, eval (.Call (.Name "zip" p2) [e, e2] [] q) X.env) :: starEach [] X.env := by rfl)
    (hs : starEach [e, e2] X.env = (false, eval e X.env) :: starEach [e2] X.env := by rfl) (hpl : (backTo q (starEach [e2] X.env)).any (·.1) = false := by rfl) :
    PE X (.Call (.Name "dict" p) [.Call (.Name "zip" p2) [e, e2] [] q] [] pos) (tDictZip X.K ta) := by
  refine ⟨fun pins s σ H Q I h => Call_ (ld_blt I hg hm boot_dict (callWith_type1 (args_cons ?_ rfl) rfl rfl))⟩
  refine Call_ (ld_blt I hg2 hm2 boot_zip (callWith_type1 (thn (ha.run q pins s σ H _ I h) ?_) hs hpl))
  intro us s1 hh
  obtain ⟨vs, H1, I1, r1, t, u, a, b, ks, ys, rfl, hq1, hq2, qq⟩ := hh
  cases r1 with
  | cons ra rr =>
    cases rr with
    | cons rb rr =>
      cases rr
      cases ra
      cases rb
      obtain ⟨its, rv, p1, z1, la⟩ := inv_seq I1 hq1
      obtain ⟨jts, rw', p2, z2, lb⟩ := inv_seq I1 hq2
      refine zip_begins2 (begins_k t a its.toArray) (begins_k u b jts.toArray) p1 p2 fun h' hz hTI hTO h1 h2 hsz hk => args_nil ?_
      have sep := zip_sep2 (N := s1.heap.objs.size) (fp1 := [a]) (fp2 := [b]) (fun c hc => by simp at hc; rw [hc]; exact la) (fun c hc => by simp at hc; rw [hc]; exact lb)
      have I2 : Inv X pins σ H1 { s1 with heap := h' } := I1.kept (t' := s1.toks) hk
      have e1 : ks.length = its.length := by rw [← rv.length, List.length_map]
      have e2 : ys.length = jts.length := rw'.length
      refine call_dict_pairs (s := { s1 with heap := h' }) (knd := mixKind X.prog X.w) (kvs := ks.zip jts) (pairArg_zip t u sep (Nat.ne_of_lt la) (Nat.ne_of_lt (Nat.lt_succ_of_lt lb)) (Nat.ne_of_lt (Nat.lt_add_right 2 la)) (Nat.ne_of_lt (Nat.lt_add_right 2 lb)) its.toArray jts.toArray) (I.ok.hd hc) ⟨hz, hTI, ⟨_, _, hTO⟩, ⟨itAt_new h1, p1.at fun o e => hk _ o e⟩, ⟨itAt_new h2, p2.at fun o e => hk _ o e⟩⟩ ⟨?_, fun i key v hr => ?_⟩ ?_ fun h3 tk dd hk3 => ?_
      · rw [List.length_zip, List.size_toArray, List.size_toArray, e1]
      · obtain ⟨k, hk1, hk2⟩ := vals_keys (P := X.prog) (w := X.w) rv i key (by simpa using hr.1)
        refine ⟨k, ?_, hk2⟩
        rw [List.getElem?_zip_eq_some]
        exact ⟨hk1, by simpa using hr.2⟩
      · rw [List.size_toArray, List.size_toArray, ← e2]
        omega
      · have hf : ∀ c ∈ [s1.heap.objs.size + 4, s1.heap.objs.size + 3, s1.heap.objs.size, s1.heap.objs.size + 1], FpOk X pins H1 c := fun c hc => by
          have hle : s1.heap.objs.size ≤ c := by
            simp only [List.mem_cons, List.not_mem_nil, or_false] at hc
            rcases hc with q | q | q | q <;> rw [q]
            · exact Nat.le_add_right _ _
            · exact Nat.le_add_right _ _
            · exact Nat.le_refl _
            · exact Nat.le_add_right _ _
          exact I1.fpOk hle (I1.hok.fresh hle)
        have hlen : (mergeK [] (ks.zip ys)).length ≤ sizeLine := by
          refine Nat.le_trans (length_mergeK _ []) ?_
          rw [List.length_nil, Nat.zero_add, List.length_zip]
          omega
        have hbig : (h'.objs.size == sysModules) = false := beq_eq_false_iff_ne.mpr (Nat.ne_of_gt I2.big)
        refine ⟨.ref h'.objs.size, _, I2.turnedNew (t' := tk) (ob := .dK (mergeK [] (ks.zip ys))) hk3 hf (Nat.le_refl _) (show ObjOk X.prog X.w _ _ _ (.dK (mergeK [] (ks.zip ys))) from ⟨hlen, hbig, merged [] (ks.zip jts), KV.merge (kv_zip rw') .nil, dd⟩), rfl, qq _ (I2.hok.fresh (Nat.le_refl _))⟩
end DL

/-! The data layer: dicts as data: dict(zip(x, y)), dict(tuple of pairs), comprehensions, displays, get, in; len(set(x)); x[::-1]. -/
namespace DL
open PySem PySem.Spec PyProof.Rows L2
section
variable {X : Cx}
theorem pairs_vals {pins : List (Addr × Obj)} {σ : L2.St} {H : Hp} {s : Shared} (I : Inv X pins σ H s) : ∀ {ps : List Addr} {kvs : List (Key × V)}, Paired (fun p kv => SqT X.K H p [kV kv.1, kv.2]) ps kvs →
    ∃ (vps : List (Value × Value)) (prs : List (Key × Value)), KV kvs prs ∧ vps.length = ps.length ∧ prs.length = ps.length ∧ ∀ (j : Nat) (u v : Value), vps[j]? = some (u, v) → ∃ (b : Addr) (k : Key), ps[j]? = some b ∧ IsTup s.heap b #[u, v] ∧ prs[j]? = some (k, v) ∧ (mixKind X.prog X.w).is k u = true
  | _, _, .nil => ⟨[], [], .nil, rfl, rfl, fun j u v e => (by cases e)⟩
  | _, _, .cons (a := p) (b := kv) h t => by
    obtain ⟨vps, prs, r, l1, l2, hp⟩ := pairs_vals I t
    obtain ⟨its, rv, ht, _⟩ := I.tuple h
    obtain ⟨u, y, ei, ru, ry⟩ := vals2 rv
    subst ei
    refine ⟨(u, y) :: vps, (kv.1, y) :: prs, .cons ⟨rfl, ry⟩ r, by rw [List.length_cons, List.length_cons, l1], by rw [List.length_cons, List.length_cons, l2], fun j u' v e => ?_⟩
    cases j with
    | zero =>
      cases e
      exact ⟨p, kv.1, rfl, ht, rfl, kV_is (P := X.prog) (w := X.w) ru⟩
    | succ j =>
      obtain ⟨b, k, e1, e2, e3, e4⟩ := hp j u' v (by simpa using e)
      exact ⟨b, k, by simpa using e1, e2, by simpa using e3, e4⟩
theorem SqP.inv {pins : List (Addr × Obj)} {σ : L2.St} {H : Hp} {s : Shared} {a : Addr} {xs : List V} (I : Inv X pins σ H s) (h : SqP X.K H a xs) : ∃ its : List Value, Vals xs its ∧ PlainSeq "tuple" s.heap a its.toArray ∧ xs.length ≤ sizeLine := by
  rcases h with ⟨o, e, d⟩ | ⟨o, its, n, e1, e2, e3, e4, e5, e6⟩
  · obtain ⟨q, z, its, r, o', ho, hc, n, hd⟩ := I.hok a _ e
    rw [q] at ho
    cases ho
    exact ⟨its, r, ⟨o, n, q, hc, d, hd⟩, z⟩
  · refine ⟨its.toList, e6, ⟨o, n, I.kIn a o e1, e2, e3, by simpa using e4⟩, ?_⟩
    rw [e6.length, Array.length_toList]
    exact e5
/-- dict(t), t a tuple of pairs -/
theorem call_dictT (hcalm : X.calm = true) : CallR X (.type "dict") (fun xs H Q => ∃ (a : Addr) (ps : List Addr) (kvs : List (Key × V)), xs = [.ref a] ∧ SqP X.K H a (ps.map V.ref) ∧ Paired (fun p kv => SqT X.K H p [kV kv.1, kv.2]) ps kvs ∧
    ∀ p, H p = none → Q (.ref p) (upd H p (.dK (mergeK [] kvs)))) := by
  rintro pins s σ H xs us Q I r ⟨a, ps, kvs, rfl, hq, hp, q⟩
  obtain ⟨u, rfl, rx⟩ := vals1 r
  cases rx
  obtain ⟨its, rv, pl, hz⟩ := SqP.inv I hq
  have ei := refs_at rv
  subst ei
  rw [List.length_map] at hz
  obtain ⟨vps, prs, rel, l1, l2, hpr⟩ := pairs_vals I hp
  refine call_dict_pairs (knd := mixKind X.prog X.w) (kvs := prs) (PairArg.tuple a (ps.map Value.ref).toArray (fun j => ps.getD j 0) vps) (I.ok.hd hcalm) ⟨pl, by simp [l1], fun j k v hj => ?_⟩ ⟨by rw [l1, l2], fun i key v hr => ?_⟩ (by rw [l1]; exact hz) fun h' tk dd k => ?_
  · obtain ⟨b, k', e1, e2, _⟩ := hpr j k v hj
    have eb : ps.getD j 0 = b := by rw [List.getD_eq_getElem?_getD, e1]; rfl
    refine ⟨?_, .inl ?_⟩
    · show (List.map Value.ref ps).toArray[j]? = some (Value.ref (ps.getD j 0))
      rw [eb, List.getElem?_toArray, List.getElem?_map, e1]
      rfl
    · show s.heap.IsTuple (ps.getD j 0) #[k, v]
      rw [eb]
      exact e2
  · obtain ⟨b, k', _, _, e3, e4⟩ := hpr i key v hr
    exact ⟨k', e3, e4⟩
  · have hm : (s.heap.objs.size == sysModules) = false := beq_eq_false_iff_ne.mpr (Nat.ne_of_gt I.big)
    have hlen : (mergeK [] kvs).length ≤ sizeLine := by
      refine Nat.le_trans (length_mergeK kvs []) ?_
      have := Paired.length hp
      rw [List.length_nil, Nat.zero_add, ← this]
      exact hz
    exact ⟨.ref s.heap.objs.size, _, I.laid (t' := tk) (o := .dK (mergeK [] kvs)) (fun b o e => k b o (by simp) e) (Nat.le_refl _) ⟨hlen, hm, merged [] prs, KV.merge rel .nil, dd⟩, rfl, q _ (I.hok.fresh (Nat.le_refl _))⟩
/-- dict(pairs) of a list or a tuple -/
def dictPG : GC
  | [.d (.list ps)], M, R => optP (pairsD ps) fun kds => (kds.map (·.1)).Nodup ∧ R (.d (.dict (kds.map fun p => (keyD p.1, p.2)))) M
  | [.d (.tuple ps)], M, R => optP (pairsD ps) fun kds => (kds.map (·.1)).Nodup ∧ R (.d (.dict (kds.map fun p => (keyD p.1, p.2)))) M
  | _, _, _ => False
theorem cd_dictP (hc : X.calm = true) : CallD X (.type "dict") dictPG := by
  intro pins s σ H vs us Q I r hh
  obtain ⟨xs, M, R, hm, rv, hg, k⟩ := hh
  match xs, hg with
  | [.d (.list ps)], hg => exact cd_dict hc pins s σ H vs us Q I r ⟨[.d (.list ps)], M, R, hm, rv, hg, k⟩
  | [.d (.tuple ps)], hg =>
    cases rv with
    | cons r1 r2 =>
      cases r2
      cases r1 with
      | tup h1 r1 =>
        obtain ⟨kds, e, hn, hg'⟩ := optP_elim hg
        obtain ⟨as, kvs, e1, e2, e3, e4⟩ := pairs_rd (hide_sub H M) r1 e
        subst e1
        refine call_dictT hc pins s σ H _ us Q I r ⟨_, as, kvs, rfl, h1.sub (hide_sub _ _), e2, fun p n => ?_⟩
        have em : mergeK [] kvs = kvs := mergeK_new kvs [] (by rw [List.nil_append, e3]; exact hn)
        rw [em]
        exact kt_new k hm n hg' (.dct (new_at hm n) (RKs.sub (le_new n) e4))
/-! ### dict(zip(x, y)) -/
def keysD : List PyData → Option (List Key)
  | [] => some []
  | x :: r => match keyOf x, keysD r with
    | some k, some q => some (k :: q)
    | _, _ => none
theorem keysD_rd {K : PySem.W.Frag} {H : Hp} : ∀ {vs : List V} {ds : List PyData} {ks : List Key}, RDs K H vs ds → keysD ds = some ks → vs = ks.map kV
  | _, _, _, .nil, e => by cases e; rfl
  | _, _, _, .cons h t, e => by
    unfold keysD at e
    split at e
    · rename_i k q ek eq
      cases e
      rw [keyOf_rd h ek, keysD_rd t eq]
      rfl
    · cases e
theorem zip_rk {K : PySem.W.Frag} {H : Hp} : ∀ {ks : List Key} {vs : List V} {ds : List PyData}, RDs K H vs ds → RKs K H (ks.zip vs) ((ks.zip ds).map fun p => (keyD p.1, p.2))
  | [], _, _, _ => .nil
  | _ :: _, _, _, .nil => .nil
  | k :: ks, _, _, .cons h t => .cons h (zip_rk t)
def dictZ (ta : TAD) : TD := fun sl M R => ta sl M fun xs M1 => match xs with
  | [x, y] => optP (seqOf x) fun ds => optP (seqOf y) fun es => optP (keysD ds) fun ks => ks.Nodup ∧ R (.d (.dict ((ks.zip es).map fun p => (keyD p.1, p.2)))) M1
  | _ => False
theorem zip_keys_nodup {α : Type} : ∀ {ks : List Key} {vs : List α}, ks.Nodup → ((ks.zip vs).map (·.1)).Nodup
  | [], _, _ => .nil
  | _ :: _, [], _ => .nil
  | k :: ks, v :: vs, h => by
    rw [List.zip_cons_cons, List.map_cons]
    refine List.nodup_cons.mpr ⟨fun hm => ?_, zip_keys_nodup (List.nodup_cons.mp h).2⟩
    obtain ⟨p, hp, e⟩ := List.mem_map.mp hm
    have h1 := (List.of_mem_zip hp).1
    have e' : p.1 = k := e
    rw [e'] at h1
    exact (List.nodup_cons.mp h).1 h1
theorem de_dictZ {e e2 : Expr} {tas : TAD} {p p2 q pos : Pos} (hc : X.calm = true) (hg : Gl X "dict") (hm : X.mg "dict" = none) (hg2 : Gl X "zip") (hm2 : X.mg "zip" = none) (ha : DA X [e, e2] tas)
    (na : starEach [.Call (.Name "zip" p2) [e, e2] [] q] X.env = (false, eval (.Call (.Name "zip" p2) [e, e2] [] q) X.env) :: starEach [] X.env := by rfl)
    (hs : starEach [e, e2] X.env = (false, eval e X.env) :: starEach [e2] X.env := by rfl) (hpl : (backTo q (starEach [e2] X.env)).any (·.1) = false := by rfl) :
    DE X (.Call (.Name "dict" p) [.Call (.Name "zip" p2) [e, e2] [] q] [] pos) (dictZ tas) :=
  PE.imp (pe_dictZip hc hg hm hg2 hm2 ha na hs hpl) fun σ H Q ⟨sl, M, R, hs, hm, ht, k⟩ => ⟨sl, M, _, hs, hm, ht, fun x M1 h1 v H1 l1 m1 r1 => by
    match x, h1 with
    | [x, y], h1 =>
      obtain ⟨ds, e1, h1⟩ := optP_elim h1
      obtain ⟨es, e2, h1⟩ := optP_elim h1
      obtain ⟨ks, e3, hn, h1⟩ := optP_elim h1
      cases r1 with
      | cons r1 r2 =>
        cases r2 with
        | cons r2 r3 =>
          cases r3
          obtain ⟨t, a, xs, rfl, q1, q2⟩ := seqOf_rv r1 e1
          obtain ⟨u, b, ys, rfl, q3, q4⟩ := seqOf_rv r2 e2
          have ex := keysD_rd q2 e3
          subst ex
          refine ⟨t, u, a, b, ks, ys, rfl, sqK_sub (hide_sub _ _) q1, sqK_sub (hide_sub _ _) q3, fun p n => ?_⟩
          have em : mergeK [] (ks.zip ys) = ks.zip ys := mergeK_new _ [] (by rw [List.nil_append]; exact zip_keys_nodup hn)
          rw [em]
          exact kt_new (k.le l1) m1 n h1 (.dct (new_at m1 n) (RKs.sub (le_new n) (zip_rk q4)))⟩
/-! ### dict comprehensions -/
def putD (kvs : List (Key × DV)) (k : Key) (v : DV) : List (Key × DV) :=
  if (kvs.any fun kv => decide (kv.1 = k)) = true then kvs.map (fun kv => if kv.1 = k then (kv.1, v) else kv) else kvs ++ [(k, v)]
theorem RKv.any {K : PySem.W.Frag} {H : Hp} (k : Key) : ∀ {vs : List (Key × V)} {xs : List (Key × DV)}, RKv K H vs xs → (vs.any fun kv => decide (kv.1 = k)) = (xs.any fun kv => decide (kv.1 = k))
  | _, _, .nil => rfl
  | _, _, .cons h t => by rw [List.any_cons, List.any_cons, RKv.any k t, h.1]
theorem RKv.rep {K : PySem.W.Frag} {H : Hp} {k : Key} {v : V} {x : DV} (r : RV K H v x) : ∀ {vs : List (Key × V)} {xs : List (Key × DV)}, RKv K H vs xs → RKv K H (vs.map fun kv => if kv.1 = k then (kv.1, v) else kv) (xs.map fun kv => if kv.1 = k then (kv.1, x) else kv)
  | _, _, .nil => .nil
  | _, _, .cons (a := p) (b := q) h t => by
    rw [List.map_cons, List.map_cons]
    refine .cons ?_ (RKv.rep r t)
    by_cases e : p.1 = k
    · rw [if_pos e, if_pos (h.1 ▸ e)]
      exact ⟨h.1, r⟩
    · rw [if_neg e, if_neg (h.1 ▸ e)]
      exact h
theorem RKv.append {K : PySem.W.Frag} {H : Hp} : ∀ {vs ws : List (Key × V)} {xs ys : List (Key × DV)}, RKv K H vs xs → RKv K H ws ys → RKv K H (vs ++ ws) (xs ++ ys)
  | _, _, _, _, .nil, s => s
  | _, _, _, _, .cons h t, s => .cons h (RKv.append t s)
theorem RKv.put {K : PySem.W.Frag} {H : Hp} {k : Key} {v : V} {x : DV} (r : RV K H v x) {vs : List (Key × V)} {xs : List (Key × DV)} (h : RKv K H vs xs) : RKv K H (putK vs k v) (putD xs k x) := by
  unfold putK putD
  rw [RKv.any k h]
  split
  · exact RKv.rep r h
  · exact RKv.append h (.cons ⟨rfl, r⟩ .nil)
theorem RKv.len {K : PySem.W.Frag} {H : Hp} {vs : List (Key × V)} {xs : List (Key × DV)} (h : RKv K H vs xs) : vs.length = xs.length := Paired.length h
/-- a key -/
def keyV : DV → Option Key
  | .d (.int i) => some (.inl i)
  | .d (.str x) => some (.inr x)
  | _ => none
theorem keyV_rv {K : PySem.W.Frag} {H : Hp} {v : V} {x : DV} {k : Key} (r : RV K H v x) (e : keyV x = some k) : v = kV k := by
  cases x with
  | d y => cases y <;> cases e <;> cases r <;> rfl
  | _ => cases e
/-- all values are data -/
def allKv : List (Key × DV) → Option (List (PyData × PyData))
  | [] => some []
  | (k, .d x) :: r => (allKv r).map ((keyD k, x) :: ·)
  | _ => none
theorem allKv_rk {K : PySem.W.Frag} {H : Hp} : ∀ {vs : List (Key × V)} {xs : List (Key × DV)} {kds : List (PyData × PyData)}, RKv K H vs xs → allKv xs = some kds → RKs K H vs kds
  | _, _, _, .nil, e => by cases e; exact .nil
  | (k, v) :: vs, (k', x) :: xs, kds, .cons h t, e => by
    cases x with
    | d x =>
      unfold allKv at e
      cases ea : allKv xs with
      | none => rw [ea] at e; cases e
      | some q =>
        rw [ea] at e
        cases e
        have hk : k = k' := h.1
        subst hk
        exact .cons h.2 (allKv_rk t ea)
    | _ => cases e
theorem allKv_of (kds : List (Key × PyData)) : allKv (kds.map fun p => (p.1, DV.d p.2)) = some (kds.map fun p => (keyD p.1, p.2)) := by
  induction kds with
  | nil => rfl
  | cons p r ih => show (allKv (r.map fun p => (p.1, DV.d p.2))).map _ = _; rw [ih]; rfl
def dDc (wi : TID) (g : TGD) (tt : TTD) (tk tv : TD) (vs : List Nat) : TD := fun sl M R => wi sl M fun items M1 => ∀ p, M1 p = none → ∃ P : Nat → Mem → Prop, P 0 (updM M1 p (.dk [])) ∧
  (∀ i x M, items[i]? = some x → P i M → g x (wipeD sl vs) M fun sl2 M2 => tt sl2 M2 fun k M3 => if k = true then tk sl2 M3 fun y M4 => tv sl2 M4 fun z M5 => optP (keyV y) fun key => getD M5 p (fun acc => acc.length < sizeLine ∧ P (i + 1) (updM M5 p (.dk (putD acc key z)))) else P (i + 1) M3) ∧
  ∀ M, P items.length M → getD M p fun kvs => optP (allKv kvs) fun kds => R (.d (.dict kds)) (delM M p)
theorem rd_free {K : PySem.W.Frag} {H : Hp} {M : Mem} {p : Addr} {kvs : List (Key × DV)} {kds : List (PyData × PyData)} (rm : RepM K H M) (e : M p = some (.dk kvs)) (ek : allKv kvs = some kds) : RD K (hide H (delM M p)) (.ref p) (.dict kds) := by
  obtain ⟨vs, hv, rv⟩ := rm p _ e
  have ld : Le H M H (delM M p) := le_del (K := K)
  exact .dct (hide_of hv delM_same) (RKs.sub ld (allKv_rk rv ek))
theorem ps_setDc {i : Nat} {y : Str} {py spos : Pos} {kx vx tg iter : Expr} {ifs : List Expr} {scope : Scope} {own : List (Str × Nat)} {pos : Pos} {wi : TI} {g : TG} {tt : TT} {tk tv : TE} (hc : X.calm = true) (hN : X.N.Nodup) (hy : X.N[i]? = some y) (hyl : X.env.scope.names.lookup y = some .local)
    (hsw : swapsWith (.DictComp kx vx [⟨tg, iter, ifs, 0⟩] scope pos) (some (.Name y py)) spos.line X.env = pure true) (hi : PI X tg iter wi) (ok : BlkOk X.N X.env.scope scope own)
    (hg : ∀ (s : Shared) (H : Hp) (C : Addr) (cl : List (Str × Addr)) (fp : List Addr), PG (X.blk s H scope (compEnvC scope cl C X.env) fp) tg g)
    (ht : ∀ (s : Shared) (H : Hp) (C : Addr) (cl : List (Str × Addr)) (fp : List Addr), PTs (X.blk s H scope (compEnvC scope cl C X.env) fp) ifs tt)
    (hk : ∀ (s : Shared) (H : Hp) (C : Addr) (cl : List (Str × Addr)) (fp : List Addr), PE (X.blk s H scope (compEnvC scope cl C X.env) fp) kx tk)
    (he : ∀ (s : Shared) (H : Hp) (C : Addr) (cl : List (Str × Addr)) (fp : List Addr), PE (X.blk s H scope (compEnvC scope cl C X.env) fp) vx tv) (hs : ∀ x, foldedSetIterable iter X.env x = pure x := by intro _; rfl) :
    PS X (.Assign [.Name y py] (.DictComp kx vx [⟨tg, iter, ifs, 0⟩] scope pos) spos) (tAsg (tDc wi g tt tk tv (own.map (·.2))) (gName i)) := by
  refine ⟨fun pins s σ H D I h => ?_⟩
  rw [exec_Assign_Name_used _ _ _ _ hsw]; refine wpAny_bind (wpAny_standAt (wpAny_bind ?_))
  show wpAny _ X.A (do let _ ← comprehension (.DictComp kx vx [⟨tg, iter, ifs, 0⟩] scope pos) scope X.env (firstIterPos [⟨tg, iter, ifs, 0⟩] pos) newDict false (eval iter X.env) (some (assign (.Name y py) X.env))) _ _ s
  have h' : tDc wi g tt tk tv (own.map (·.2)) σ H (fun x H1 => gName i x σ H1 D.nx) := h
  refine wpAny_bind (thn (dc_core (Qf := fun _ s' => SP X pins D .next s') hc hN I hi ok hg ht hk he hs h' fun L C s' m H' I' q hn f => ?_) fun _ s' hq => wpAny_pure (wpAny_pure hq))
  (show wpAny _ _ (assign (.Name y py) X.env (.ref L)) _ _ _); refine wpAny_assign_Name (store_ok2 (v := V.ref L) I' hN hy (.inl hyl) rfl (fun s2 I2 ⟨a, sb, ha⟩ => ?_) (.inr hyl))
  obtain ⟨f0, f1, f2, f3, f4, f5⟩ := f
  have na : C ≠ a := by
    rcases ha with z | z
    · rw [z]; exact f1
    · exact fun e => f4 y a z e.symm
  exact ⟨m, hn.sameBut sb na, fun h3 sb3 => ⟨_, H', I2.turned (t' := s2.toks) (fun b o hb e => (sb3.2 b hb).trans e) f0 f1 f3 f4 f5, q⟩⟩
theorem sw_dc {kx vx : Expr} {gs : List Comprehension} {scope : Scope} {pos py : Pos} {y : Str} {l : Nat} {env : PySem.Env} (hk : env.scope.kind = .function) (hy : env.scope.names.lookup y = some .local) (hl : (py.line == pos.line) = true)
    (ha : (scope.names.any fun (n, k) => n == y && (k == .local || k == .cell)) = false) : swapsWith (.DictComp kx vx gs scope pos) (some (.Name y py)) l env = pure true := by
  have k1 : env.kindOf y = some .local := hy
  have k2 : env.blockKind = .function := by unfold Env.blockKind; rw [hk]; rfl
  unfold swapsWith; simp only [k2, k1, ha, Expr.pos, hl]
  rfl
section
variable {te tk tv : TD}
theorem dc_imp {wi : TID} {ss vs : List Nat} {g : TGD} {tt : TTD} {σ : L2.St} {H : Hp} {Q : VK} (sub : ∀ j ∈ ss, j ∈ vs) (h : liftE X.K (dDc wi g tt tk tv vs) σ H Q) :
    tDc (liftI X.K wi) (liftG X.K ss g) (liftT X.K tt) (liftE X.K tk) (liftE X.K tv) vs σ H Q := by
  obtain ⟨sl, M, R, hs, hm, ht, k⟩ := h
  refine ⟨sl, M, _, hs, hm, ht, fun items M1 h1 J H1 l1 m1 it D nD => ?_⟩
  obtain ⟨P, p0, step, fin⟩ := h1 D (own_none m1 nD)
  refine ⟨fun i m H' => m = items.length - i ∧ i ≤ items.length ∧ ∃ M', RepM X.K H' M' ∧ Le H1 M1 H' M' ∧ P i M', ⟨_, rfl, Nat.zero_le _, _, rep_ownO (mo := .dk []) m1 nD ⟨[], upd_same, .nil⟩, le_own nD, p0⟩, ?_⟩
  rintro i m H' ⟨rfl, hi, M', rm, le, w⟩
  obtain ⟨go, stop⟩ := it H' M' le rm
  by_cases hlt : i < items.length
  · obtain ⟨g1, y1⟩ := go i hlt
    refine .inr ⟨g1, fun H2 => ∃ M2, RepM X.K H2 M2 ∧ Le H1 M1 H2 M2 ∧ P (i + 1) M2, fun H2 h => ⟨_, by omega, rfl, hlt, h⟩, fun v H2 y => ?_⟩
    obtain ⟨ly, my, x, ex, rx⟩ := y1 v H2 y
    have rs : RepS X.K (hide H2 M') (L2.wipe σ vs) (wipeD sl vs) := (hs.sub (l1.trans (le.trans ly))).wipe vs
    refine ⟨x, _, M', _, rs, my, rx, step i x M' ex w, fun sl2 M2 h2 σ2 H3 l3 m3 r3 len fr => ⟨wipe_same len fr sub, sl2, M2, _, r3, m3, h2, fun kk M3 h3 H4 l4 m4 => ?_⟩⟩
    have lt := le.trans (ly.trans (l3.trans l4))
    cases kk with
    | false => exact ⟨M3, m4, lt, h3⟩
    | true =>
      refine ⟨sl2, M3, _, r3.sub l4, m4, h3, fun yv M5 h5 u H5 l5 m5 r5 => ⟨sl2, M5, _, (r3.sub l4).sub l5, m5, h5, fun zv M6 h6 u6 H6 l6 m6 r6 => ?_⟩⟩
      obtain ⟨key, ek, h6⟩ := optP_elim h6
      obtain ⟨acc, ea, h6⟩ := getD_elim h6
      obtain ⟨av, ha, ra⟩ := m6 D _ ea
      exact ⟨av, key, keyV_rv (RV.sub l6 r5) ek, ha, by rw [RKv.len ra]; exact h6.1, _, rep_writeO (mo := .dk (putD acc key zv)) m6 ea ⟨_, upd_same, RKv.put r6 ra⟩, ((lt.trans l5).trans l6).trans (le_write ea), h6.2⟩
  · have e : i = items.length := by omega
    subst e
    obtain ⟨kvs, ex, hf⟩ := getD_elim (fin M' w)
    obtain ⟨kds, ed, hf2⟩ := optP_elim hf
    exact .inl ⟨stop, k _ _ hf2 _ _ (l1.trans (le.trans (le_del (K := X.K)))) (rep_del rm) (rd_free rm ex ed)⟩
theorem de_dc {kx vx tg iter : Expr} {ifs : List Expr} {scope : Scope} {own : List (Str × Nat)} {pos : Pos} {wi : TID} {ss : List Nat} {g : TGD} {tt : TTD} (hc : X.calm = true) (hN : X.N.Nodup) (hi : DI X tg iter wi) (ok : BlkOk X.N X.env.scope scope own)
    (hg : ∀ (s : Shared) (H : Hp) (C : Addr) (cl : List (Str × Addr)) (fp : List Addr), DG (X.blk s H scope (compEnvC scope cl C X.env) fp) tg ss g)
    (ht : ∀ (s : Shared) (H : Hp) (C : Addr) (cl : List (Str × Addr)) (fp : List Addr), DTs (X.blk s H scope (compEnvC scope cl C X.env) fp) ifs tt)
    (hk : ∀ (s : Shared) (H : Hp) (C : Addr) (cl : List (Str × Addr)) (fp : List Addr), DE (X.blk s H scope (compEnvC scope cl C X.env) fp) kx tk)
    (he : ∀ (s : Shared) (H : Hp) (C : Addr) (cl : List (Str × Addr)) (fp : List Addr), DE (X.blk s H scope (compEnvC scope cl C X.env) fp) vx tv)
    (sub : ∀ j ∈ ss, j ∈ own.map (·.2)) (hs : ∀ x, foldedSetIterable iter X.env x = pure x := by intro _; rfl) :
    DE X (.DictComp kx vx [⟨tg, iter, ifs, 0⟩] scope pos) (dDc wi g tt tk tv (own.map (·.2))) :=
  PE.imp (pe_dc hc hN hi ok hg ht hk he hs) fun _ _ _ h => dc_imp sub h
theorem ds_setDc {i : Nat} {y : Str} {py spos : Pos} {kx vx tg iter : Expr} {ifs : List Expr} {scope : Scope} {own : List (Str × Nat)} {pos : Pos} {wi : TID} {ss : List Nat} {g : TGD} {tt : TTD} (hc : X.calm = true) (hN : X.N.Nodup) (hy : X.N[i]? = some y) (hyl : X.env.scope.names.lookup y = some .local)
    (hsw : swapsWith (.DictComp kx vx [⟨tg, iter, ifs, 0⟩] scope pos) (some (.Name y py)) spos.line X.env = pure true) (hi : DI X tg iter wi) (ok : BlkOk X.N X.env.scope scope own)
    (hg : ∀ (s : Shared) (H : Hp) (C : Addr) (cl : List (Str × Addr)) (fp : List Addr), DG (X.blk s H scope (compEnvC scope cl C X.env) fp) tg ss g)
    (ht : ∀ (s : Shared) (H : Hp) (C : Addr) (cl : List (Str × Addr)) (fp : List Addr), DTs (X.blk s H scope (compEnvC scope cl C X.env) fp) ifs tt)
    (hk : ∀ (s : Shared) (H : Hp) (C : Addr) (cl : List (Str × Addr)) (fp : List Addr), DE (X.blk s H scope (compEnvC scope cl C X.env) fp) kx tk)
    (he : ∀ (s : Shared) (H : Hp) (C : Addr) (cl : List (Str × Addr)) (fp : List Addr), DE (X.blk s H scope (compEnvC scope cl C X.env) fp) vx tv)
    (sub : ∀ j ∈ ss, j ∈ own.map (·.2)) (hs : ∀ x, foldedSetIterable iter X.env x = pure x := by intro _; rfl) :
    DS X (.Assign [.Name y py] (.DictComp kx vx [⟨tg, iter, ifs, 0⟩] scope pos) spos) (dSet i (dDc wi g tt tk tv (own.map (·.2)))) :=
  PS.imp (ps_setDc hc hN hy hyl hsw hi ok hg ht hk he hs) fun D σ H ⟨sl, M, E, hs, hm, ht, kn, kr, kb, kc⟩ => dc_imp sub ⟨sl, M, _, hs, hm, ht, fun x M1 h1 v H1 l1 m1 r1 => kn _ M1 h1 _ H1 l1 m1 ((hs.sub l1).set i r1)⟩
end
/-! ### {k: v, ..} -/
def dPairs : List (TD × TD) → Slots → Mem → (List (DV × DV) → Mem → Prop) → Prop
  | [], _, M, R => R [] M
  | (tk, tv) :: r, sl, M, R => tk sl M fun x M1 => tv sl M1 fun y M2 => dPairs r sl M2 fun ps M3 => R ((x, y) :: ps) M3
theorem pairs_imp {σ : L2.St} {sl : Slots} : ∀ (trs : List (TD × TD)) {H : Hp} {M : Mem} {R : List (DV × DV) → Mem → Prop} {Q : List (V × V) → Hp → Prop}, RepS X.K (hide H M) σ sl → RepM X.K H M → dPairs trs sl M R →
    (∀ ps M', R ps M' → ∀ vs H', Le H M H' M' → RepM X.K H' M' → Paired (fun (v : V × V) (x : DV × DV) => RV X.K (hide H' M') v.1 x.1 ∧ RV X.K (hide H' M') v.2 x.2) vs ps → Q vs H') → tPairs (trs.map fun t => (liftE X.K t.1, liftE X.K t.2)) σ H Q
  | [], H, M, R, Q, hs, hm, ht, k => k [] M ht [] H (Le.refl _ _) hm .nil
  | (tk, tv) :: r, H, M, R, Q, hs, hm, ht, k => ⟨sl, M, _, hs, hm, ht, fun x M1 h1 v H1 l1 m1 r1 => ⟨sl, M1, _, hs.sub l1, m1, h1, fun y M2 h2 u H2 l2 m2 r2 => pairs_imp r (hs.sub (l1.trans l2)) m2 h2 fun ps M3 h3 vs H3 l3 m3 r3 =>
      k _ M3 h3 _ H3 ((l1.trans l2).trans l3) m3 (.cons ⟨RV.sub (l2.trans l3) r1, RV.sub l3 r2⟩ r3)⟩⟩
def keyPs : List (DV × DV) → Option (List (Key × DV))
  | [] => some []
  | (x, y) :: r => match keyV x, keyPs r with
    | some k, some q => some ((k, y) :: q)
    | _, _ => none
def mergeD (kvs more : List (Key × DV)) : List (Key × DV) := more.foldl (fun acc kv => putD acc kv.1 kv.2) kvs
theorem RKv.merge {K : PySem.W.Frag} {H : Hp} : ∀ {ws : List (Key × V)} {ys : List (Key × DV)} {vs : List (Key × V)} {xs : List (Key × DV)}, RKv K H ws ys → RKv K H vs xs → RKv K H (mergeK vs ws) (mergeD xs ys)
  | _, _, _, _, .nil, s => s
  | (k, v) :: ws, (k', y) :: ys, vs, xs, .cons h t, s => by
    have hk : k = k' := h.1
    subst hk
    exact RKv.merge (vs := putK vs k v) (xs := putD xs k y) t (RKv.put h.2 s)
theorem keyPs_rv {K : PySem.W.Frag} {H : Hp} : ∀ {vs : List (V × V)} {ps : List (DV × DV)} {kvs : List (Key × DV)}, Paired (fun (v : V × V) (x : DV × DV) => RV K H v.1 x.1 ∧ RV K H v.2 x.2) vs ps → keyPs ps = some kvs → ∃ kws, vs = kws.map (fun kv => (kV kv.1, kv.2)) ∧ RKv K H kws kvs
  | _, _, _, .nil, e => by cases e; exact ⟨[], rfl, .nil⟩
  | v :: vs, (x, y) :: ps, kvs, .cons h t, e => by
    unfold keyPs at e
    split at e
    · rename_i k q ek eq
      cases e
      obtain ⟨kws, e1, r⟩ := keyPs_rv t eq
      refine ⟨(k, v.2) :: kws, ?_, .cons ⟨rfl, h.2⟩ r⟩
      rw [List.map_cons, e1, ← keyV_rv h.1 ek]
    · cases e
def dDisp (trs : List (TD × TD)) : TD := fun sl M R => ∀ p, M p = none → dPairs trs sl (updM M p (.dk [])) fun ps M2 => M2 p = some (.dk []) ∧ optP (keyPs ps) fun kvs => kvs.length ≤ 15 ∧ optP (allKv (mergeD [] kvs)) fun kds => R (.d (.dict kds)) (delM M2 p)
theorem delM_upd2 {M : Mem} {q : Addr} {o : MO} : delM (updM M q o) q = delM M q := by
  funext a
  unfold delM updM
  by_cases h : a = q
  · rw [if_pos h, if_pos h]
  · rw [if_neg h, if_neg h, if_neg h]
theorem de_disp {keys : List (Option Expr)} {values : List Expr} {trs : List (TD × TD)} {pos : Pos} (h : PPs X pos keys values (trs.map fun t => (liftE X.K t.1, liftE X.K t.2))) (hall : keys.all (·.isSome) = true := by rfl) (hl : keys.length = values.length := by rfl) (h0 : keys ≠ [] := by simp)
    (h15 : keys.length ≤ 15 := by decide) : DE X (.Dict keys values pos) (dDisp trs) :=
  PE.imp (pe_disp h hall hl h0 h15) fun σ H Q ⟨sl, M, R, hs, hm, ht, k⟩ => fun p n => by
    refine pairs_imp trs (hs.sub (le_own n)) (rep_ownO (mo := .dk []) hm n ⟨[], upd_same, .nil⟩) (ht p (own_none hm n)) fun ps M2 h2 vs H2 l2 m2 r2 => ?_
    obtain ⟨ep, h2⟩ := h2
    obtain ⟨kvs, ek, hl, h2⟩ := optP_elim h2
    obtain ⟨kds, ed, h2⟩ := optP_elim h2
    obtain ⟨kws, e1, rk⟩ := keyPs_rv r2 ek
    obtain ⟨av, ha, ra⟩ := m2 p _ ep
    cases ra
    have rm : RepM X.K (upd H2 p (.dK (mergeK [] kws))) (updM M2 p (.dk (mergeD [] kvs))) := rep_writeO m2 ep ⟨_, upd_same, RKv.merge rk .nil⟩
    refine ⟨ha, kws, e1, by rw [RKv.len rk]; exact hl, ?_⟩
    have l3 : Le H2 M2 (upd H2 p (.dK (mergeK [] kws))) (updM M2 p (.dk (mergeD [] kvs))) := le_write ep
    have h2' : R (.d (.dict kds)) (delM (updM M2 p (.dk (mergeD [] kvs))) p) := by rw [delM_upd2]; exact h2
    exact k _ _ h2' _ _ ((le_own n).trans ((l2.trans l3).trans (le_del (K := X.K)))) (rep_del rm) (rd_free rm updM_same ed)
/-! ### k in d, d.get(k, x) -/
variable {a b c : Expr} {ta tb tc : TD} {pos : Pos}
theorem inK_imp {neg : Bool} {σ : L2.St} {H : Hp} {Q : VK} (h : liftE X.K (dOp (inK neg) ta tb) σ H Q) :
    liftE X.K ta σ H fun y H1 => liftE X.K tb σ H1 fun x H2 => ∃ a o, x = .ref a ∧ DGet H2 a y o ∧ Q (.bl (if neg then !o.isSome else o.isSome)) H2 := by
  obtain ⟨sl, M, R, hs, hm, ht, k⟩ := h
  refine ⟨sl, M, _, hs, hm, ht, fun y M1 h1 v H1 l1 m1 r1 => ⟨sl, M1, _, hs.sub l1, m1, h1, fun x M2 h2 u H2 l2 m2 r2 => ?_⟩⟩
  unfold inK at h2
  split at h2
  · obtain ⟨key, e1, h2⟩ := optP_elim h2
    have r1 := RV.sub l2 r1
    have ey := keyOf_rd (K := X.K) r1 e1
    cases r2 with
    | dct q1 q2 =>
      rcases RKs.look (key := key) q2 with ⟨d', v', f1, f2, f3⟩ | ⟨f1, f2⟩
      · refine ⟨_, some v', rfl, .inl ⟨_, key, .inl (hide_sub _ _ _ _ q1), ey, f2.symm⟩, ?_⟩
        rw [f1] at h2
        exact k _ M2 h2 _ H2 (l1.trans l2) m2 (.bl _)
      · refine ⟨_, none, rfl, .inl ⟨_, key, .inl (hide_sub _ _ _ _ q1), ey, f2.symm⟩, ?_⟩
        rw [f1] at h2
        exact k _ M2 h2 _ H2 (l1.trans l2) m2 (.bl _)
  · exact h2.elim
theorem de_inK {n : Nat} (hr : Room n X.A) (ha : DE X a ta) (hb : DE X b tb) (hm : behindInMarks .In b = false := by rfl) : DE X (.Compare a [.In] [b] pos) (dOp (inK false) ta tb) :=
  PE.imp (pe_cmp (pc_din (by have := hr.units; omega) ha hb) hm) fun σ H Q h => inK_imp h
theorem de_ninK {n : Nat} (hr : Room n X.A) (ha : DE X a ta) (hb : DE X b tb) (hm : behindInMarks .NotIn b = false := by rfl) : DE X (.Compare a [.NotIn] [b] pos) (dOp (inK true) ta tb) :=
  PE.imp (pe_cmp (pc_dnotin (by have := hr.units; omega) ha hb) hm) fun σ H Q h => inK_imp h
theorem dt_inK {n : Nat} (hr : Room n X.A) (ha : DE X a ta) (hb : DE X b tb) (hm : behindInMarks .In b = false := by rfl) : DT X (.Compare a [.In] [b] pos) (dB (dOp (inK false) ta tb)) :=
  PT.imp (pt_cmp (pc_din (by have := hr.units; omega) ha hb) hm) fun σ H Q h => inK_imp (dB_imp h)
theorem dt_ninK {n : Nat} (hr : Room n X.A) (ha : DE X a ta) (hb : DE X b tb) (hm : behindInMarks .NotIn b = false := by rfl) : DT X (.Compare a [.NotIn] [b] pos) (dB (dOp (inK true) ta tb)) :=
  PT.imp (pt_cmp (pc_dnotin (by have := hr.units; omega) ha hb) hm) fun σ H Q h => inK_imp (dB_imp h)
def isDict : DV → Prop
  | .d (.dict _) => True
  | _ => False
def lookOr (kds : List (PyData × PyData)) (k : Key) (z : DV) : DV := match lookD kds k with
  | some v => .d v
  | none => z
def getKG : DV → DV → DV → Mem → KD → Prop
  | .d (.dict kds), .d y, z, M, R => optP (keyOf y) fun k => R (lookOr kds k z) M
  | _, _, _, _, _ => False
def dGetK (ta tb tc : TD) : TD := fun sl M R => ta sl M fun x M1 => isDict x ∧ tb sl M1 fun y M2 => tc sl M2 fun z M3 => getKG x y z M3 R
theorem de_getK {n : Nat} {apos : Pos} (hr : Room n X.A) (ha : DE X a ta) (hb : DE X b tb) (hc : DE X c tc) (m : M2 X a "get" apos b c pos := by exact ⟨rfl, rfl, rfl, rfl⟩) : DE X (.Call (.Attribute a "get" apos) [b, c] [] pos) (dGetK ta tb tc) :=
  PE.imp (pe_dget2 (by have := hr.units; omega) ha hb hc m) fun σ H Q ⟨sl, M, R, hs, hm, ht, k⟩ => ⟨sl, M, _, hs, hm, ht, fun x M1 h1 v H1 l1 m1 r1 => by
    obtain ⟨hd, h1⟩ := h1
    match x, hd with
    | .d (.dict kds), _ =>
      have r1' : RD X.K (hide H1 M1) v (.dict kds) := r1
      cases r1' with
      | dct q1 q2 =>
        refine ⟨_, rfl, .inl ⟨_, .inl (hide_sub _ _ _ _ q1)⟩, sl, M1, _, hs.sub l1, m1, h1, fun y M2 h2 u H2 l2 m2 r2 => ⟨sl, M2, _, hs.sub (l1.trans l2), m2, h2, fun z M3 h3 w' H3 l3 m3 r3 => ?_⟩⟩
        match y, h3 with
        | .d y, h3 =>
          obtain ⟨key, e1, h3⟩ := optP_elim h3
          have ey := keyOf_rd (K := X.K) (RV.sub l3 r2) e1
          have q1' := l3 _ _ (l2 _ _ q1)
          have l := (l1.trans l2).trans l3
          unfold lookOr at h3
          rcases RKs.look (key := key) (RKs.sub (Sub.trans l2 l3) q2) with ⟨d', v', f1, f2, f3⟩ | ⟨f1, f2⟩
          · refine ⟨some v', .inl ⟨_, key, .inl (hide_sub _ _ _ _ q1'), ey, f2.symm⟩, ?_⟩
            rw [f1] at h3
            exact k _ M3 h3 _ H3 l m3 f3
          · refine ⟨none, .inl ⟨_, key, .inl (hide_sub _ _ _ _ q1'), ey, f2.symm⟩, ?_⟩
            rw [f1] at h3
            exact k _ M3 h3 _ H3 l m3 r3⟩
/-! ### x[::-1] of a list of data -/
def revD : DV → Mem → KD → Prop
  | .d (.list xs), M, R => R (.d (.list xs.reverse)) M
  | _, _, _ => False
theorem RDs.rev {K : PySem.W.Frag} {H : Hp} : ∀ {vs : List V} {ds : List PyData}, RDs K H vs ds → RDs K H vs.reverse ds.reverse
  | _, _, .nil => .nil
  | _, _, .cons h t => by
    rw [List.reverse_cons, List.reverse_cons]
    exact (RDs.rev t).append (.cons h .nil)
theorem de_rev {j : Nat} {p1 p2 p3 : Pos} (ha : DE X a ta) : DE X (.Subscript a (.Slice none none (some (.UnaryOp .USub (.Constant (.int 1) j p1) p2)) p3) pos) (dUn revD ta) :=
  PE.imp (pe_revL ha) fun σ H Q ⟨sl, M, R, hs, hm, ht, k⟩ => ⟨sl, M, _, hs, hm, ht, fun x M1 h1 v H1 l1 m1 r1 => by
    match x, h1 with
    | .d (.list xs), h1 =>
      have r1' : RD X.K (hide H1 M1) v (.list xs) := r1
      cases r1' with
      | lst q1 q2 => exact ⟨_, _, rfl, SqL.of (hide_sub _ _ _ _ q1), fun p n => kt_new (k.le l1) m1 n h1 (rd_lstN m1 n (RDs.rev q2))⟩⟩
/-! ### len(set(x)), x a list of tuples of ints -/
def tupsD : List PyData → Option (List (List Int))
  | [] => some []
  | .tuple x :: r => match intsD x, tupsD r with
    | some n, some q => some (n :: q)
    | _, _ => none
  | _ :: _ => none
theorem tupsD_of (ks : List (List Int)) : tupsD (ks.map fun k => .tuple (dI k)) = some ks := by
  induction ks with
  | nil => rfl
  | cons k r ih =>
    show (match intsD (dI k), tupsD (r.map fun k => .tuple (dI k)) with | some n, some q => some (n :: q) | _, _ => none) = _
    rw [ih, intsD_of]
theorem tupsD_rd {K : PySem.W.Frag} {H : Hp} : ∀ {vs : List V} {ds : List PyData} {ks : List (List Int)}, RDs K H vs ds → tupsD ds = some ks → ∃ as : List (Addr × List Int), vs = as.map (fun p => V.ref p.1) ∧ as.map (·.2) = ks ∧ ∀ p ∈ as, SqT K H p.1 (p.2.map V.int)
  | _, _, _, .nil, e => by cases e; exact ⟨[], rfl, rfl, fun p hp => (by cases hp)⟩
  | v :: vs, d :: ds, ks, .cons h t, e => by
    cases d with
    | tuple x =>
      unfold tupsD at e
      split at e
      · rename_i n q en eq
        cases e
        obtain ⟨as, e1, e2, e3⟩ := tupsD_rd t eq
        have ex := intsD_map en
        subst ex
        cases h with
        | tup q1 q2 =>
          have ev := rds_ints q2
          subst ev
          refine ⟨(_, n) :: as, by rw [List.map_cons, e1], by rw [List.map_cons, e2], fun p hp => ?_⟩
          rcases List.mem_cons.mp hp with hp | hp
          · rw [hp]; exact q1.t
          · exact e3 p hp
      · cases e
    | _ => cases e
def lenSetG : DV → Mem → KD → Prop
  | .d (.list xs), M, R => optP (tupsD xs) fun ks => ks.length < 64 ∧ ∀ L : List (List Int), L.Nodup → (∀ k, k ∈ L ↔ k ∈ ks) → R (.d (.int (L.length : Nat))) M
  | _, _, _ => False
theorem de_lenSet {n : Nat} {p p2 q : Pos} (hr : Room n X.A) (hc : X.calm = true) (hg : Gl X "len") (hm : X.mg "len" = none) (hg2 : Gl X "set") (hm2 : X.mg "set" = none) (ha : DE X a ta)
    (na : starEach [a] X.env = (false, eval a X.env) :: starEach [] X.env := by rfl) : DE X (.Call (.Name "len" p) [.Call (.Name "set" p2) [a] [] q] [] pos) (dUn lenSetG ta) := by
  refine ⟨fun pins s σ H Q I ⟨sl, M, R, hs, hM, ht, k⟩ => ?_⟩
  refine Call_ (ld_blt I hg hm boot_len (callWith_builtin1 (args_cons ?_ rfl) rfl rfl))
  refine Call_ (ld_blt I hg2 hm2 boot_set (callWith_type1 (args_cons (thn (ha.run pins s σ H _ I ⟨sl, M, _, hs, hM, ht, fun x M1 h1 v H1 l1 m1 r1 => (show ∃ (l : Addr) (ks : List (Addr × List Int)), v = .ref l ∧ SqL X.K H1 l (ks.map fun p => V.ref p.1) ∧ (∀ p ∈ ks, SqT X.K H1 p.1 (p.2.map V.int)) ∧ ks.length < 64 ∧ ∀ L : List (List Int), L.Nodup → (∀ k, k ∈ L ↔ k ∈ ks.map (·.2)) → Q (.int (L.length : Nat)) H1 from ?_)⟩) fun v s1 ⟨x, H1, I1, r1, q1⟩ => args_nil ?_) na) na rfl))
  · match x, h1 with
    | .d (.list xs), h1 =>
      obtain ⟨ks, e, hl, h1⟩ := optP_elim h1
      have r1' : RD X.K (hide H1 M1) v (.list xs) := r1
      cases r1' with
      | lst g1 g2 =>
        obtain ⟨as, e1, e2, e3⟩ := tupsD_rd g2 e
        subst e1
        refine ⟨_, as, rfl, SqL.of (hide_sub _ _ _ _ g1), fun p hp => sqT_sub (hide_sub _ _) (e3 p hp), by rw [← List.length_map (f := (·.2)), e2]; exact hl, fun L n1 n2 => k _ M1 (h1 L n1 (by rw [← e2]; exact n2)) _ H1 l1 m1 (.int _)⟩
  · obtain ⟨l, ks, rfl, hl, hk, hf, q1⟩ := q1
    cases r1
    obtain ⟨its, rv, pl, hz⟩ := I1.list hl
    refine call_set_tups (P := X.prog) (w := X.w) ks (I1.ok.hd hc) pl.isList (by simpa using refs_of_vals rv) (fun p hp => I1.isT (hk p hp)) hf (by have := hr.units; omega) fun h' tk L es ep t R' g kp => args_nil ?_
    obtain ⟨o, ho, hex, hd⟩ := R'.ob
    have hsz := SetTR.size (s := { s1 with heap := h', toks := tk }) R'
    have hft := SetTR.fits (s := { s1 with heap := h', toks := tk }) R'
    refine call_len_set (s := { s1 with heap := h', toks := tk }) ho hex hd hft (by rw [hsz]; have := R'.few; omega) ?_
    have I2 : Inv X pins σ H1 { s1 with heap := h', toks := tk } := I1.kept kp
    refine ⟨.int ((L.map (·.2)).length : Nat), H1, I2.tok _, ⟨_, by rw [List.length_map, hsz]⟩, q1 _ R'.nd fun k => ⟨fun hk => ?_, fun hk => ?_⟩⟩
    · obtain ⟨p, hp, rfl⟩ := List.mem_map.mp hk
      exact List.mem_map.mpr ⟨p, List.mem_of_mem_take (g.sub p hp), rfl⟩
    · obtain ⟨p, hp, rfl⟩ := List.mem_map.mp hk
      exact g.all p (by rw [List.take_length]; exact hp)
end
end DL

/-! The data layer: an owned list frozen as a value, walked, shown, cleared; comprehensions with two fors. -/
namespace DL
open PySem PySem.Spec PyProof.Rows L2
section
variable {X : Cx} {a b c e : Expr} {pos : Pos} {ta tb te : TD}
/-- an owned list becomes data -/
def dFrz (te : TD) : TD := fun sl M R => te sl M fun x M1 => match x with
  | .raw (.ref p) => getL M1 p fun xs => optP (allD xs) fun ds => R (.d (.list ds)) (delM M1 p)
  | _ => False
theorem rd_freeL {K : PySem.W.Frag} {H : Hp} {M : Mem} {p : Addr} {ds : List PyData} (rm : RepM K H M) (e : M p = some (.lst (ds.map DV.d))) : RD K (hide H (delM M p)) (.ref p) (.list ds) := by
  obtain ⟨vs, hv, rv⟩ := rm p _ e
  have ld : Le H M H (delM M p) := le_del (K := K)
  exact .lst (hide_of hv delM_same) (RDs.sub ld (RVs.data rv))
theorem frz_imp {σ : L2.St} {H : Hp} {Q : VK} (h : liftE X.K (dFrz te) σ H Q) : liftE X.K te σ H Q := by
  obtain ⟨sl, M, R, hs, hm, ht, k⟩ := h
  refine ⟨sl, M, _, hs, hm, ht, fun x M1 h1 v H1 l1 m1 r1 => ?_⟩
  match x, h1 with
  | .raw (.ref p), h1 =>
    obtain ⟨xs, e, h2⟩ := getL_elim h1
    obtain ⟨ds, ed, h3⟩ := optP_elim h2
    have ed' := allD_map ed
    rw [ed'] at e
    have r1' : v = .ref p := r1
    subst r1'
    exact k _ _ h3 _ _ (l1.trans (le_del (K := X.K))) (rep_del m1) (rd_freeL m1 e)
theorem de_frz (h : DE X e te) : DE X e (dFrz te) := PE.imp h fun _ _ _ h => frz_imp h
/-- repr of data or of an owned list of data -/
def reprG : GC
  | [.d x], M, R => reprD x M R
  | [.raw (.ref p)], M, R => getL M p fun xs => optP (allD xs) fun ds => reprD (.list ds) M R
  | _, _, _ => False
theorem cd_reprG {k : Nat} (hr : Room k X.A) (hgd : X.A.guards = some []) : CallD X (.builtin "repr") reprG := by
  intro pins s σ H vs us Q I r hh
  obtain ⟨xs, M, R, hm, rv, hg, k⟩ := hh
  match xs, hg with
  | [.d x], hg => exact cd_repr hr hgd pins s σ H vs us Q I r ⟨[.d x], M, R, hm, rv, hg, k⟩
  | [.raw (.ref p)], hg =>
    obtain ⟨xs, e, hg2⟩ := getL_elim hg
    obtain ⟨ds, ed, hg3⟩ := optP_elim hg2
    have ed' := allD_map ed
    rw [ed'] at e
    cases rv with
    | cons r1 r2 =>
      cases r2
      cases r1
      cases r with
      | cons q1 q2 =>
        cases q2
        obtain ⟨h1, h2, h3, h4, hg⟩ := hg3
        have hu := hr.units
        obtain ⟨as, rd, hn⟩ := RD.readsI I (RD.sub (hide_sub _ _) (rd_freeL hm e)) _ q1
        cases q1
        exact repr_of_reads' rd h1 (fun q => hn (h4 q)) hgd (by omega) (fun _ _ e => e) (fun h' u tk hk => ⟨.str _, H, I.kept hk, ⟨_, rfl⟩, kt_same k hm hg (.str _)⟩) h3
/-- x.clear(), x an owned list -/
def dClear (to : TD) : TSD := fun D sl M => to sl M fun o M1 => match o with
  | .raw (.ref p) => getL M1 p fun _ => D.nx sl (updM M1 p (.lst []))
  | _ => False
theorem ds_clear {o : Expr} {to : TD} {apos cpos : Pos} (ho : DE X o to)
    (h : ∀ {t1 : TE}, PE X o t1 → PS X (.Expr (.Call (.Attribute o "clear" apos) [] [] cpos) pos) (tDrop (tBM0 X.K "list" rClear t1)) := by
      intro t1 q1; exact ps_expr (pe_bm0 PySem.F.plainAttrs_list PySem.F.slot_list_clear PySem.F.type_list_clear mt_clear q1)) :
    DS X (.Expr (.Call (.Attribute o "clear" apos) [] [] cpos) pos) (dClear to) :=
  PS.imp (h ho) fun D σ H ⟨sl, M, E, hs, hm, ht, kn, kr, kb, kc⟩ => ⟨sl, M, _, hs, hm, ht, fun o M1 h1 ov H1 l1 m1 r1 => by
    match o, h1 with
    | .raw (.ref p), h1 =>
      obtain ⟨ys, ey, h1⟩ := getL_elim h1
      have r1' : ov = .ref p := r1
      subst r1'
      obtain ⟨ws, hw, rws⟩ := m1 p _ ey
      exact ⟨.inl ⟨rfl, ws, SqL.of hw⟩, p, ws, rfl, rfl, hw, kn _ _ h1 _ _ (l1.trans (le_write ey)) (rep_write m1 ey .nil) (hs.sub (l1.trans (le_write ey)))⟩⟩
/-! ### walks of lists whose items are any values -/
theorem it_listV {K : PySem.W.Frag} {H : Hp} {M : Mem} {a : Addr} {xs : List V} {ds : List DV} (h : hide H M a = some (.lst xs)) (r : RVs K (hide H M) xs ds) : ItOk K H M (Itl K a) ds := fun H1 M1 l m => by
  have h1 : SqL K H1 a xs := SqL.of (hide_sub _ _ _ _ (l _ _ h))
  have len := RVs.len r
  refine ⟨fun i hi => ⟨⟨xs, xs[i], h1, List.getElem?_eq_getElem (by omega)⟩, fun v H2 y => ?_⟩, ⟨xs, h1, by omega⟩⟩
  obtain ⟨rfl, y⟩ := y
  obtain ⟨d, ed, rd⟩ := RVs.getV r (y xs h1)
  exact ⟨Le.refl _ _, m, d, ed, RV.sub l rd⟩
/-- an owned list is walked: it is given up -/
def diOwn (te : TD) : TID := fun sl M R => te sl M fun x M1 => match x with
  | .raw (.ref p) => getL M1 p fun xs => R xs (delM M1 p)
  | _ => False
theorem di_own {tg l : Expr} (hl : DE X l te) : DI X tg l (diOwn te) :=
  PI.imp (pi_seq hl) fun σ H R ⟨sl, M, RR, hs, hm, ht, k⟩ => ⟨sl, M, _, hs, hm, ht, fun x M1 h1 v H1 l1 m1 r1 => by
    match x, h1 with
    | .raw (.ref p), h1 =>
      obtain ⟨xs, e, h1⟩ := getL_elim h1
      have r1' : v = .ref p := r1
      subst r1'
      obtain ⟨vs, hv, rv⟩ := m1 p _ e
      have ld : Le H1 M1 H1 (delM M1 p) := le_del (K := X.K)
      exact .inl ⟨_, rfl, ⟨_, SqL.of hv⟩, k _ _ h1 _ H1 (l1.trans ld) (rep_del m1) (it_listV (hide_of hv delM_same) (RVs.sub ld rv))⟩⟩
/-! ### two fors -/
def dLc2O (wi : TID) (g : TGD) (tt : TTD) (wi1 : TID) (g1 : TGD) (tt1 : TTD) (te : TD) (vs vs1 : List Nat) : TD := fun sl M R => wi sl M fun items M1 => ∀ p, M1 p = none → ∃ P : Nat → Mem → Prop, P 0 (updM M1 p (.lst [])) ∧
  (∀ i x M, items[i]? = some x → P i M → g x (wipeD sl vs) M fun sl2 M2 => tt sl2 M2 fun k M3 => if k = true then wi1 sl2 M3 fun items1 M4 => ∃ P1 : Nat → Mem → Prop, P1 0 M4 ∧
      (∀ j y M, items1[j]? = some y → P1 j M → g1 y (wipeD sl2 vs1) M fun sl3 M5 => tt1 sl3 M5 fun k M6 => if k = true then te sl3 M6 fun z M7 => getL M7 p (fun acc => acc.length < sizeLine ∧ P1 (j + 1) (updM M7 p (.lst (acc ++ [z])))) else P1 (j + 1) M6) ∧
      ∀ M, P1 items1.length M → P (i + 1) M else P (i + 1) M3) ∧
  ∀ M, P items.length M → R (.raw (.ref p)) M
theorem lc2_imp {wi wi1 : TID} {ss ss1 vs vs1 : List Nat} {g g1 : TGD} {tt tt1 : TTD} {σ : L2.St} {H : Hp} {Q : VK} (sub : ∀ j ∈ ss, j ∈ vs) (sub1 : ∀ j ∈ ss1, j ∈ vs1) (h : liftE X.K (dLc2O wi g tt wi1 g1 tt1 te vs vs1) σ H Q) :
    tLc2 (liftI X.K wi) (liftG X.K ss g) (liftT X.K tt) (liftI X.K wi1) (liftG X.K ss1 g1) (liftT X.K tt1) (liftE X.K te) vs vs1 σ H Q := by
  obtain ⟨sl, M, R, hs, hm, ht, k⟩ := h
  refine ⟨sl, M, _, hs, hm, ht, fun items M1 h1 J H1 l1 m1 it D nD => ?_⟩
  obtain ⟨P, p0, step, fin⟩ := h1 D (own_none m1 nD)
  refine ⟨fun i m H' => m = items.length - i ∧ i ≤ items.length ∧ ∃ M', RepM X.K H' M' ∧ Le H1 M1 H' M' ∧ P i M', ⟨_, rfl, Nat.zero_le _, _, rep_own m1 nD .nil, le_own nD, p0⟩, ?_⟩
  rintro i m H' ⟨rfl, hi, M', rm, le, w⟩
  obtain ⟨go, stop⟩ := it H' M' le rm
  by_cases hlt : i < items.length
  · obtain ⟨g1', y1⟩ := go i hlt
    refine .inr ⟨g1', fun H2 => ∃ M2, RepM X.K H2 M2 ∧ Le H1 M1 H2 M2 ∧ P (i + 1) M2, fun H2 h => ⟨_, by omega, rfl, hlt, h⟩, fun v H2 y => ?_⟩
    obtain ⟨ly, my, x, ex, rx⟩ := y1 v H2 y
    have rs : RepS X.K (hide H2 M') (L2.wipe σ vs) (wipeD sl vs) := (hs.sub (l1.trans (le.trans ly))).wipe vs
    refine ⟨x, _, M', _, rs, my, rx, step i x M' ex w, fun sl2 M2 h2 σ2 H3 l3 m3 r3 len fr => ⟨wipe_same len fr sub, sl2, M2, _, r3, m3, h2, fun kk M3 h3 H4 l4 m4 => ?_⟩⟩
    have lt := le.trans (ly.trans (l3.trans l4))
    cases kk with
    | false => exact ⟨M3, m4, lt, h3⟩
    | true =>
      have r4 := r3.sub l4
      refine ⟨sl2, M3, _, r4, m4, h3, fun items1 M4 h5 J1 H5 l5 m5 it1 => ?_⟩
      obtain ⟨P1, p10, step1, fin1⟩ := h5
      refine ⟨fun j m H' => m = items1.length - j ∧ j ≤ items1.length ∧ ∃ M', RepM X.K H' M' ∧ Le H5 M4 H' M' ∧ P1 j M', ⟨_, rfl, Nat.zero_le _, _, m5, Le.refl _ _, p10⟩, ?_⟩
      rintro j m H6 ⟨rfl, hj, M6, rm6, le6, w6⟩
      obtain ⟨go1, stop1⟩ := it1 H6 M6 le6 rm6
      by_cases hlt1 : j < items1.length
      · obtain ⟨g2', y2⟩ := go1 j hlt1
        refine .inr ⟨g2', fun H2 => ∃ M2, RepM X.K H2 M2 ∧ Le H5 M4 H2 M2 ∧ P1 (j + 1) M2, fun H2 h => ⟨_, by omega, rfl, hlt1, h⟩, fun v7 H7 y7 => ?_⟩
        obtain ⟨ly7, my7, x7, ex7, rx7⟩ := y2 v7 H7 y7
        have rs7 : RepS X.K (hide H7 M6) (L2.wipe σ2 vs1) (wipeD sl2 vs1) := (r4.sub (l5.trans (le6.trans ly7))).wipe vs1
        refine ⟨x7, _, M6, _, rs7, my7, rx7, step1 j x7 M6 ex7 w6, fun sl8 M8 h8 σ8 H8 l8 m8 r8 len8 fr8 => ⟨wipe_same len8 fr8 sub1, sl8, M8, _, r8, m8, h8, fun k9 M9 h9 H9 l9 m9 => ?_⟩⟩
        have lt9 := le6.trans (ly7.trans (l8.trans l9))
        cases k9 with
        | false => exact ⟨M9, m9, lt9, h9⟩
        | true =>
          refine ⟨sl8, M9, _, r8.sub l9, m9, h9, fun yv M10 h10 u H10 l10 m10 r10 => ?_⟩
          obtain ⟨acc, ea, h10⟩ := getL_elim h10
          obtain ⟨av, ha, ra⟩ := m10 D _ ea
          exact ⟨av, ha, by rw [RVs.len ra]; exact h10.1, _, rep_write m10 ea (RVs.append ra (.cons r10 .nil)), (lt9.trans l10).trans (le_write ea), h10.2⟩
      · have e : j = items1.length := by omega
        subst e
        exact .inl ⟨stop1, M6, rm6, (lt.trans l5).trans le6, fin1 M6 w6⟩
  · have e : i = items.length := by omega
    subst e
    exact .inl ⟨stop, k _ _ (fin M' w) _ _ (l1.trans le) rm rfl⟩
theorem de_lc2 {elt tg iter tg1 iter1 : Expr} {ifs ifs1 : List Expr} {scope : Scope} {own : List (Str × Nat)} {vs1 : List Nat} {wi wi1 : TID} {ss ss1 : List Nat} {g g1 : TGD} {tt tt1 : TTD} (hc : X.calm = true) (hN : X.N.Nodup) (hi : DI X tg iter wi) (ok : BlkOk X.N X.env.scope scope own) (hv : ∀ i ∈ vs1, i ∈ own.map (·.2))
    (hg : ∀ (s : Shared) (H : Hp) (C : Addr) (cl : List (Str × Addr)) (fp : List Addr), DG (X.blk s H scope (compEnvC scope cl C X.env) fp) tg ss g) (ht : ∀ (s : Shared) (H : Hp) (C : Addr) (cl : List (Str × Addr)) (fp : List Addr), DTs (X.blk s H scope (compEnvC scope cl C X.env) fp) ifs tt)
    (hi1 : ∀ (s : Shared) (H : Hp) (C : Addr) (cl : List (Str × Addr)) (fp : List Addr), DI (X.blk s H scope (compEnvC scope cl C X.env) fp) tg1 iter1 wi1)
    (hg1 : ∀ (s : Shared) (H : Hp) (C : Addr) (cl : List (Str × Addr)) (fp : List Addr), DG (X.blk s H scope (compEnvC scope cl C X.env) fp) tg1 ss1 g1) (ht1 : ∀ (s : Shared) (H : Hp) (C : Addr) (cl : List (Str × Addr)) (fp : List Addr), DTs (X.blk s H scope (compEnvC scope cl C X.env) fp) ifs1 tt1)
    (he : ∀ (s : Shared) (H : Hp) (C : Addr) (cl : List (Str × Addr)) (fp : List Addr), DE (X.blk s H scope (compEnvC scope cl C X.env) fp) elt te) (sub : ∀ j ∈ ss, j ∈ own.map (·.2)) (sub1 : ∀ j ∈ ss1, j ∈ vs1)
    (hs : ∀ x, foldedSetIterable iter X.env x = pure x := by intro _; rfl) (hs1 : ∀ env x, foldedSetIterable iter1 env x = pure x := by intro _ _; rfl) :
    DE X (.ListComp elt [⟨tg, iter, ifs, 0⟩, ⟨tg1, iter1, ifs1, 0⟩] scope pos) (dLc2O wi g tt wi1 g1 tt1 te (own.map (·.2)) vs1) :=
  PE.imp (pe_lc2 hc hN hi ok hv hg ht hi1 hg1 ht1 he hs hs1) fun _ _ _ h => lc2_imp sub sub1 h
theorem ds_setLc2 {i : Nat} {y : Str} {py spos : Pos} {elt tg iter tg1 iter1 : Expr} {ifs ifs1 : List Expr} {scope : Scope} {own : List (Str × Nat)} {vs1 : List Nat} {wi wi1 : TID} {ss ss1 : List Nat} {g g1 : TGD} {tt tt1 : TTD} (hc : X.calm = true) (hN : X.N.Nodup) (hy : X.N[i]? = some y) (hyl : X.env.scope.names.lookup y = some .local)
    (hsw : swapsWith (.ListComp elt [⟨tg, iter, ifs, 0⟩, ⟨tg1, iter1, ifs1, 0⟩] scope pos) (some (.Name y py)) spos.line X.env = pure true) (hi : DI X tg iter wi) (ok : BlkOk X.N X.env.scope scope own) (hv : ∀ i ∈ vs1, i ∈ own.map (·.2))
    (hg : ∀ (s : Shared) (H : Hp) (C : Addr) (cl : List (Str × Addr)) (fp : List Addr), DG (X.blk s H scope (compEnvC scope cl C X.env) fp) tg ss g) (ht : ∀ (s : Shared) (H : Hp) (C : Addr) (cl : List (Str × Addr)) (fp : List Addr), DTs (X.blk s H scope (compEnvC scope cl C X.env) fp) ifs tt)
    (hi1 : ∀ (s : Shared) (H : Hp) (C : Addr) (cl : List (Str × Addr)) (fp : List Addr), DI (X.blk s H scope (compEnvC scope cl C X.env) fp) tg1 iter1 wi1)
    (hg1 : ∀ (s : Shared) (H : Hp) (C : Addr) (cl : List (Str × Addr)) (fp : List Addr), DG (X.blk s H scope (compEnvC scope cl C X.env) fp) tg1 ss1 g1) (ht1 : ∀ (s : Shared) (H : Hp) (C : Addr) (cl : List (Str × Addr)) (fp : List Addr), DTs (X.blk s H scope (compEnvC scope cl C X.env) fp) ifs1 tt1)
    (he : ∀ (s : Shared) (H : Hp) (C : Addr) (cl : List (Str × Addr)) (fp : List Addr), DE (X.blk s H scope (compEnvC scope cl C X.env) fp) elt te) (sub : ∀ j ∈ ss, j ∈ own.map (·.2)) (sub1 : ∀ j ∈ ss1, j ∈ vs1)
    (hs : ∀ x, foldedSetIterable iter X.env x = pure x := by intro _; rfl) (hs1 : ∀ env x, foldedSetIterable iter1 env x = pure x := by intro _ _; rfl) :
    DS X (.Assign [.Name y py] (.ListComp elt [⟨tg, iter, ifs, 0⟩, ⟨tg1, iter1, ifs1, 0⟩] scope pos) spos) (dSet i (dLc2O wi g tt wi1 g1 tt1 te (own.map (·.2)) vs1)) :=
  PS.imp (ps_setLc2 hc hN hy hyl hsw hi ok hv hg ht hi1 hg1 ht1 he hs hs1) fun D σ H ⟨sl, M, E, hs, hm, ht, kn, kr, kb, kc⟩ => lc2_imp sub sub1 ⟨sl, M, _, hs, hm, ht, fun x M1 h1 v H1 l1 m1 r1 => kn _ M1 h1 _ H1 l1 m1 ((hs.sub l1).set i r1)⟩
end
/-! ### one step of a reading -/
section
variable {ta tb tc te : TD} {tas : TAD} {tA : TTD} {g : G2} {gc : GC} {D : EndsD} {sl : Slots} {M : Mem} {R : KD} {i : Nat} {x : DV} {a b : TSD}
theorem i_set (h : te sl M fun x M1 => D.nx (sl.set i (some x)) M1) : dSet i te D sl M := h
theorem i_ret (h : te sl M D.rt) : dRet te D sl M := h
theorem i_op (h : ta sl M fun x M1 => tb sl M1 fun y M2 => g x y M2 R) : dOp g ta tb sl M R := h
theorem i_var (e : sl[i]? = some (some x)) (h : R x M) : dVar i sl M R := by
  unfold dVar
  rw [e]
  exact h
theorem i_c (h : R x M) : dC x sl M R := h
theorem i_call (h : tas sl M fun xs M1 => gc xs M1 R) : dCall gc tas sl M R := h
theorem i_cons {RA : KA} (h : te sl M fun x M1 => tas sl M1 fun xs M2 => RA (x :: xs) M2) : dCons te tas sl M RA := h
theorem i_nil {RA : KA} (h : RA [] M) : dNil sl M RA := h
theorem i_ifS (h : tA sl M fun k M1 => if k = true then a D sl M1 else b D sl M1) : dIfS tA a b D sl M := h
theorem i_if (h : tA sl M fun k M1 => if k = true then ta sl M1 R else tb sl M1 R) : dIf tA ta tb sl M R := h
theorem i_b {RB : KB} (h : te sl M fun x M1 => match x with | .d (.bool k) => RB k M1 | _ => False) : dB te sl M RB := h
theorem i_gn {RS : Slots → Mem → Prop} (h : RS (sl.set i (some x)) M) : dgName i x sl M RS := h
theorem i_app {to : TD} (h : to sl M fun o M1 => match o with
  | .raw (.ref p) => getL M1 p fun _ => te sl M1 fun x M2 => getL M2 p fun xs => xs.length < sizeLine ∧ D.nx sl (updM M2 p (.lst (xs ++ [x])))
  | _ => False) : dAppend to te D sl M := h
theorem i_un {gu : DV → Mem → KD → Prop} (h : ta sl M fun x M1 => gu x M1 R) : dUn gu ta sl M R := h
end
end DL

/-! The data layer: what repr can write, by size. -/
namespace DL
open PySem PySem.Spec PyProof.Rows L2
/-- leaves within B signs, depth k, bulk n -/
structure Sho (B k n : Nat) (d : PyData) : Prop where
  ls : d.leavesShort B = true
  sh : d.showable = true
  pl : d.plain = true
  dp : d.depth ≤ k
  bk : d.bulk ≤ n
theorem Sho.mono {B k n k' n' : Nat} {d : PyData} (h : Sho B k n d) (hk : k ≤ k') (hn : n ≤ n') : Sho B k' n' d := ⟨h.ls, h.sh, h.pl, Nat.le_trans h.dp hk, Nat.le_trans h.bk hn⟩
theorem Sho.ok {B k n : Nat} {d : PyData} (h : Sho B k n d) (hB : 8 ≤ B := by decide) (hk : k ≤ 60 := by decide) (hn : (B + 2) * n + B ≤ 16777216 := by decide) : OkShow d := by
  refine ⟨h.sh, Nat.le_trans h.dp hk, ?_, fun q => by rw [noDict_plain _ h.pl] at q; cases q⟩
  have h1 := PyData.shown_le_bulk B hB d h.ls
  have h2 : (B + 2) * d.bulk ≤ (B + 2) * n := Nat.mul_le_mul_left _ h.bk
  rw [sizeLine_eq]
  omega
theorem Sho.int {B b : Nat} {i : Int} (h : i.natAbs.log2 < b) (hb : 0 < b := by decide) (hB : b + 1 ≤ B := by decide) (h2 : b ≤ 1920 := by decide) : Sho B 0 0 (.int i) := by
  refine ⟨?_, ?_, rfl, Nat.le_refl _, Nat.le_refl _⟩
  · simp only [PyData.leavesShort, decide_eq_true_eq]
    unfold PyData.shown
    show (Str.ofString (toString i)).length ≤ B
    rw [PySem.ofString_length]
    exact Nat.le_trans (int_text_length_le hb h) hB
  · simp [PyData.showable]
    omega
theorem Sho.none {B : Nat} : Sho B 0 0 .none := ⟨rfl, rfl, rfl, Nat.le_refl _, Nat.le_refl _⟩
theorem Sho.bool {B : Nat} (b : Bool) : Sho B 0 0 (.bool b) := ⟨rfl, rfl, rfl, Nat.le_refl _, Nat.le_refl _⟩
theorem Sho.str {B n : Nat} {x : Str} (h : (x.cps.toList.all fun c => decide (c < 16 ^ 8)) = true) (hl : x.length ≤ n) : Sho B 0 n (.str x) := by
  refine ⟨?_, rfl, rfl, Nat.le_refl _, hl⟩
  simpa only [PyData.leavesShort] using h
theorem Sho.all {B k n : Nat} : ∀ {ds : List PyData}, (∀ d ∈ ds, Sho B k n d) → PyData.leavesShortAll B ds = true ∧ PyData.showableAll ds = true ∧ PyData.plainAll ds = true ∧ PyData.depthAll ds ≤ k ∧ PyData.bulkAll ds ≤ ds.length * (n + 1)
  | [], _ => ⟨rfl, rfl, rfl, Nat.zero_le _, Nat.zero_le _⟩
  | d :: ds, h => by
    obtain ⟨h1, h2, h3, h4, h5⟩ := Sho.all (ds := ds) fun x hx => h x (List.mem_cons_of_mem _ hx)
    have hd := h d List.mem_cons_self
    refine ⟨?_, ?_, ?_, ?_, ?_⟩
    · simp only [PyData.leavesShortAll, hd.ls, h1, Bool.and_self]
    · simp only [PyData.showableAll, hd.sh, h2, Bool.and_self]
    · simp only [PyData.plainAll, hd.pl, h3, Bool.and_self]
    · simp only [PyData.depthAll]
      have := hd.dp
      omega
    · simp only [PyData.bulkAll, List.length_cons]
      have := hd.bk
      rw [Nat.succ_mul]
      omega
theorem Sho.tup {B k n m : Nat} {ds : List PyData} (h : ∀ d ∈ ds, Sho B k n d) (hl : ds.length ≤ m) : Sho B (k + 1) (m * (n + 1)) (.tuple ds) := by
  obtain ⟨h1, h2, h3, h4, h5⟩ := Sho.all h
  refine ⟨by simpa only [PyData.leavesShort] using h1, by simpa only [PyData.showable] using h2, by simpa only [PyData.plain] using h3, ?_, ?_⟩
  · simp only [PyData.depth]
    omega
  · simp only [PyData.bulk]
    exact Nat.le_trans h5 (Nat.mul_le_mul_right _ hl)
theorem Sho.lst {B k n m : Nat} {ds : List PyData} (h : ∀ d ∈ ds, Sho B k n d) (hl : ds.length ≤ m) : Sho B (k + 1) (m * (n + 1)) (.list ds) := by
  obtain ⟨h1, h2, h3, h4, h5⟩ := Sho.all h
  refine ⟨by simpa only [PyData.leavesShort] using h1, by simpa only [PyData.showable] using h2, by simpa only [PyData.plain] using h3, ?_, ?_⟩
  · simp only [PyData.depth]
    omega
  · simp only [PyData.bulk]
    exact Nat.le_trans h5 (Nat.mul_le_mul_right _ hl)
theorem Sho.ints {B b : Nat} {ns : List Int} (h : ∀ x ∈ ns, x.natAbs.log2 < b) (hb : 0 < b := by decide) (hB : b + 1 ≤ B := by decide) (h2 : b ≤ 1920 := by decide) : ∀ d ∈ dI ns, Sho B 0 0 d := fun d hd => by
  obtain ⟨x, hx, rfl⟩ := List.mem_map.mp hd
  exact Sho.int (h x hx) hb hB h2
/-- two of a list -/
theorem mem2 {P : PyData → Prop} {a b : PyData} (ha : P a) (hb : P b) : ∀ d ∈ [a, b], P d := fun d hd => by
  simp only [List.mem_cons, List.not_mem_nil, or_false] at hd
  rcases hd with rfl | rfl
  · exact ha
  · exact hb
theorem mem3 {P : PyData → Prop} {a b c : PyData} (ha : P a) (hb : P b) (hc : P c) : ∀ d ∈ [a, b, c], P d := fun d hd => by
  simp only [List.mem_cons, List.not_mem_nil, or_false] at hd
  rcases hd with rfl | rfl | rfl
  · exact ha
  · exact hb
  · exact hc
/-- the last of a list -/
theorem atI_neg1 {α : Type} {xs : List α} {x : α} (h : xs.getLast? = some x) : atI xs (-1) = some x := by
  obtain ⟨ys, rfl⟩ := List.getLast?_eq_some_iff.mp h
  exact atI_last ys x
/-- x != x of texts -/
theorem neSame {x : Str} {M : Mem} {R : KD} (h : R (.d (.bool false)) M) : g2 neD (.d (.str x)) (.d (.str x)) M R := by
  show R (.d (.bool (!decide (x = x)))) M
  rw [decide_eq_true rfl]
  exact h
/-- x == y of texts, its answer known -/
theorem eqS {x y : Str} {M : Mem} {R : KD} (k : Bool) (e : decide (x = y) = k) (h : R (.d (.bool k)) M) : g2 eqD (.d (.str x)) (.d (.str y)) M R := by
  show R (.d (.bool (decide (x = y)))) M
  rw [e]
  exact h
theorem take_snoc {α : Type} {l : List α} {i : Nat} {x : α} (h : l[i]? = some x) : l.take (i + 1) = l.take i ++ [x] := by rw [List.take_add_one, h]; rfl
theorem putD_new {kvs : List (Key × DV)} {k : Key} {v : DV} (h : k ∉ kvs.map (·.1)) : putD kvs k v = kvs ++ [(k, v)] := by
  unfold putD
  rw [if_neg]
  intro hq
  obtain ⟨x, hx, e⟩ := List.any_eq_true.mp hq
  exact h (List.mem_map.mpr ⟨x, hx, of_decide_eq_true e⟩)
theorem mergeD_new : ∀ (more kvs : List (Key × DV)), ((kvs ++ more).map (·.1)).Nodup → mergeD kvs more = kvs ++ more
  | [], kvs, _ => by rw [List.append_nil]; rfl
  | p :: r, kvs, h => by
    have h1 : p.1 ∉ kvs.map (·.1) := by
      rw [List.map_append, List.map_cons] at h
      intro hm
      exact (List.nodup_append.mp h).2.2 _ hm _ List.mem_cons_self rfl
    show mergeD (putD kvs p.1 p.2) r = _
    rw [putD_new h1, mergeD_new r (kvs ++ [(p.1, p.2)]) (by simpa using h), List.append_assoc]
    rfl
theorem keysD_strs : ∀ l : List Str, keysD (l.map PyData.str) = some (l.map Sum.inr)
  | [] => rfl
  | x :: r => by
    show (match keyOf (.str x), keysD (r.map PyData.str) with | some k, some q => some (k :: q) | _, _ => none) = _
    rw [keysD_strs r]
    rfl
theorem inr_nodup {l : List Str} (h : l.Nodup) : (l.map (Sum.inr : Str → Key)).Nodup := List.Pairwise.map Sum.inr (fun a b h e => h (Sum.inr.inj e)) h
end DL

namespace Law
open PySem PySem.Spec PyProof.Rows L2 DL
def topS (i : Nat) : Stmt := PySem.Challenge.pw_limitrun_k16_states_and_steps.main.body.getD i (.Pass ⟨0, 0, 0, 0⟩)
def c_COMPARISONS : DV := .d (.tuple [.str "=", .str "!=", .str "<", .str "<=", .str ">", .str ">="])
/-! expressions -/
inductive Op where
  | eq | ne | lt | le | gt | ge | add | sub | mul | mod | and | or | min | max
def Op.s : Op → Str
  | .eq => "=" | .ne => "!=" | .lt => "<" | .le => "<=" | .gt => ">" | .ge => ">=" | .add => "+" | .sub => "-" | .mul => "*" | .mod => "mod" | .and => "and" | .or => "or" | .min => "min" | .max => "max"
def Op.isCmp : Op → Bool
  | .eq | .ne | .lt | .le | .gt | .ge => true
  | _ => false
def Op.isLog : Op → Bool
  | .and | .or => true
  | _ => false
inductive Un where
  | neg | not
def Un.s : Un → Str
  | .neg => "neg" | .not => "not"
inductive Ex where
  | int (i : Int) | name (x : Str) | ite (a b c : Ex) | un (o : Un) (a : Ex) | bin (o : Op) (a b : Ex)
def Ex.d : Ex → PyData
  | .int i => .tuple [.str "int", .int i]
  | .name x => .tuple [.str "name", .str x]
  | .ite a b c => .tuple [.str "if", a.d, b.d, c.d]
  | .un o a => .tuple [.str o.s, a.d]
  | .bin o a b => .tuple [.str o.s, a.d, b.d]
def Ex.dep : Ex → Nat
  | .int _ => 0
  | .name _ => 0
  | .ite a b c => max a.dep (max b.dep c.dep) + 1
  | .un _ a => a.dep + 1
  | .bin _ a b => max a.dep b.dep + 1
def Ex.ok (names : List Str) : Ex → Prop
  | .int i => 0 ≤ i ∧ i < 2 ^ 20
  | .name x => x ∈ names
  | .ite a b c => a.ok names ∧ b.ok names ∧ c.ok names
  | .un _ a => a.ok names
  | .bin _ a b => a.ok names ∧ b.ok names
def b2 (b : Bool) : Int := if b then 1 else 0
def cmpB : Op → Int → Int → Bool
  | .eq, i, j => decide (i = j)
  | .ne, i, j => !decide (i = j)
  | .lt, i, j => decide (i < j)
  | .le, i, j => decide (i ≤ j)
  | .gt, i, j => decide (j < i)
  | .ge, i, j => decide (j ≤ i)
  | _, _, _ => false
def opV : Op → Int → Int → Int
  | .add, i, j => i + j
  | .sub, i, j => i - j
  | .mul, i, j => i * j
  | .mod, i, j => if j = 0 then 0 else i.fmod j
  | .and, i, j => b2 (!decide (i = 0) && !decide (j = 0))
  | .or, i, j => b2 (!decide (i = 0) || !decide (j = 0))
  | .min, i, j => if j < i then j else i
  | .max, i, j => if j > i then j else i
  | o, i, j => b2 (cmpB o i j)
def unV : Un → Int → Int
  | .neg, i => -i
  | .not, i => b2 (decide (i = 0))
abbrev Env := List (Str × Int)
def envD (env : Env) : PyData := .dict (env.map fun p => (.str p.1, .int p.2))
def Ex.val (env : Env) : Ex → Int
  | .int i => i
  | .name x => (env.lookup x).getD 0
  | .ite a b c => if a.val env = 0 then c.val env else b.val env
  | .un o a => unV o (a.val env)
  | .bin o a b => opV o (a.val env) (b.val env)
/-- the values' bits -/
def bd : Nat → Nat
  | 0 => 20
  | n + 1 => 2 * bd n + 1
theorem bd_mono {m n : Nat} (h : m ≤ n) : bd m ≤ bd n := by
  induction n with
  | zero => rw [Nat.le_zero.mp h]; exact Nat.le_refl _
  | succ n ih =>
    by_cases e : m = n + 1
    · rw [e]; exact Nat.le_refl _
    · have := ih (by omega)
      show bd m ≤ 2 * bd n + 1
      omega
def Lim (k : Nat) (i : Int) : Prop := i.natAbs < 2 ^ k
theorem Lim.mono {k m : Nat} {i : Int} (h : Lim k i) (hk : k ≤ m) : Lim m i := Nat.lt_of_lt_of_le h (Nat.pow_le_pow_right (by decide) hk)
theorem lim_b2 (k : Nat) (b : Bool) (hk : 0 < k) : Lim k (b2 b) := by
  have : 2 ^ 1 ≤ 2 ^ k := Nat.pow_le_pow_right (by decide) hk
  unfold Lim
  cases b
  · show 0 < 2 ^ k
    omega
  · show 1 < 2 ^ k
    omega
theorem lim_op {k : Nat} (hk : 0 < k) {i j : Int} (hi : Lim k i) (hj : Lim k j) : ∀ o : Op, Lim (2 * k + 1) (opV o i j) := by
  have hp : 2 ^ (2 * k + 1) = 2 * (2 ^ k * 2 ^ k) := by rw [Nat.pow_succ, Nat.two_mul, Nat.pow_add]; omega
  have h2 : 2 ≤ 2 ^ k := by
    have : 2 ^ 1 ≤ 2 ^ k := Nat.pow_le_pow_right (by decide) hk
    omega
  have hq : 2 ^ k * 2 ≤ 2 ^ k * 2 ^ k := Nat.mul_le_mul_left _ h2
  unfold Lim at hi hj ⊢
  intro o
  cases o with
  | add => show (i + j).natAbs < _; omega
  | sub => show (i - j).natAbs < _; omega
  | mul =>
    show (i * j).natAbs < _
    rw [Int.natAbs_mul]
    have := Nat.mul_lt_mul'' hi hj
    omega
  | mod =>
    show (if j = 0 then 0 else i.fmod j : Int).natAbs < _
    split
    · show 0 < _
      omega
    · rename_i h
      have hb : (i.fmod j).natAbs ≤ j.natAbs := by
        rcases Int.lt_or_gt_of_ne h with h | h
        · have e := Int.neg_fmod_neg (-i) (-j)
          rw [Int.neg_neg, Int.neg_neg] at e
          have h1 := Int.fmod_nonneg_of_pos (-i) (show 0 < -j by omega)
          have h2 := Int.fmod_lt_of_pos (-i) (show 0 < -j by omega)
          omega
        · have h1 := Int.fmod_nonneg_of_pos i h
          have h2 := Int.fmod_lt_of_pos i h
          omega
      omega
  | min => show (if j < i then j else i : Int).natAbs < _; split <;> omega
  | max => show (if j > i then j else i : Int).natAbs < _; split <;> omega
  | _ => exact lim_b2 _ _ (by omega)
theorem lim_un {k : Nat} (hk : 0 < k) {i : Int} (hi : Lim k i) : ∀ o : Un, Lim (2 * k + 1) (unV o i) := by
  intro o
  cases o with
  | neg =>
    show (-i).natAbs < _
    rw [Int.natAbs_neg]
    exact hi.mono (by omega)
  | not => exact lim_b2 _ _ (by omega)
theorem bd_pos : ∀ n, 0 < bd n
  | 0 => by decide
  | n + 1 => by show 0 < 2 * bd n + 1; omega
/-- the environment's values are small -/
def Small (env : Env) : Prop := ∀ p ∈ env, Lim 20 p.2
theorem look_lim {env : Env} (h : Small env) (x : Str) : Lim 20 ((env.lookup x).getD 0) := by
  induction env with
  | nil =>
    show (0 : Int).natAbs < 2 ^ 20
    decide
  | cons p r ih =>
    rw [List.lookup_cons]
    split
    · exact h p List.mem_cons_self
    · exact ih fun q hq => h q (List.mem_cons_of_mem _ hq)
theorem val_lim {env : Env} {names : List Str} (h : Small env) : ∀ e : Ex, e.ok names → Lim (bd e.dep) (e.val env)
  | .int i, ho => by
    have ho : 0 ≤ i ∧ i < 2 ^ 20 := ho
    show i.natAbs < 2 ^ 20
    omega
  | .name x, _ => look_lim h x
  | .ite a b c, ho => by
    have ho : a.ok names ∧ b.ok names ∧ c.ok names := ho
    have h1 := val_lim h b ho.2.1
    have h2 := val_lim h c ho.2.2
    have m1 : bd b.dep ≤ bd (Ex.ite a b c).dep := bd_mono (by show b.dep ≤ max a.dep (max b.dep c.dep) + 1; omega)
    have m2 : bd c.dep ≤ bd (Ex.ite a b c).dep := bd_mono (by show c.dep ≤ max a.dep (max b.dep c.dep) + 1; omega)
    show Lim _ (if a.val env = 0 then c.val env else b.val env)
    split
    · exact h2.mono m2
    · exact h1.mono m1
  | .un o a, ho => lim_un (bd_pos _) (val_lim h a ho) o
  | .bin o a b, ho => by
    have ho : a.ok names ∧ b.ok names := ho
    have h1 := (val_lim h a ho.1).mono (bd_mono (show a.dep ≤ max a.dep b.dep by omega))
    have h2 := (val_lim h b ho.2).mono (bd_mono (show b.dep ≤ max a.dep b.dep by omega))
    exact lim_op (bd_pos _) h1 h2 o
theorem lim_log {k : Nat} {i : Int} (hk : 0 < k) (h : Lim k i) : i.natAbs.log2 < k := PySem.Flt.log2_lt_of hk h
/-! tests of texts -/
theorem in_two (a b x : Str) : ([PyData.str a, .str b].any fun y => PyData.eqv y (.str x)) = (decide (a = x) || decide (b = x)) := by
  show (PyData.eqv (.str a) (.str x) || (PyData.eqv (.str b) (.str x) || false)) = _
  rw [eqv_str, eqv_str, Bool.or_false]
theorem in_six (a b c d e f x : Str) : ([PyData.str a, .str b, .str c, .str d, .str e, .str f].any fun y => PyData.eqv y (.str x)) = (decide (a = x) || (decide (b = x) || (decide (c = x) || (decide (d = x) || (decide (e = x) || decide (f = x)))))) := by
  show (PyData.eqv (.str a) (.str x) || (PyData.eqv (.str b) (.str x) || (PyData.eqv (.str c) (.str x) || (PyData.eqv (.str d) (.str x) || (PyData.eqv (.str e) (.str x) || (PyData.eqv (.str f) (.str x) || false)))))) = _
  rw [eqv_str, eqv_str, eqv_str, eqv_str, eqv_str, eqv_str, Bool.or_false]
theorem if_two {a b x : Str} {A B : Prop} (k : Bool) (e : (decide (a = x) || decide (b = x)) = k) (h : if k = true then A else B) : if ([PyData.str a, .str b].any fun y => PyData.eqv y (.str x)) = true then A else B := by
  rw [in_two, e]
  exact h
theorem if_six {a b c d e f x : Str} {A B : Prop} (k : Bool) (q : (decide (a = x) || (decide (b = x) || (decide (c = x) || (decide (d = x) || (decide (e = x) || decide (f = x)))))) = k) (h : if k = true then A else B) : if ([PyData.str a, .str b, .str c, .str d, .str e, .str f].any fun y => PyData.eqv y (.str x)) = true then A else B := by
  rw [in_six, q]
  exact h
theorem inOk_two (a b x : Str) : InOk [.str a, .str b] (.str x) := ⟨rfl, rfl, Nat.le_trans (Nat.min_le_right _ _) (Nat.zero_le _)⟩
theorem inOk_six (a b c d e f x : Str) : InOk [.str a, .str b, .str c, .str d, .str e, .str f] (.str x) := ⟨rfl, rfl, Nat.le_trans (Nat.min_le_right _ _) (Nat.zero_le _)⟩
theorem eqOk_bool (a b : Bool) : EqOk (.bool a) (.bool b) := ⟨rfl, rfl, Nat.zero_le _⟩
theorem eqv_bool (a b : Bool) : PyData.eqv (.bool a) (.bool b) = (a == b) := by
  unfold PyData.eqv
  rfl
theorem mul_ok {k m : Nat} {i j : Int} (hk : 0 < k) (hm : 0 < m) (hi : Lim k i) (hj : Lim m j) (h : k + m ≤ 1000000) : CMul i j ∨ CMulW i j := .inr (wide_mul hi hj hk hm h)
theorem ifStr {i : Nat} {x y : Str} {A B : TSD} {D : EndsD} {sl : Slots} {M : Mem} (k : Bool) (hs : sl[i]? = some (some (.d (.str x)))) (e : decide (x = y) = k) (h : if k = true then A D sl M else B D sl M) : dIfS (dB (dOp (g2 eqD) (dVar i) (dC (.d (.str y))))) A B D sl M := by
  unfold dIfS dB dOp dVar
  rw [hs]
  show if decide (x = y) = true then _ else _
  rw [e]
  exact h
theorem ifStrE {i : Nat} {x y : Str} {A B : TD} {R : KD} {sl : Slots} {M : Mem} (k : Bool) (hs : sl[i]? = some (some (.d (.str x)))) (e : decide (x = y) = k) (h : if k = true then A sl M R else B sl M R) : dIf (dB (dOp (g2 eqD) (dVar i) (dC (.d (.str y))))) A B sl M R := by
  unfold dIf dB dOp dVar
  rw [hs]
  show if decide (x = y) = true then _ else _
  rw [e]
  exact h
theorem op_ne (o : Op) : decide (o.s = "int") = false ∧ decide (o.s = "name") = false ∧ decide (o.s = "if") = false ∧ decide (o.s = "neg") = false ∧ decide (o.s = "not") = false := by
  cases o <;> decide +kernel
theorem un_ne (o : Un) : decide (o.s = "int") = false ∧ decide (o.s = "name") = false ∧ decide (o.s = "if") = false := by
  cases o <;> decide +kernel
theorem op_log (o : Op) : (decide (("and" : Str) = o.s) || decide (("or" : Str) = o.s)) = o.isLog := by
  cases o <;> decide +kernel
theorem op_cmp (o : Op) : (decide (("=" : Str) = o.s) || (decide (("!=" : Str) = o.s) || (decide (("<" : Str) = o.s) || (decide (("<=" : Str) = o.s) || (decide ((">" : Str) = o.s) || decide ((">=" : Str) = o.s)))))) = o.isCmp := by
  cases o <;> decide +kernel
theorem look_env (env : Env) (x : Str) : lookD (env.map fun p => (PyData.str p.1, PyData.int p.2)) (.inr x) = (env.lookup x).map PyData.int := by
  induction env with
  | nil => rfl
  | cons p r ih =>
    by_cases e : p.1 = x
    · show (List.find? _ ((PyData.str p.1, PyData.int p.2) :: _)).map _ = _
      rw [List.find?_cons_of_pos (by exact decide_eq_true e), List.lookup_cons]
      rw [show (x == p.1) = true from beq_iff_eq.mpr e.symm]
      rfl
    · show (List.find? _ ((PyData.str p.1, PyData.int p.2) :: _)).map _ = _
      rw [List.find?_cons_of_neg (by show ¬ decide (p.1 = x) = true; rw [decide_eq_false e]; exact Bool.false_ne_true), List.lookup_cons]
      rw [show (x == p.1) = false from beq_eq_false_iff_ne.mpr fun q => e q.symm]
      exact ih
theorem look_some {env : Env} {names : List Str} {x : Str} (hn : env.map (·.1) = names) (hx : x ∈ names) : env.lookup x = some ((env.lookup x).getD 0) := by
  subst hn
  induction env with
  | nil => cases hx
  | cons p r ih =>
    rw [List.lookup_cons]
    by_cases e : x = p.1
    · rw [show (x == p.1) = true from beq_iff_eq.mpr e]
      rfl
    · rw [show (x == p.1) = false from beq_eq_false_iff_ne.mpr e]
      rcases List.mem_cons.mp (show x ∈ p.1 :: r.map (·.1) from hx) with h | h
      · exact absurd h e
      · exact ih h
/-! programs -/
inductive Ru where
  | low | high | keep (v : Int) | set (v : Int)
def Ru.d : Ru → PyData
  | .low => .tuple [.str "low"]
  | .high => .tuple [.str "high"]
  | .keep v => .tuple [.str "keep", .int v]
  | .set v => .tuple [.str "set", .int v]
def Ru.ok (lo hi : Int) : Ru → Prop
  | .keep v => lo ≤ v ∧ v ≤ hi
  | .set v => lo ≤ v ∧ v ≤ hi
  | _ => True
structure Vr where
  nm : Str
  lo : Int
  hi : Int
  st : Int
  ru : Ru
def Vr.d (v : Vr) : PyData := .tuple [.str v.nm, .int v.lo, .int v.hi, .int v.st, v.ru.d]
structure Vr.Ok (v : Vr) : Prop where
  l0 : -1000 ≤ v.lo
  h1 : v.hi ≤ 1000
  s0 : v.lo ≤ v.st
  s1 : v.st ≤ v.hi
  ru : v.ru.ok v.lo v.hi
structure Pg where
  vars : List Vr
  halt : Option Ex
  asg : List (Str × Ex)
def Pg.names (p : Pg) : List Str := p.vars.map (·.nm)
def haltD : Option Ex → PyData
  | none => .none
  | some e => e.d
def asgD (a : Str × Ex) : PyData := .tuple [.str a.1, a.2.d]
def Pg.d (p : Pg) : PyData := .tuple [.tuple (p.vars.map Vr.d), haltD p.halt, .tuple (p.asg.map asgD)]
/-- the values of a range -/
def Vr.rg (v : Vr) : List Int := (List.range (v.hi + 1 - v.lo).toNat).map fun (i : Nat) => v.lo + (i : Int)
def Vr.sz (v : Vr) : Nat := (v.hi + 1 - v.lo).toNat
def szAll (vs : List Vr) : Nat := (vs.map Vr.sz).foldl (· * ·) 1
structure Pg.Ok (p : Pg) (most : Nat) : Prop where
  nd : p.names.Nodup
  few : p.vars.length ≤ 8
  len : ∀ x ∈ p.names, x.length ≤ 8 ∧ (x.cps.toList.all fun c => decide (c < 16 ^ 8)) = true
  vr : ∀ v ∈ p.vars, v.Ok
  ht : ∀ e, p.halt = some e → e.ok p.names ∧ e.dep ≤ 4
  as : ∀ a ∈ p.asg, a.2.ok p.names ∧ a.2.dep ≤ 4
  an : (p.asg.map (·.1)).Nodup
  ak : ∀ a ∈ p.asg, a.1 ∈ p.names
  sz : szAll p.vars ≤ most
/-- a state -/
structure Pg.St (p : Pg) (s : List Int) : Prop where
  len : s.length = p.vars.length
  sm : ∀ x ∈ s, Lim 20 x
abbrev stD (s : List Int) : PyData := .tuple (dI s)
def Pg.env (p : Pg) (s : List Int) : Env := p.names.zip s
def Pg.stopped (p : Pg) (s : List Int) : Bool := match p.halt with
  | none => false
  | some e => !decide (e.val (p.env s) = 0)
theorem zip_fst {α β : Type} : ∀ {a : List α} {b : List β}, a.length = b.length → (a.zip b).map (·.1) = a
  | [], _, _ => rfl
  | _ :: _, [], h => by cases h
  | x :: a, y :: b, h => by rw [List.zip_cons_cons, List.map_cons, zip_fst (by simpa using h)]
theorem Pg.env_fst {p : Pg} {s : List Int} (h : p.St s) : (p.env s).map (·.1) = p.names := zip_fst (by rw [h.len]; unfold Pg.names; rw [List.length_map])
theorem Pg.env_small {p : Pg} {s : List Int} (h : p.St s) : Small (p.env s) := fun q hq => h.sm q.2 (List.of_mem_zip hq).2
/-- the next longer states -/
def moreS (acc : List (List Int)) (v : Vr) : List (List Int) := acc.flatMap fun s => v.rg.map fun x => s ++ [x]
def stsFrom (acc : List (List Int)) (vs : List Vr) : List (List Int) := vs.foldl moreS acc
def Pg.states (p : Pg) : List (List Int) := stsFrom [[]] p.vars
theorem moreS_len (acc : List (List Int)) (v : Vr) : (moreS acc v).length = acc.length * v.sz := by
  unfold moreS
  induction acc with
  | nil => simp
  | cons s r ih =>
    rw [List.flatMap_cons, List.length_append, ih, List.length_map, List.length_cons]
    have : v.rg.length = v.sz := by unfold Vr.rg Vr.sz; rw [List.length_map, List.length_range]
    rw [this, Nat.succ_mul]
    omega
theorem foldl_mul (l : List Nat) : ∀ k : Nat, l.foldl (· * ·) k = k * l.foldl (· * ·) 1 := by
  induction l with
  | nil => intro k; simp
  | cons x r ih =>
    intro k
    rw [List.foldl_cons, List.foldl_cons, ih (k * x), ih (1 * x), Nat.one_mul, Nat.mul_assoc]
theorem stsFrom_len : ∀ (vs : List Vr) (acc : List (List Int)), (stsFrom acc vs).length = acc.length * szAll vs
  | [], acc => by show acc.length = acc.length * 1; rw [Nat.mul_one]
  | v :: vs, acc => by
    show (stsFrom (moreS acc v) vs).length = _
    rw [stsFrom_len vs, moreS_len]
    unfold szAll
    rw [List.map_cons, List.foldl_cons, foldl_mul _ (1 * v.sz), Nat.one_mul, Nat.mul_assoc]
theorem mem_rg {v : Vr} {x : Int} (h : x ∈ v.rg) : v.lo ≤ x ∧ x ≤ v.hi := by
  unfold Vr.rg at h
  obtain ⟨i, hi, rfl⟩ := List.mem_map.mp h
  have := List.mem_range.mp hi
  omega
theorem mem_more {acc : List (List Int)} {v : Vr} {s : List Int} (h : s ∈ moreS acc v) : ∃ s0 x, s0 ∈ acc ∧ v.lo ≤ x ∧ x ≤ v.hi ∧ s = s0 ++ [x] := by
  unfold moreS at h
  obtain ⟨s0, h0, h1⟩ := List.mem_flatMap.mp h
  obtain ⟨x, hx, rfl⟩ := List.mem_map.mp h1
  obtain ⟨a, b⟩ := mem_rg hx
  exact ⟨s0, x, h0, a, b, rfl⟩
/-- a state by its ranges -/
def In (s : List Int) (vs : List Vr) : Prop := s.length = vs.length ∧ ∀ (i : Nat) (x : Int) (v : Vr), s[i]? = some x → vs[i]? = some v → v.lo ≤ x ∧ x ≤ v.hi
theorem In.snoc {s : List Int} {vs : List Vr} {x : Int} {v : Vr} (h : In s vs) (h0 : v.lo ≤ x) (h1 : x ≤ v.hi) : In (s ++ [x]) (vs ++ [v]) := by
  refine ⟨by simp [h.1], fun i y w e1 e2 => ?_⟩
  by_cases hi : i < s.length
  · rw [List.getElem?_append_left hi] at e1
    rw [List.getElem?_append_left (by rw [← h.1]; exact hi)] at e2
    exact h.2 i y w e1 e2
  · rw [List.getElem?_append_right (by omega)] at e1
    rw [List.getElem?_append_right (by rw [← h.1]; omega)] at e2
    have hz : i - s.length = 0 := by
      have := (List.getElem?_eq_some_iff.mp e1).1
      simp at this
      omega
    rw [hz] at e1
    rw [← h.1, hz] at e2
    cases e1
    cases e2
    exact ⟨h0, h1⟩
theorem sts_in : ∀ (vs ws : List Vr) (acc : List (List Int)), (∀ s ∈ acc, In s ws) → ∀ s ∈ stsFrom acc vs, In s (ws ++ vs)
  | [], ws, acc, h, s, hs => by rw [List.append_nil]; exact h s hs
  | v :: vs, ws, acc, h, s, hs => by
    have := sts_in vs (ws ++ [v]) (moreS acc v) (fun t ht => by
      obtain ⟨s0, x, h0, a, b, rfl⟩ := mem_more ht
      exact (h s0 h0).snoc a b) s hs
    rw [List.append_assoc] at this
    exact this
theorem Pg.states_in {p : Pg} {s : List Int} (h : s ∈ p.states) : In s p.vars := by
  have := sts_in p.vars [] [[]] (fun t ht => by
    rw [List.mem_singleton.mp ht]
    exact ⟨rfl, fun i x v e _ => (by cases e)⟩) s h
  simpa using this
theorem lim1000 {x : Int} (h0 : -1000 ≤ x) (h1 : x ≤ 1000) : Lim 20 x := by
  show x.natAbs < 2 ^ 20
  omega
theorem In.st {p : Pg} {most : Nat} (ok : p.Ok most) {s : List Int} (h : In s p.vars) : p.St s := by
  refine ⟨h.1, fun x hx => ?_⟩
  obtain ⟨i, hi⟩ := List.getElem?_of_mem hx
  have hl := (List.getElem?_eq_some_iff.mp hi).1
  have hl' : i < p.vars.length := by rw [← h.1]; exact hl
  have hv : p.vars[i]? = some p.vars[i] := List.getElem?_eq_getElem hl'
  have := h.2 i x _ hi hv
  have o := ok.vr p.vars[i] (List.getElem_mem _)
  exact lim1000 (by have := o.l0; omega) (by have := o.h1; omega)
theorem Pg.states_len {p : Pg} {most : Nat} (ok : p.Ok most) : p.states.length ≤ most := by
  unfold Pg.states
  rw [stsFrom_len]
  have := ok.sz
  show 1 * szAll p.vars ≤ most
  omega
theorem sz_pos {v : Vr} (o : v.Ok) : 0 < v.sz := by
  have h1 := o.s0
  have h2 := o.s1
  unfold Vr.sz
  omega
theorem szAll_pos : ∀ {vs : List Vr}, (∀ v ∈ vs, v.Ok) → 0 < szAll vs
  | [], _ => by decide
  | v :: vs, h => by
    unfold szAll
    rw [List.map_cons, List.foldl_cons, foldl_mul]
    have h1 := sz_pos (h v List.mem_cons_self)
    have h2 := szAll_pos (vs := vs) fun w hw => h w (List.mem_cons_of_mem _ hw)
    unfold szAll at h2
    exact Nat.mul_pos (by omega) h2
theorem Pg.states_pos {p : Pg} {most : Nat} (ok : p.Ok most) : 0 < p.states.length := by
  unfold Pg.states
  rw [stsFrom_len]
  have := szAll_pos ok.vr
  show 0 < 1 * szAll p.vars
  omega
/-- least and greatest -/
def lmin : List Int → Int
  | [] => 0
  | x :: xs => xs.foldl (fun a b => if b < a then b else a) x
def lmax : List Int → Int
  | [] => 0
  | x :: xs => xs.foldl (fun a b => if b > a then b else a) x
theorem lmin_fold : ∀ (xs : List Int) (x : Int), (xs.foldl (fun a b => if b < a then b else a) x = x ∨ xs.foldl (fun a b => if b < a then b else a) x ∈ xs) ∧ xs.foldl (fun a b => if b < a then b else a) x ≤ x ∧ ∀ y ∈ xs, xs.foldl (fun a b => if b < a then b else a) x ≤ y
  | [], x => ⟨.inl rfl, Int.le_refl _, fun y hy => (by cases hy)⟩
  | y :: ys, x => by
    rw [List.foldl_cons]
    obtain ⟨h1, h2, h3⟩ := lmin_fold ys (if y < x then y else x)
    refine ⟨?_, ?_, fun z hz => ?_⟩
    · rcases h1 with h1 | h1
      · rw [h1]
        split
        · exact .inr List.mem_cons_self
        · exact .inl rfl
      · exact .inr (List.mem_cons_of_mem _ h1)
    · split at h2 <;> split <;> omega
    · rcases List.mem_cons.mp hz with rfl | hz
      · split at h2 <;> split <;> omega
      · exact h3 z hz
theorem lmax_fold : ∀ (xs : List Int) (x : Int), (xs.foldl (fun a b => if b > a then b else a) x = x ∨ xs.foldl (fun a b => if b > a then b else a) x ∈ xs) ∧ x ≤ xs.foldl (fun a b => if b > a then b else a) x ∧ ∀ y ∈ xs, y ≤ xs.foldl (fun a b => if b > a then b else a) x
  | [], x => ⟨.inl rfl, Int.le_refl _, fun y hy => (by cases hy)⟩
  | y :: ys, x => by
    rw [List.foldl_cons]
    obtain ⟨h1, h2, h3⟩ := lmax_fold ys (if y > x then y else x)
    refine ⟨?_, ?_, fun z hz => ?_⟩
    · rcases h1 with h1 | h1
      · rw [h1]
        split
        · exact .inr List.mem_cons_self
        · exact .inl rfl
      · exact .inr (List.mem_cons_of_mem _ h1)
    · split at h2 <;> split <;> omega
    · rcases List.mem_cons.mp hz with rfl | hz
      · split at h2 <;> split <;> omega
      · exact h3 z hz
theorem lmin_is : ∀ {ns : List Int} {m : Int}, m ∈ ns → (∀ y ∈ ns, m ≤ y) → m = lmin ns
  | x :: xs, m, hm, h => by
    obtain ⟨h1, h2, h3⟩ := lmin_fold xs x
    have a : lmin (x :: xs) ≤ m := by
      rcases List.mem_cons.mp hm with rfl | hm
      · exact h2
      · exact h3 m hm
    have b : m ≤ lmin (x :: xs) := by
      show m ≤ xs.foldl _ x
      rcases h1 with h1 | h1
      · rw [h1]; exact h x List.mem_cons_self
      · exact h _ (List.mem_cons_of_mem _ h1)
    omega
theorem lmax_is : ∀ {ns : List Int} {m : Int}, m ∈ ns → (∀ y ∈ ns, y ≤ m) → m = lmax ns
  | x :: xs, m, hm, h => by
    obtain ⟨h1, h2, h3⟩ := lmax_fold xs x
    have a : m ≤ lmax (x :: xs) := by
      rcases List.mem_cons.mp hm with rfl | hm
      · exact h2
      · exact h3 m hm
    have b : lmax (x :: xs) ≤ m := by
      show xs.foldl _ x ≤ m
      rcases h1 with h1 | h1
      · rw [h1]; exact h x List.mem_cons_self
      · exact h _ (List.mem_cons_of_mem _ h1)
    omega
theorem lmin_mem {x : Int} {xs : List Int} : lmin (x :: xs) ∈ x :: xs := by
  obtain ⟨h1, _, _⟩ := lmin_fold xs x
  rcases h1 with h1 | h1
  · show xs.foldl _ x ∈ _
    rw [h1]
    exact List.mem_cons_self
  · exact List.mem_cons_of_mem _ h1
theorem lmax_mem {x : Int} {xs : List Int} : lmax (x :: xs) ∈ x :: xs := by
  obtain ⟨h1, _, _⟩ := lmax_fold xs x
  rcases h1 with h1 | h1
  · show xs.foldl _ x ∈ _
    rw [h1]
    exact List.mem_cons_self
  · exact List.mem_cons_of_mem _ h1
/-- all equal if the ends are -/
theorem all_same {ns : List Int} (h : lmin ns = lmax ns) : ∀ y ∈ ns, y = lmin ns := by
  intro y hy
  cases ns with
  | nil => cases hy
  | cons x xs =>
    have a : lmin (x :: xs) ≤ y := by
      obtain ⟨_, h2, h3⟩ := lmin_fold xs x
      rcases List.mem_cons.mp hy with rfl | hy
      · exact h2
      · exact h3 y hy
    have b : y ≤ lmax (x :: xs) := by
      obtain ⟨_, h2, h3⟩ := lmax_fold xs x
      rcases List.mem_cons.mp hy with rfl | hy
      · exact h2
      · exact h3 y hy
    omega
def limV (ru : Ru) (c : List Int) : Int := match ru with
  | .low => lmin c
  | .high => lmax c
  | .keep v => if lmin c = lmax c then lmin c else v
  | .set v => v
/-- the values of a place -/
def col (ss : List (List Int)) (i : Nat) : List Int := ss.map fun s => s.getD i 0
def Pg.lim (p : Pg) (ss : List (List Int)) : List Int :=
  if p.stopped (ss.headD []) = true ∧ ∀ s ∈ ss, s = ss.headD [] then ss.headD [] else p.vars.zipIdx.map fun q => limV q.1.ru (col ss q.2)
theorem lmin_lim {c : List Int} (h : ∀ x ∈ c, Lim 20 x) : Lim 20 (lmin c) := by
  cases c with
  | nil => show (0 : Int).natAbs < 2 ^ 20; decide
  | cons x xs => exact h _ lmin_mem
theorem lmax_lim {c : List Int} (h : ∀ x ∈ c, Lim 20 x) : Lim 20 (lmax c) := by
  cases c with
  | nil => show (0 : Int).natAbs < 2 ^ 20; decide
  | cons x xs => exact h _ lmax_mem
theorem Pg.lim_st {p : Pg} {most : Nat} (ok : p.Ok most) {ss : List (List Int)} (h0 : ss ≠ []) (h : ∀ s ∈ ss, p.St s) : p.St (p.lim ss) := by
  unfold Pg.lim
  split
  · cases ss with
    | nil => exact absurd rfl h0
    | cons s r => exact h s List.mem_cons_self
  · refine ⟨by rw [List.length_map, List.length_zipIdx], fun x hx => ?_⟩
    obtain ⟨⟨v, i⟩, hq, rfl⟩ := List.mem_map.mp hx
    have hv : v ∈ p.vars := (List.mem_zipIdx hq).2.2 ▸ List.getElem_mem _
    have o := ok.vr v hv
    have hc : ∀ y ∈ col ss i, Lim 20 y := fun y hy => by
      obtain ⟨s, hs, rfl⟩ := List.mem_map.mp hy
      rw [List.getD_eq_getElem?_getD]
      cases e : s[i]? with
      | none => show (0 : Int).natAbs < 2 ^ 20; decide
      | some z => exact (h s hs).sm z (List.mem_of_getElem? e)
    have r := o.ru
    have l0 := o.l0
    have h1 := o.h1
    show Lim 20 (limV v.ru (col ss i))
    unfold limV
    cases e : v.ru with
    | low => exact lmin_lim hc
    | high => exact lmax_lim hc
    | keep w =>
      show Lim 20 (if lmin _ = lmax _ then lmin _ else w)
      split
      · exact lmin_lim hc
      · rw [e] at r
        exact lim1000 (by have := r.1; omega) (by have := r.2; omega)
    | set w =>
      rw [e] at r
      show Lim 20 w
      exact lim1000 (by have := r.1; omega) (by have := r.2; omega)
/-! the step -/
def clip (v : Vr) (x : Int) : Int := if x < v.lo then v.lo else if v.hi < x then v.hi else x
def Pg.nv (g : Pg) (s : List Int) (v : Vr) : Int := match g.asg.lookup v.nm with
  | some e => e.val (g.env s)
  | none => ((g.env s).lookup v.nm).getD 0
def Pg.next (g : Pg) (s : List Int) : List Int := if g.stopped s = true then s else g.vars.map fun v => clip v (g.nv s v)
theorem clip_in {v : Vr} (o : v.Ok) (x : Int) : v.lo ≤ clip v x ∧ clip v x ≤ v.hi := by
  have h1 := o.s0
  have h2 := o.s1
  unfold clip
  split
  · omega
  · split <;> omega
theorem Pg.next_in {g : Pg} {most : Nat} (ok : g.Ok most) {s : List Int} (h : In s g.vars) : In (g.next s) g.vars := by
  unfold Pg.next
  split
  · exact h
  · refine ⟨by rw [List.length_map], fun i x v e1 e2 => ?_⟩
    rw [List.getElem?_map, e2] at e1
    cases e1
    exact clip_in (ok.vr v (List.mem_of_getElem? e2)) _
theorem look_gen {α : Type} (f : α → PyData) (l : List (Str × α)) (x : Str) : lookD (l.map fun p => (PyData.str p.1, f p.2)) (.inr x) = (l.lookup x).map f := by
  induction l with
  | nil => rfl
  | cons p r ih =>
    show (List.find? _ ((PyData.str p.1, f p.2) :: _)).map _ = _
    rw [List.lookup_cons]
    by_cases e : p.1 = x
    · rw [List.find?_cons_of_pos (by exact decide_eq_true e), show (x == p.1) = true from beq_iff_eq.mpr e.symm]
      rfl
    · rw [List.find?_cons_of_neg (by show ¬ decide (p.1 = x) = true; rw [decide_eq_false e]; exact Bool.false_ne_true), show (x == p.1) = false from beq_eq_false_iff_ne.mpr fun q => e q.symm]
      exact ih
/-! what repr writes of them -/
theorem sho_st {g : Pg} {most : Nat} (ok : g.Ok most) {s : List Int} (h : g.St s) : Sho 21 1 8 (stD s) :=
  Sho.tup (m := 8) (n := 0) (Sho.ints (b := 20) fun x hx => lim_log (by decide) (h.sm x hx)) (by rw [List.length_map, h.len]; exact ok.few)
theorem sho_sts {g : Pg} {most m : Nat} (ok : g.Ok most) {ss : List (List Int)} (hl : ss.length ≤ m) (h : ∀ s ∈ ss, g.St s) : Sho 21 2 (m * 9) (.list (ss.map stD)) :=
  Sho.lst (m := m) (n := 8) (fun d hd => by
    obtain ⟨s, hs, rfl⟩ := List.mem_map.mp hd
    exact sho_st ok (h s hs)) (by rw [List.length_map]; exact hl)
def bkE : Nat → Nat
  | 0 => 18
  | n + 1 => 4 * (bkE n + 1)
theorem bkE_mono {m n : Nat} (h : m ≤ n) : bkE m ≤ bkE n := by
  induction n with
  | zero => rw [Nat.le_zero.mp h]; exact Nat.le_refl _
  | succ n ih =>
    by_cases e : m = n + 1
    · rw [e]; exact Nat.le_refl _
    · have := ih (by omega)
      show bkE m ≤ 4 * (bkE n + 1)
      omega
theorem sho_lit {B : Nat} {x : Str} (h : (x.cps.toList.all fun c => decide (c < 16 ^ 8)) = true) (hl : x.length ≤ 8) : Sho B 0 8 (.str x) := Sho.str h hl
theorem sho_op (o : Op) : Sho 21 0 8 (.str o.s) := by cases o <;> exact sho_lit (by decide +kernel) (by decide +kernel)
theorem sho_un (o : Un) : Sho 21 0 8 (.str o.s) := by cases o <;> exact sho_lit (by decide +kernel) (by decide +kernel)
theorem bkE_ge (n : Nat) : 8 ≤ bkE n := Nat.le_trans (by decide) (bkE_mono (Nat.zero_le n))
theorem sho_ex {names : List Str} (hn : ∀ x ∈ names, x.length ≤ 8 ∧ (x.cps.toList.all fun c => decide (c < 16 ^ 8)) = true) : ∀ e : Ex, e.ok names → Sho 21 (e.dep + 1) (bkE e.dep) e.d
  | .int i, h => by
    have h : 0 ≤ i ∧ i < 2 ^ 20 := h
    have hi : Sho 21 0 8 (.int i) := (Sho.int (b := 20) (lim_log (by decide) (show Lim 20 i by show i.natAbs < 2 ^ 20; omega))).mono (Nat.le_refl _) (by decide)
    exact Sho.tup (m := 2) (n := 8) (mem2 (sho_lit (by decide +kernel) (by decide +kernel)) hi) (Nat.le_refl _)
  | .name x, h => by
    have h := hn x h
    exact Sho.tup (m := 2) (n := 8) (mem2 (sho_lit (by decide +kernel) (by decide +kernel)) (sho_lit h.2 h.1)) (Nat.le_refl _)
  | .ite a b c, h => by
    have h : a.ok names ∧ b.ok names ∧ c.ok names := h
    have ha := sho_ex hn a h.1
    have hb := sho_ex hn b h.2.1
    have hc := sho_ex hn c h.2.2
    have d : (Ex.ite a b c).dep = max a.dep (max b.dep c.dep) + 1 := rfl
    rw [d]
    refine Sho.tup (k := max a.dep (max b.dep c.dep) + 1) (m := 4) (n := bkE (max a.dep (max b.dep c.dep))) (fun x hx => ?_) (Nat.le_refl _)
    simp only [List.mem_cons, List.not_mem_nil, or_false] at hx
    rcases hx with rfl | rfl | rfl | rfl
    · exact (sho_lit (by decide +kernel) (by decide +kernel)).mono (Nat.zero_le _) (bkE_ge _)
    · exact ha.mono (by omega) (bkE_mono (by omega))
    · exact hb.mono (by omega) (bkE_mono (by omega))
    · exact hc.mono (by omega) (bkE_mono (by omega))
  | .un o a, h => by
    have h : a.ok names := h
    have ha := sho_ex hn a h
    have d : (Ex.un o a).dep = a.dep + 1 := rfl
    rw [d]
    refine (Sho.tup (k := a.dep + 1) (m := 2) (n := bkE a.dep) (fun x hx => ?_) (Nat.le_refl _)).mono (Nat.le_refl _) (by show _ ≤ 4 * (bkE a.dep + 1); omega)
    simp only [List.mem_cons, List.not_mem_nil, or_false] at hx
    rcases hx with rfl | rfl
    · exact (sho_un o).mono (Nat.zero_le _) (bkE_ge _)
    · exact ha
  | .bin o a b, h => by
    have h : a.ok names ∧ b.ok names := h
    have ha := sho_ex hn a h.1
    have hb := sho_ex hn b h.2
    have d : (Ex.bin o a b).dep = max a.dep b.dep + 1 := rfl
    rw [d]
    refine (Sho.tup (k := max a.dep b.dep + 1) (m := 3) (n := bkE (max a.dep b.dep)) (fun x hx => ?_) (Nat.le_refl _)).mono (Nat.le_refl _) (by show _ ≤ 4 * (bkE (max a.dep b.dep) + 1); omega)
    simp only [List.mem_cons, List.not_mem_nil, or_false] at hx
    rcases hx with rfl | rfl | rfl
    · exact (sho_op o).mono (Nat.zero_le _) (bkE_ge _)
    · exact ha.mono (by omega) (bkE_mono (by omega))
    · exact hb.mono (by omega) (bkE_mono (by omega))
theorem sho_int20 {i : Int} (h : Lim 20 i) : Sho 21 0 0 (.int i) := Sho.int (b := 20) (lim_log (by decide) h)
theorem sho_ru {lo hi : Int} (h0 : -1000 ≤ lo) (h1 : hi ≤ 1000) {r : Ru} (h : r.ok lo hi) : Sho 21 1 18 r.d := by
  have hw : ∀ w : Str, (w.cps.toList.all fun c => decide (c < 16 ^ 8)) = true → w.length ≤ 8 → Sho 21 0 8 (.str w) := fun w a b => sho_lit a b
  cases r with
  | low => exact (Sho.tup (m := 1) (n := 8) (fun d hd => by rw [List.mem_singleton.mp hd]; exact hw _ (by decide +kernel) (by decide +kernel)) (Nat.le_refl _)).mono (Nat.le_refl _) (by decide)
  | high => exact (Sho.tup (m := 1) (n := 8) (fun d hd => by rw [List.mem_singleton.mp hd]; exact hw _ (by decide +kernel) (by decide +kernel)) (Nat.le_refl _)).mono (Nat.le_refl _) (by decide)
  | keep v => exact Sho.tup (m := 2) (n := 8) (mem2 (hw _ (by decide +kernel) (by decide +kernel)) ((sho_int20 (lim1000 (by have := h.1; omega) (by have := h.2; omega))).mono (Nat.le_refl _) (by decide))) (Nat.le_refl _)
  | set v => exact Sho.tup (m := 2) (n := 8) (mem2 (hw _ (by decide +kernel) (by decide +kernel)) ((sho_int20 (lim1000 (by have := h.1; omega) (by have := h.2; omega))).mono (Nat.le_refl _) (by decide))) (Nat.le_refl _)
theorem sho_vr {g : Pg} {most : Nat} (ok : g.Ok most) {v : Vr} (hv : v ∈ g.vars) : Sho 21 2 95 v.d := by
  have o := ok.vr v hv
  have hn := ok.len v.nm (List.mem_map.mpr ⟨v, hv, rfl⟩)
  have l0 := o.l0
  have h1 := o.h1
  have s0 := o.s0
  have s1 := o.s1
  refine Sho.tup (k := 1) (m := 5) (n := 18) (fun d hd => ?_) (Nat.le_refl _)
  simp only [List.mem_cons, List.not_mem_nil, or_false] at hd
  rcases hd with rfl | rfl | rfl | rfl | rfl
  · exact (sho_lit hn.2 hn.1).mono (Nat.zero_le _) (by decide)
  · exact (sho_int20 (lim1000 (by omega) (by omega))).mono (Nat.zero_le _) (by decide)
  · exact (sho_int20 (lim1000 (by omega) (by omega))).mono (Nat.zero_le _) (by decide)
  · exact (sho_int20 (lim1000 (by omega) (by omega))).mono (Nat.zero_le _) (by decide)
  · exact sho_ru l0 h1 o.ru
theorem lookup_mem {α : Type} {x : Str} {e : α} : ∀ {l : List (Str × α)}, l.lookup x = some e → (x, e) ∈ l
  | [], h => by cases h
  | p :: r, h => by
    rw [List.lookup_cons] at h
    by_cases q : x = p.1
    · rw [show (x == p.1) = true from beq_iff_eq.mpr q] at h
      cases h
      rw [q]
      exact List.mem_cons_self
    · rw [show (x == p.1) = false from beq_eq_false_iff_ne.mpr q] at h
      exact List.mem_cons_of_mem _ (lookup_mem h)
theorem asg_keys {g : Pg} {most : Nat} (ok : g.Ok most) (hsub : ∀ a ∈ g.asg, a.1 ∈ g.names) : g.asg.length ≤ 8 := by
  have h1 : (g.asg.map (·.1)).length ≤ g.names.length := by
    have : ∀ (l m : List Str), l.Nodup → (∀ x ∈ l, x ∈ m) → l.length ≤ m.length := by
      intro l
      induction l with
      | nil => intro m _ _; exact Nat.zero_le _
      | cons x r ih =>
        intro m hn hm
        have hx := hm x List.mem_cons_self
        have h2 := ih (m.erase x) (List.nodup_cons.mp hn).2 fun y hy => (List.mem_erase_of_ne (fun (e : y = x) => (List.nodup_cons.mp hn).1 (by rw [← e]; exact hy))).mpr (hm y (List.mem_cons_of_mem _ hy))
        rw [List.length_erase_of_mem hx] at h2
        have := List.length_pos_of_mem hx
        rw [List.length_cons]
        omega
    exact this _ _ ok.an fun x hx => by
      obtain ⟨a, ha, rfl⟩ := List.mem_map.mp hx
      exact hsub a ha
  rw [List.length_map] at h1
  have h2 := ok.few
  unfold Pg.names at h1
  rw [List.length_map] at h1
  omega
theorem sho_pg {g : Pg} {most : Nat} (ok : g.Ok most) : Sho 21 9 240000 g.d := by
  have e4 : bkE 4 = 4948 := by decide
  refine (Sho.tup (k := 8) (m := 3) (n := 79200) (mem3 ?_ ?_ ?_) (Nat.le_refl _)).mono (Nat.le_refl _) (by decide)
  · refine (Sho.tup (k := 2) (m := 8) (n := 95) (fun d hd => ?_) (by rw [List.length_map]; exact ok.few)).mono (by decide) (by decide)
    obtain ⟨v, hv, rfl⟩ := List.mem_map.mp hd
    exact sho_vr ok hv
  · cases e : g.halt with
    | none => exact Sho.none.mono (Nat.zero_le _) (Nat.zero_le _)
    | some x =>
      obtain ⟨xo, xd⟩ := ok.ht x e
      exact (sho_ex ok.len x xo).mono (by omega) (Nat.le_trans (bkE_mono xd) (by rw [e4]; decide))
  · refine (Sho.tup (k := 7) (m := 8) (n := 9898) (fun d hd => ?_) (by rw [List.length_map]; exact asg_keys ok ok.ak)).mono (by decide) (by decide)
    obtain ⟨a, ha, rfl⟩ := List.mem_map.mp hd
    obtain ⟨ao, ad⟩ := ok.as a ha
    have hn := ok.len a.1 (ok.ak a ha)
    refine (Sho.tup (k := 6) (m := 2) (n := 4948) (mem2 ?_ ?_) (Nat.le_refl _)).mono (by decide) (by decide)
    · exact (sho_lit hn.2 hn.1).mono (Nat.zero_le _) (by decide)
    · exact (sho_ex ok.len a.2 ao).mono (by omega) (Nat.le_trans (bkE_mono ad) (by rw [e4]; decide))
/-! helpers of the walks -/
def opsA : List Op := [.add, .sub, .sub, .mul, .mod, .min, .max]
def opsB : List Op := [.eq, .ne, .lt, .le, .gt, .ge, .and, .or]
def nm8 : List Str := ["x", "y", "z2", "w", "a", "count", "q9", "longname"]
theorem szAll_snoc (vs : List Vr) (v : Vr) : szAll (vs ++ [v]) = szAll vs * v.sz := by
  unfold szAll
  rw [List.map_append, List.foldl_append]
  rfl
abbrev vrL (vs : List Vr) : MO := .lst ((vs.map Vr.d).map DV.d)
abbrev asL (as : List (Str × Ex)) : MO := .lst ((as.map asgD).map DV.d)
theorem rangeL_rg (v : Vr) : rangeL v.lo (v.hi + 1 - v.lo).toNat = v.rg.map fun x => DV.d (.int x) := by
  unfold rangeL Vr.rg
  rw [List.map_map]
  rfl
def fsnoc (s : List Int) : DV → Option PyData
  | .d (.int x) => some (stD (s ++ [x]))
  | _ => none
theorem fsnoc_rg (s : List Int) (l : List Int) : (l.map fun x => DV.d (.int x)).filterMap (fsnoc s) = (l.map fun x => s ++ [x]).map stD := by
  induction l with
  | nil => rfl
  | cons x r ih =>
    rw [List.map_cons, List.filterMap_cons_some (show fsnoc s (DV.d (.int x)) = some (stD (s ++ [x])) from rfl), ih]
    rfl
theorem szAll_cons (v : Vr) (vs : List Vr) : szAll (v :: vs) = v.sz * szAll vs := by
  unfold szAll
  rw [List.map_cons, List.foldl_cons, foldl_mul, Nat.one_mul]
theorem szAll_take : ∀ {vs : List Vr} (i : Nat), (∀ v ∈ vs, v.Ok) → szAll (vs.take i) ≤ szAll vs
  | [], i, _ => by rw [List.take_nil]; exact Nat.le_refl _
  | v :: vs, 0, h => szAll_pos h
  | v :: vs, i + 1, h => by
    rw [List.take_succ_cons, szAll_cons, szAll_cons]
    exact Nat.mul_le_mul_left _ (szAll_take i fun w hw => h w (List.mem_cons_of_mem _ hw))
theorem stsFrom_snoc (acc : List (List Int)) (vs : List Vr) (v : Vr) : stsFrom acc (vs ++ [v]) = moreS (stsFrom acc vs) v := by
  unfold stsFrom
  rw [List.foldl_append]
  rfl
theorem more_part (acc : List (List Int)) (v : Vr) (j : Nat) : (moreS (acc.take j) v).length ≤ (moreS acc v).length := by
  rw [moreS_len, moreS_len]
  exact Nat.mul_le_mul_right _ (by rw [List.length_take]; omega)
theorem more_snoc {acc : List (List Int)} {v : Vr} {j : Nat} {s : List Int} (h : acc[j]? = some s) : moreS (acc.take (j + 1)) v = moreS (acc.take j) v ++ v.rg.map fun x => s ++ [x] := by
  rw [take_snoc h]
  unfold moreS
  rw [List.flatMap_append]
  simp
theorem lim_in8 {e : Ex} {env : Env} (h : e.ok (env.map (·.1))) (hs : Small env) (hd : e.dep ≤ 8) : Lim 8000 (e.val env) := (val_lim hs e h).mono (Nat.le_trans (bd_mono hd) (by decide))
theorem in_three (a b c x : Str) : ([PyData.str a, .str b, .str c].any fun y => PyData.eqv y (.str x)) = (decide (a = x) || (decide (b = x) || decide (c = x))) := by
  show (PyData.eqv (.str a) (.str x) || (PyData.eqv (.str b) (.str x) || (PyData.eqv (.str c) (.str x) || false))) = _
  rw [eqv_str, eqv_str, eqv_str, Bool.or_false]
theorem if_three {a b c x : Str} {A B : Prop} (k : Bool) (e : (decide (a = x) || (decide (b = x) || decide (c = x))) = k) (h : if k = true then A else B) : if ([PyData.str a, .str b, .str c].any fun y => PyData.eqv y (.str x)) = true then A else B := by
  rw [in_three, e]
  exact h
theorem inOk_three (a b c x : Str) : InOk [.str a, .str b, .str c] (.str x) := ⟨rfl, rfl, Nat.le_trans (Nat.min_le_right _ _) (Nat.zero_le _)⟩
def six (i j : Int) : List (Key × PyData) := [(.inr "=", .bool (decide (i = j))), (.inr "!=", .bool (!decide (i = j))), (.inr "<", .bool (decide (i < j))), (.inr "<=", .bool (decide (i ≤ j))), (.inr ">", .bool (decide (j < i))), (.inr ">=", .bool (decide (j ≤ i)))]
theorem six_nd : (["=", "!=", "<", "<=", ">", ">="] : List Str).Nodup := by decide +kernel
theorem six_merge (i j : Int) : allKv (mergeD [] ((six i j).map fun p => (p.1, DV.d p.2))) = some ((six i j).map fun p => (keyD p.1, p.2)) := by
  rw [mergeD_new]
  · exact allKv_of _
  · exact List.Pairwise.map (Sum.inr : Str → Key) (fun a b h e => h (Sum.inr.inj e)) six_nd
theorem six_look (i j : Int) (o : Op) (h : o.isCmp = true) : lookD ((six i j).map fun p => (keyD p.1, p.2)) (.inr o.s) = some (.bool (cmpB o i j)) := by
  cases o <;> first | (cases h; done) | kernel_rfl
def fnm : DV → Option PyData
  | .d (.tuple (x :: _)) => some x
  | _ => none
theorem fnm_vars (vs : List Vr) : ((vs.map Vr.d).map DV.d).filterMap fnm = (vs.map (·.nm)).map PyData.str := by
  induction vs with
  | nil => rfl
  | cons v r ih =>
    rw [List.map_cons, List.map_cons, List.filterMap_cons_some (show fnm (DV.d v.d) = some (.str v.nm) from rfl), ih]
    rfl
theorem env_zip : ∀ (l : List Str) (s : List Int), (((l.map (Sum.inr : Str → Key)).zip (dI s)).map fun p => (keyD p.1, p.2)) = (l.zip s).map fun p => (PyData.str p.1, PyData.int p.2)
  | [], _ => rfl
  | _ :: _, [] => rfl
  | x :: l, y :: s => by
    show (keyD (Sum.inr x), PyData.int y) :: (((l.map (Sum.inr : Str → Key)).zip (dI s)).map fun p => (keyD p.1, p.2)) = (PyData.str x, PyData.int y) :: ((l.zip s).map fun p => (PyData.str p.1, PyData.int p.2))
    rw [env_zip l s]
    rfl
theorem zipL_env : ∀ (l : List Str) (s : List Int), zipL (l.map PyData.str) (dI s) = (l.zip s).map fun p => DV.pr (.d (.str p.1)) (.d (.int p.2))
  | [], _ => rfl
  | _ :: _, [] => rfl
  | x :: l, y :: s => by
    show DV.pr (.d (.str x)) (.d (.int y)) :: zipL (l.map PyData.str) (dI s) = DV.pr (.d (.str x)) (.d (.int y)) :: ((l.zip s).map fun p => DV.pr (.d (.str p.1)) (.d (.int p.2)))
    rw [zipL_env l s]
abbrev kvE (env : Env) : List (Key × DV) := env.map fun p => ((Sum.inr p.1 : Key), DV.d (.int p.2))
theorem kvE_all (env : Env) : allKv (kvE env) = some (env.map fun p => (PyData.str p.1, PyData.int p.2)) := by
  induction env with
  | nil => rfl
  | cons p r ih =>
    show (allKv (kvE r)).map _ = _
    rw [ih]
    rfl
theorem first_min {c : List Int} (h0 : c ≠ []) (h : lmin c = lmax c) : atI (dI c) ((0 : Nat) : Int) = some (.int (lmin c)) := by
  cases c with
  | nil => exact absurd rfl h0
  | cons x xs =>
    have := all_same h x List.mem_cons_self
    rw [← this]
    exact atI_nat rfl
def fcol (i : Nat) : DV → Option PyData
  | .d (.tuple ds) => ds[i]?
  | _ => none
theorem fcol_col {i : Nat} : ∀ {ss : List (List Int)}, (∀ s ∈ ss, i < s.length) → ((ss.map stD).map DV.d).filterMap (fcol i) = dI (col ss i)
  | [], _ => rfl
  | s :: ss, h => by
    have hi := h s List.mem_cons_self
    have e : fcol i (DV.d (stD s)) = some (.int (s.getD i 0)) := by
      show (dI s)[i]? = _
      rw [List.getElem?_map, List.getElem?_eq_getElem hi, List.getD_eq_getElem?_getD, List.getElem?_eq_getElem hi]
      rfl
    rw [List.map_cons, List.map_cons, List.filterMap_cons_some e, fcol_col fun t ht => h t (List.mem_cons_of_mem _ ht)]
    rfl
theorem stD_at {s : List Int} {i : Nat} (hi : i < s.length) : atI (dI s) (i : Int) = some (.int s[i]) := atI_nat (by rw [List.getElem?_map, List.getElem?_eq_getElem hi]; rfl)
theorem fcol_at {s : List Int} {i : Nat} (hi : i < s.length) : fcol i (DV.d (stD s)) = some (.int s[i]) := by
  show (dI s)[i]? = _
  rw [List.getElem?_map, List.getElem?_eq_getElem hi]
  rfl
/-- the first and the last of the sorted -/
theorem sorted_ends {c ns : List Int} (h0 : c ≠ []) (hp : ns.Perm c) (hs : ns.Pairwise (· ≤ ·)) : atI (dI ns) ((0 : Nat) : Int) = some (.int (lmin c)) ∧ atI (dI ns) (-1) = some (.int (lmax c)) := by
  have hne : ns ≠ [] := fun e => h0 (by rw [e] at hp; exact (List.nil_perm.mp hp))
  constructor
  · cases ns with
    | nil => exact absurd rfl hne
    | cons x xs =>
      have : x = lmin c := lmin_is (hp.mem_iff.mp List.mem_cons_self) fun y hy => by
        rcases List.mem_cons.mp (hp.mem_iff.mpr hy) with rfl | hy
        · exact Int.le_refl _
        · exact (List.pairwise_cons.mp hs).1 y hy
      rw [← this]
      exact atI_nat rfl
  · obtain ⟨ys, y, rfl⟩ : ∃ ys y, ns = ys ++ [y] := ⟨ns.dropLast, ns.getLast hne, (List.dropLast_concat_getLast hne).symm⟩
    have : y = lmax c := lmax_is (hp.mem_iff.mp (by simp)) fun z hz => by
      rcases List.mem_append.mp (hp.mem_iff.mpr hz) with hz | hz
      · exact (List.pairwise_append.mp hs).2.2 z hz y (by simp)
      · rw [List.mem_singleton.mp hz]; exact Int.le_refl _
    rw [← this]
    show atI (dI (ys ++ [y])) (-1) = _
    rw [show dI (ys ++ [y]) = dI ys ++ [.int y] from List.map_append]
    exact atI_last _ _
theorem one_all {ss L : List (List Int)} (h0 : ss ≠ []) (hn : L.Nodup) (hm : ∀ k, k ∈ L ↔ k ∈ ss) : L.length = 1 ↔ ∀ s ∈ ss, s = ss.headD [] := by
  cases ss with
  | nil => exact absurd rfl h0
  | cons a r =>
    show L.length = 1 ↔ ∀ s ∈ a :: r, s = a
    constructor
    · intro h s hs
      obtain ⟨x, rfl⟩ := List.length_eq_one_iff.mp h
      have e1 := List.mem_singleton.mp ((hm s).mpr hs)
      have e2 := List.mem_singleton.mp ((hm a).mpr List.mem_cons_self)
      rw [e1, e2]
    · intro h
      have ha : a ∈ L := (hm a).mpr List.mem_cons_self
      match L, hn with
      | [], _ => cases ha
      | [x], _ => rfl
      | x :: y :: t, hn =>
        have ex := h x ((hm x).mp List.mem_cons_self)
        have ey := h y ((hm y).mp (List.mem_cons_of_mem _ List.mem_cons_self))
        rw [ex, ey] at hn
        exact absurd List.mem_cons_self (List.nodup_cons.mp hn).1
/-- the limit state's values so far -/
def limTo (g : Pg) (ss : List (List Int)) (i : Nat) : List Int := (g.vars.zipIdx.take i).map fun q => limV q.1.ru (col ss q.2)
theorem limTo_snoc {g : Pg} {ss : List (List Int)} {i : Nat} {v : Vr} (h : g.vars[i]? = some v) : limTo g ss (i + 1) = limTo g ss i ++ [limV v.ru (col ss i)] := by
  unfold limTo
  rw [take_snoc (show g.vars.zipIdx[i]? = some (v, i) by rw [List.getElem?_zipIdx, h]; simp), List.map_append]
  rfl
theorem limTo_all (g : Pg) (ss : List (List Int)) : limTo g ss g.vars.length = g.vars.zipIdx.map fun q => limV q.1.ru (col ss q.2) := by
  unfold limTo
  rw [List.take_of_length_le (by rw [List.length_zipIdx]; exact Nat.le_refl _)]
theorem col_ne {ss : List (List Int)} (h : ss ≠ []) (i : Nat) : col ss i ≠ [] := fun e => h (List.map_eq_nil_iff.mp e)
theorem limTo_len (g : Pg) (ss : List (List Int)) (i : Nat) : (limTo g ss i).length ≤ g.vars.length := by
  unfold limTo
  rw [List.length_map, List.length_take, List.length_zipIdx]
  omega
theorem head_at {ss : List (List Int)} (h : ss ≠ []) : atI (ss.map stD) ((0 : Nat) : Int) = some (stD (ss.headD [])) := by
  cases ss with
  | nil => exact absurd rfl h
  | cons a r => exact atI_nat rfl
theorem head_mem {ss : List (List Int)} (h : ss ≠ []) : ss.headD [] ∈ ss := by
  cases ss with
  | nil => exact absurd rfl h
  | cons a r => exact List.mem_cons_self
theorem ru_at (r : Ru) : ∃ w, atI (match r.d with | .tuple ds => ds | _ => []) ((0 : Nat) : Int) = some (.str w) := by
  cases r <;> exact ⟨_, atI_nat rfl⟩
def fsame (a : List Int) : DV → Option PyData
  | .d x => some (.bool (PyData.eqv x (stD a)))
  | _ => none
theorem fsame_all (a : List Int) : ∀ ss : List (List Int), ((ss.map stD).map DV.d).filterMap (fsame a) = (ss.map fun s => decide (s = a)).map PyData.bool
  | [] => rfl
  | s :: ss => by
    rw [List.map_cons, List.map_cons, List.filterMap_cons_some (show fsame a (DV.d (stD s)) = some (.bool (PyData.eqv (stD s) (stD a))) from rfl), fsame_all a ss, eqv_ti]
    rfl
theorem all_iff (a : List Int) (ss : List (List Int)) : ((ss.map fun s => decide (s = a)).all id) = true ↔ ∀ s ∈ ss, s = a := by
  rw [List.all_eq_true]
  constructor
  · intro h s hs
    have := h (decide (s = a)) (List.mem_map.mpr ⟨s, hs, rfl⟩)
    exact of_decide_eq_true this
  · intro h b hb
    obtain ⟨s, hs, rfl⟩ := List.mem_map.mp hb
    exact decide_eq_true (h s hs)
def nextTo (g : Pg) (s : List Int) (i : Nat) : List Int := (g.vars.take i).map fun v => clip v (g.nv s v)
theorem nextTo_snoc {g : Pg} {s : List Int} {i : Nat} {v : Vr} (h : g.vars[i]? = some v) : nextTo g s (i + 1) = nextTo g s i ++ [clip v (g.nv s v)] := by
  unfold nextTo
  rw [take_snoc h, List.map_append]
  rfl
theorem nextTo_len (g : Pg) (s : List Int) (i : Nat) : (nextTo g s i).length ≤ g.vars.length := by
  unfold nextTo
  rw [List.length_map, List.length_take]
  omega
theorem clip_mm {v : Vr} (o : v.Ok) (x : Int) : (if (if x < v.hi then x else v.hi) > v.lo then (if x < v.hi then x else v.hi) else v.lo) = clip v x := by
  have h1 := o.s0
  have h2 := o.s1
  unfold clip
  split <;> split <;> split <;> (try split) <;> omega
abbrev kvA (g : Pg) (s : List Int) (l : List (Str × Ex)) : List (Key × DV) := l.map fun a => ((Sum.inr a.1 : Key), DV.d (.int (a.2.val (g.env s))))
theorem kvA_all (g : Pg) (s : List Int) (l : List (Str × Ex)) : allKv (kvA g s l) = some (l.map fun a => (PyData.str a.1, PyData.int (a.2.val (g.env s)))) := by
  induction l with
  | nil => rfl
  | cons p r ih =>
    show (allKv (kvA g s r)).map _ = _
    rw [ih]
    rfl
theorem look_in {g : Pg} {s : List Int} (hs : g.St s) {v : Vr} (hv : v ∈ g.vars) : lookD ((g.env s).map fun p => (PyData.str p.1, PyData.int p.2)) (.inr v.nm) = some (.int (((g.env s).lookup v.nm).getD 0)) := by
  rw [look_env, look_some (g.env_fst hs) (List.mem_map.mpr ⟨v, hv, rfl⟩)]
  rfl
theorem asg_pairs : ∀ l : List (Str × Ex), pairsD (l.map asgD) = some (l.map fun a => ((Sum.inr a.1 : Key), a.2.d))
  | [] => rfl
  | a :: r => by
    show (match keyOf (.str a.1), pairsD (r.map asgD) with | some k, some q => some ((k, a.2.d) :: q) | _, _ => none) = _
    rw [asg_pairs r]
    rfl
theorem asg_kv (l : List (Str × Ex)) : (l.map fun a => ((Sum.inr a.1 : Key), a.2.d)).map (fun p => (keyD p.1, p.2)) = l.map fun a => (PyData.str a.1, a.2.d) := by
  rw [List.map_map]
  rfl
def fst4 : DV → Option PyData
  | .d (.tuple [_, _, _, x, _]) => some x
  | _ => none
theorem fst4_vars (vs : List Vr) : ((vs.map Vr.d).map DV.d).filterMap fst4 = dI (vs.map (·.st)) := by
  induction vs with
  | nil => rfl
  | cons v r ih =>
    rw [List.map_cons, List.map_cons, List.filterMap_cons_some (show fst4 (DV.d v.d) = some (.int v.st) from rfl), ih]
    rfl
abbrev stL (ss : List (List Int)) : MO := .lst ((ss.map stD).map DV.d)
/-! ### _law_draws -/
abbrev s__law_draws : Stmt := topS 14
abbrev N__law_draws : List Str := ["script", "numbers", "number", "index"]
theorem sc__law_draws : FnScope N__law_draws ["script"] (defScope s__law_draws) := ⟨rfl, rfl, rfl, by decide +kernel, rfl, by decide +kernel, by decide +kernel⟩
def sp__law_draws : SpD := fun xs M R => ∃ ns : List Int, xs = [.scr ns] ∧ ns.length ≤ 63 ∧ ∀ p nums, M p = none → R (.raw (.ref p)) (updM M p (srcO nums 0 0 0))
def t__law_draws : TSD := (dSeq (dSet 1 (dLcO (diSeq (dSl (dVar 0) dNoPart (dPart (dC (.d (.int 20)))))) (dgName 2) dYes (dCall (g1 absD) (dCons (dVar 2) dNil)) [2]))
  (dSeq (dFor (diEnum (dCons (dSl (dVar 0) (dPart (dC (.d (.int 20)))) (dPart (dC (.d (.int 60))))) dNil)) (dgTup 2 (dgCons (dgName 3) (dgCons (dgName 2) dgNil))) (dStore (dOp (g2 addD) (dOp ixD (dVar 1) (dOp (g2 (intOpC (fun _ j => 0 < j) (· % ·))) (dVar 3) (dC (.d (.int 20))))) (dCall (g1 absD) (dCons (dVar 2) dNil))) (dVar 1) (dOp (g2 (intOpC (fun _ j => 0 < j) (· % ·))) (dVar 3) (dC (.d (.int 20))))))
  (dFreeze 1 (dRet (dLstO (dCons (dVar 1) (dCons (dC (.d (.int 0))) (dCons (dC (.d (.int 0))) (dCons (dC (.d (.int 0))) dNil)))))))))

theorem len__law_draws : ∀ xs M R, sp__law_draws xs M R → xs.length = 1 := by
  rintro xs M R ⟨n, rfl, _⟩
  rfl
def iabs (i : Int) : Int := if i < 0 then -i else i
theorem pure__law_draws : ∀ xs M R, sp__law_draws xs M R → t__law_draws { nx := fun _ M' => R (.d .none) M', rt := R } (startD N__law_draws xs) M := by
  rintro xs M R ⟨ns, rfl, hl, h⟩
  have e1 : cutL ns none (some 20) = ns.take 20 := cut_to ns 20
  have l1 : (ns.take 20).length ≤ 20 := by rw [List.length_take]; omega
  refine sq fun q nq => ?_
  refine ⟨fun i M' => M' = updM M q (.lst (((ns.take 20).take i).map fun n => DV.d (.int (iabs n)))), rfl, ?_, ?_⟩
  · rintro i x M' hx rfl
    rw [e1] at hx
    obtain ⟨d, hd, rfl⟩ := map_get hx
    obtain ⟨n, hn, rfl⟩ : ∃ n, (ns.take 20)[i]? = some n ∧ d = .int n := by
      rw [List.getElem?_map] at hd
      cases e : (ns.take 20)[i]? with
      | none => rw [e] at hd; cases hd
      | some n => rw [e] at hd; cases hd; exact ⟨n, rfl, rfl⟩
    refine getL_of updM_same ⟨smallL (by rw [List.length_map, List.length_take]; omega), ?_⟩
    have et : (ns.take 20).take (i + 1) = (ns.take 20).take i ++ [n] := by
      have := List.take_add_one (l := ns.take 20) (i := i)
      rw [this, hn]
      rfl
    show updM (updM M q _) q _ = updM M q _
    rw [updM_upd, et, List.map_append]
    rfl
  · intro M' hM'
    have e2 : ((List.map DV.d ((cutL ns none (some 20)).map PyData.int))).length = (ns.take 20).length := by rw [e1, List.length_map, List.length_map]
    rw [e2, List.take_length] at hM'
    subst hM'
    -- the second loop
    have e3 : cutL ns (some 20) (some 60) = (ns.drop 20).take 40 := by
      unfold cutL
      rw [show HT.sIx ns.length 0 (some 20) = min 20 ns.length from HT.sIx_nat ns.length 0 20, show HT.sIx ns.length ns.length (some 60) = min 60 ns.length from HT.sIx_nat ns.length ns.length 60]
      by_cases hc : 20 ≤ ns.length
      · rw [Nat.min_eq_left hc]
        by_cases hd : 60 ≤ ns.length
        · rw [Nat.min_eq_left hd]
        · rw [Nat.min_eq_right (by omega), List.take_of_length_le (by rw [List.length_drop]; exact Nat.le_refl _), List.take_of_length_le (by rw [List.length_drop]; omega)]
      · have m1 : min 20 ns.length = ns.length := Nat.min_eq_right (by omega)
        rw [m1, List.drop_of_length_le (Nat.le_refl _), List.drop_of_length_le (show ns.length ≤ 20 by omega), List.take_nil, List.take_nil]
    refine sq ⟨fun i sl M' => ∃ (nums : List Int) (t2 t3 : Option DV), sl = [some (.scr ns), some (.raw (.ref q)), t2, t3] ∧ nums.length = (ns.take 20).length ∧ M' = updM M q (.lst ((dI nums).map DV.d)),
      ⟨(ns.take 20).map iabs, none, none, rfl, by rw [List.length_map], by rw [List.map_map, List.map_map]; rfl⟩, ?_, ?_⟩
    · rintro i x sl M' hx ⟨nums, t2, t3, rfl, hn, rfl⟩
      rw [e3, enumL_get] at hx
      cases hd : (dI ((ns.drop 20).take 40))[i]? with
      | none => rw [hd] at hx; cases hx
      | some d =>
        rw [hd] at hx
        cases hx
        obtain ⟨n, hnn, rfl⟩ : ∃ n, ((ns.drop 20).take 40)[i]? = some n ∧ d = .int n := by
          rw [List.getElem?_map] at hd
          cases e : ((ns.drop 20).take 40)[i]? with
          | none => rw [e] at hd; cases hd
          | some n => rw [e] at hd; cases hd; exact ⟨n, rfl, rfl⟩
        have hlong : 20 < ns.length := by
          have := (List.getElem?_eq_some_iff.mp hnn).1
          rw [List.length_take, List.length_drop] at this
          omega
        have hn20 : nums.length = 20 := by rw [hn, List.length_take]; omega
        have hm : (0 : Int) < 20 := by decide
        have hj : ∃ j : Nat, ((i : Int) % 20) = (j : Int) ∧ j < nums.length := ⟨i % 20, by omega, by omega⟩
        obtain ⟨j, ej, hj⟩ := hj
        have ea : atI ((dI nums).map DV.d) ((i : Int) % 20) = some (.d (.int nums[j])) := by
          rw [ej, atI_map, atI_map, atI_ge hj]
          rfl
        have ei : ixN ((dI nums).map DV.d).length ((i : Int) % 20) = some j := by
          rw [ej, List.length_map, List.length_map]
          unfold ixN
          rw [if_pos (by omega), if_pos (by omega), Int.toNat_natCast]
        refine ⟨rfl, hm, getL_of updM_same (optP_of ea ⟨hm, getL_of updM_same (optP_of ei ?_)⟩)⟩
        refine ⟨nums.set j (nums[j] + iabs n), _, _, rfl, by rw [List.length_set]; exact hn, ?_⟩
        rw [updM_upd]
        show updM M q (.lst (((dI nums).map DV.d).set j (.d (.int (nums[j] + iabs n))))) = _
        rw [show (dI (nums.set j (nums[j] + iabs n))) = (dI nums).set j (.int (nums[j] + iabs n)) from List.map_set, List.map_set]
    · rintro sl M' ⟨nums, t2, t3, rfl, hn, rfl⟩
      refine getL_of updM_same (optP_of (allD_of _) ⟨by show 4 ≤ sizeLine; decide, fun p np => ?_⟩)
      rw [delM_upd nq] at np ⊢
      exact h p nums np
theorem ok__law_draws {P : Program} {w : World} {K : PySem.W.Frag} {mg : Str → Option Value} {base : Heap} {dV : Value} {f : Addr} {fd : FuncData} (F : FunA K "_law_draws" "_law_draws" s__law_draws dV f fd) (b_abs : mg "abs" = none) (b_enumerate : mg "enumerate" = none) : FnG P w K mg base CX0 1 f fd ["script"] (liftSp K sp__law_draws) :=
  F.data sc__law_draws len__law_draws t__law_draws (fun cdv A outer s H E hg hr =>
    (dss_cons (ds_setLcO (i := 1) (own := [("number", 2)]) rfl sc__law_draws.nd rfl rfl (sw_true rfl rfl rfl (by decide +kernel)) (di_seq (de_slice (de_var 0) do_none (do_some de_int))) (blkOk_by (own := [("number", 2)]) (N := N__law_draws) (sc := defScope s__law_draws) (by decide +kernel)) (fun _ _ _ _ _ => (dg_name (i := 2) sc__law_draws.nd rfl (by first | exact Or.inl rfl | exact Or.inr rfl))) (fun _ _ _ _ _ => dts_nil) (fun _ _ _ _ _ => (de_callB cd_abs (by rfl) b_abs (by decide +kernel) (da_cons (de_var 2) da_nil))) (by decide))
      (dss_cons (ds_for PassesOwn.never rfl (di_enum (by rfl) b_enumerate (da_cons (de_slice (de_var 0) (do_some de_int) (do_some de_int)) da_nil)) (dg_tup rfl (dgs_cons (dg_name (i := 3) sc__law_draws.nd rfl (by first | exact Or.inl rfl | exact Or.inr rfl)) (dgs_cons (dg_name (i := 2) sc__law_draws.nd rfl (by first | exact Or.inl rfl | exact Or.inr rfl)) dgs_nil))) (dss_one (ds_store (de_op od_add (de_ix (de_var 1) (de_op od_mod (de_var 3) de_int)) (de_callB cd_abs (by rfl) b_abs (by decide +kernel) (da_cons (de_var 2) da_nil))) (de_var 1) (de_op od_mod (de_var 3) de_int))))
      (dss_freeze 1 (dss_one (ds_ret (de_lstO (da_cons (de_var 1) (da_cons de_int (da_cons de_int (da_cons de_int da_nil))))))))))) pure__law_draws
/-! ### _law_scramble -/
abbrev s__law_scramble : Stmt := topS 13
abbrev N__law_scramble : List Str := ["number", "index", "modulus", "found", "turn"]
theorem sc__law_scramble : FnScope N__law_scramble ["number", "index"] (defScope s__law_scramble) := ⟨rfl, rfl, rfl, by decide +kernel, rfl, by decide +kernel, by decide +kernel⟩
def sp__law_scramble : SpD := fun xs M R => ∃ n i : Int, xs = [.d (.int n), .d (.int i)] ∧ ∀ r, R (.d (.int r)) M
def t__law_scramble : TSD := (dSeq (dSet 2 (dC (.d (.int 2305843009213693951))))
  (dSeq (dSet 3 (dOp (g2 (intOpC (fun _ j => 0 < j) (· % ·))) (dOp (g2 addD) (dOp (g2 addD) (dOp (g2 mulD) (dVar 0) (dC (.d (.int 6364136223846793005)))) (dOp (g2 mulD) (dVar 1) (dC (.d (.int 1442695040888963407))))) (dC (.d (.int 11)))) (dVar 2)))
  (dSeq (dFor (diRange1 (dCons (dC (.d (.int 4))) dNil)) (dgName 4) (dSet 3 (dOp (g2 (intOpC (fun _ j => 0 < j) (· % ·))) (dOp (g2 addD) (dOp (g2 addD) (dOp (g2 addD) (dOp (g2 mulD) (dVar 3) (dVar 3)) (dOp (g2 mulD) (dC (.d (.int 3))) (dVar 3))) (dOp (g2 mulD) (dC (.d (.int 7919))) (dVar 4))) (dVar 1)) (dVar 2))))
  (dRet (dOp (g2 addD) (dOp (g2 mulD) (dVar 3) (dVar 2)) (dOp (g2 (intOpC (fun _ j => 0 < j) (· % ·))) (dOp (g2 addD) (dOp (g2 mulD) (dVar 3) (dC (.d (.int 48271)))) (dVar 1)) (dVar 2)))))))

theorem len__law_scramble : ∀ xs M R, sp__law_scramble xs M R → xs.length = 2 := by
  rintro xs M R ⟨n, i, rfl, _⟩
  rfl
theorem pure__law_scramble : ∀ xs M R, sp__law_scramble xs M R → t__law_scramble { nx := fun _ M' => R (.d .none) M', rt := R } (startD N__law_scramble xs) M := by
  rintro xs M R ⟨n, i, rfl, h⟩
  have hm : (0 : Int) < 2305843009213693951 := by decide
  refine sq (sq ⟨.inl (.inr ⟨by decide, by decide⟩), .inl (.inr ⟨by decide, by decide⟩), hm, ?_⟩)
  refine sq ⟨⟨by decide, by decide⟩, fun k sl M' => ∃ (f : Int) (t : Option DV), sl = [some (.d (.int n)), some (.d (.int i)), some (.d (.int 2305843009213693951)), some (.d (.int f)), t] ∧ M' = M ∧ 0 ≤ f ∧ f < 2305843009213693951,
    ⟨_, none, rfl, rfl, Int.emod_nonneg _ (by decide), Int.emod_lt_of_pos _ (by decide)⟩, ?_, ?_⟩
  · rintro k x sl M' hx ⟨f, t, rfl, rfl, h0, h1⟩
    obtain ⟨rfl, hk⟩ := range_get hx
    refine ⟨.inl (.inl ⟨by omega, by omega⟩), .inl (.inl ⟨by decide, by decide⟩), .inl (.inl ⟨by decide, by decide⟩), hm, ?_⟩
    exact ⟨_, _, rfl, rfl, Int.emod_nonneg _ (by decide), Int.emod_lt_of_pos _ (by decide)⟩
  · rintro sl M' ⟨f, t, rfl, rfl, h0, h1⟩
    exact ⟨.inl (.inr ⟨by decide, by decide⟩), .inl (.inr ⟨by decide, by decide⟩), hm, h _⟩
theorem ok__law_scramble {P : Program} {w : World} {K : PySem.W.Frag} {mg : Str → Option Value} {base : Heap} {dV : Value} {f : Addr} {fd : FuncData} (F : FunA K "_law_scramble" "_law_scramble" s__law_scramble dV f fd) (b_range : mg "range" = none) : FnG P w K mg base CX0 1 f fd ["number", "index"] (liftSp K sp__law_scramble) :=
  F.data sc__law_scramble len__law_scramble t__law_scramble (fun cdv A outer s H E hg hr =>
    (dss_cons (ds_set (i := 2) sc__law_scramble.nd rfl (by first | exact Or.inl rfl | exact Or.inr rfl) de_int)
      (dss_cons (ds_set (i := 3) sc__law_scramble.nd rfl (by first | exact Or.inl rfl | exact Or.inr rfl) (de_op od_mod (de_op od_add (de_op od_add (de_op od_mul (de_var 0) de_int) (de_op od_mul (de_var 1) de_int)) de_int) (de_var 2)))
      (dss_cons (ds_for PassesOwn.never rfl (di_range1 (by rfl) b_range (da_cons de_int da_nil)) (dg_name (i := 4) sc__law_scramble.nd rfl (by first | exact Or.inl rfl | exact Or.inr rfl)) (dss_one (ds_set (i := 3) sc__law_scramble.nd rfl (by first | exact Or.inl rfl | exact Or.inr rfl) (de_op od_mod (de_op od_add (de_op od_add (de_op od_add (de_op od_mul (de_var 3) (de_var 3)) (de_op od_mul de_int (de_var 3))) (de_op od_mul de_int (de_var 4))) (de_var 1)) (de_var 2)))))
      (dss_one (ds_ret (de_op od_add (de_op od_mul (de_var 3) (de_var 2)) (de_op od_mod (de_op od_add (de_op od_mul (de_var 3) de_int) (de_var 1)) (de_var 2))))))))) pure__law_scramble
/-! ### _law_next -/
abbrev s__law_next : Stmt := topS 15
abbrev N__law_next : List Str := ["source", "bound", "numbers", "index", "number", "found"]
theorem sc__law_next : FnScope N__law_next ["source", "bound"] (defScope s__law_next) := ⟨rfl, rfl, rfl, by decide +kernel, rfl, by decide +kernel, by decide +kernel⟩
def sp__law_next : SpD := fun xs M R => ∃ (p : Addr) (b : Int), xs = [.raw (.ref p), .d (.int b)] ∧ 0 < b ∧ b < 2 ^ 200 ∧ Src M p ∧ ∀ r M', 0 ≤ r → r < b → Keeps p M M' → Src M' p → R (.d (.int r)) M'
def t__law_next : TSD := (dSeq (dIfS (dB (dOp (g2 ltD) (dOp ixD (dVar 0) (dC (.d (.int 3)))) (dVar 1))) (dSeq (dPar 2 3 (dCons (dOp ixD (dVar 0) (dC (.d (.int 0)))) (dCons (dOp ixD (dVar 0) (dC (.d (.int 1)))) dNil)))
  (dSeq (dSet 4 (dIf (dB (dOp (g2 neD) (dVar 2) (dLst dNil))) (dOp ixD (dVar 2) (dOp (g2 (intOpC (fun _ j => 0 < j) (· % ·))) (dVar 3) (dCall lenG (dCons (dVar 2) dNil)))) (dC (.d (.int 0)))))
  (dSeq (dIfS (dOr (dB (dOp (g2 (intCmp fun i j => decide (j ≤ i))) (dVar 3) (dCall lenG (dCons (dVar 2) dNil)))) (dB (dOp (g2 ltD) (dVar 4) (dC (.d (.int 1000000000000)))))) (dSet 4 (dCall sp__law_scramble (dCons (dOp (g2 (intOpC (fun _ j => 0 < j) (· % ·))) (dVar 4) (dC (.d (.int 1000000007)))) (dCons (dVar 3) dNil)))) dNext)
  (dSeq (dStore (dOp (g2 addD) (dVar 3) (dC (.d (.int 1)))) (dVar 0) (dC (.d (.int 1))))
  (dSeq (dStore (dVar 4) (dVar 0) (dC (.d (.int 2))))
  (dStore (dVar 4) (dVar 0) (dC (.d (.int 3))))))))) dNext)
  (dSeq (dSet 5 (dOp (g2 (intOpC (fun _ j => 0 < j) (· % ·))) (dOp ixD (dVar 0) (dC (.d (.int 2)))) (dVar 1)))
  (dSeq (dStore (dOp (g2 (intOpC CDivW (· / ·))) (dOp ixD (dVar 0) (dC (.d (.int 2)))) (dVar 1)) (dVar 0) (dC (.d (.int 2))))
  (dSeq (dStore (dOp (g2 (intOpC CDivW (· / ·))) (dOp ixD (dVar 0) (dC (.d (.int 3)))) (dVar 1)) (dVar 0) (dC (.d (.int 3))))
  (dRet (dVar 5))))))

theorem len__law_next : ∀ xs M R, sp__law_next xs M R → xs.length = 2 := by
  rintro xs M R ⟨p, b, rfl, _⟩
  rfl
theorem at4_0 {a b c d : DV} : atI [a, b, c, d] 0 = some a := rfl
theorem at4_1 {a b c d : DV} : atI [a, b, c, d] 1 = some b := rfl
theorem at4_2 {a b c d : DV} : atI [a, b, c, d] 2 = some c := rfl
theorem at4_3 {a b c d : DV} : atI [a, b, c, d] 3 = some d := rfl
theorem pure__law_next : ∀ xs M R, sp__law_next xs M R → t__law_next { nx := fun _ M' => R (.d .none) M', rt := R } (startD N__law_next xs) M := by
  rintro xs M R ⟨p, b, rfl, hb, hb2, ⟨nums, i, z, w, hM⟩, h⟩
  refine seq_cut (fun sl M1 => ∃ (nums : List Int) (i z w : Int) (t2 t3 t4 : Option DV), sl = [some (.raw (.ref p)), some (.d (.int b)), t2, t3, t4, none] ∧ Keeps p M M1 ∧ M1 p = some (srcO nums i z w)) (fun N hN => ?_) ?_
  · refine getL_of hM (optP_of at4_3 ?_)
    refine if_dec (fun hc => ?_) (fun hc => hN _ _ ⟨nums, i, z, w, _, _, _, rfl, Keeps.refl p M, hM⟩)
    refine sq (getL_of hM (optP_of at4_0 ?_))
    refine getL_of hM (optP_of at4_1 ?_)
    refine seq_cut (fun sl M1 => M1 = M ∧ ∃ number : Int, sl = [some (.raw (.ref p)), some (.d (.int b)), some (.d (.list (dI nums))), some (.d (.int i)), some (.d (.int number)), none]) (fun N1 hN1 => ?_) ?_
    · refine optP_of rfl ⟨Nat.zero_le _, eqOk_L (plain_ints _), ?_⟩
      rw [eqv_nil]
      refine if_ndec (fun h1 => ?_) (fun h1 => hN1 _ _ ⟨rfl, 0, rfl⟩)
      have hne : nums ≠ [] := fun z => h1 (dI_nil.mpr z)
      have hl : 0 < nums.length := List.length_pos_iff.mpr hne
      have hl2 : (0 : Int) < ((dI nums).length : Int) := by rw [List.length_map]; omega
      refine ⟨hl2, ?_⟩
      have hj : ∃ j : Nat, i % ((dI nums).length : Int) = (j : Int) ∧ j < nums.length := by
        have a1 := Int.emod_nonneg i (show ((dI nums).length : Int) ≠ 0 by omega)
        have a2 := Int.emod_lt_of_pos i hl2
        rw [List.length_map] at a1 a2 ⊢
        exact ⟨(i % (nums.length : Int)).toNat, by omega, by omega⟩
      obtain ⟨j, ej, hj⟩ := hj
      exact optP_of (by show atI (dI nums) (i % _) = _; rw [ej, atI_map, atI_ge hj]; rfl) (hN1 _ _ ⟨rfl, nums[j], rfl⟩)
    · rintro sl M1 ⟨rfl, number, rfl⟩
      refine seq_cut (fun sl M2 => M2 = M1 ∧ ∃ number : Int, sl = [some (.raw (.ref p)), some (.d (.int b)), some (.d (.list (dI nums))), some (.d (.int i)), some (.d (.int number)), none]) (fun N2 hN2 => ?_) ?_
      · refine if_dec (fun h1 => ?_) (fun h1 => if_dec (fun h2 => ?_) (fun h2 => hN2 _ _ ⟨rfl, number, rfl⟩))
        · exact ⟨(by decide : (0 : Int) < 1000000007), _, _, rfl, fun r => hN2 _ _ ⟨rfl, r, rfl⟩⟩
        · exact ⟨(by decide : (0 : Int) < 1000000007), _, _, rfl, fun r => hN2 _ _ ⟨rfl, r, rfl⟩⟩
      · rintro sl M2 ⟨rfl, n2, rfl⟩
        refine sq (getL_of hM (optP_of (x := 1) rfl ?_))
        refine sq (getL_of updM_same (optP_of (x := 2) rfl ?_))
        refine getL_of updM_same (optP_of (x := 3) rfl ?_)
        exact hN _ _ ⟨nums, i + 1, n2, n2, _, _, _, rfl, (((Keeps.refl p M2).upd _).upd _).upd _, by rw [updM_same]; rfl⟩
  · rintro sl M1 ⟨nums, i, z, w, t2, t3, t4, rfl, hk, hM1⟩
    have hW : CDivW z b := wide_div hb (b := 200) (by omega) (by decide) (by decide)
    have hW2 : CDivW w b := wide_div hb (b := 200) (by omega) (by decide) (by decide)
    refine sq (getL_of hM1 (optP_of at4_2 ⟨hb, ?_⟩))
    refine sq (getL_of hM1 (optP_of at4_2 ⟨hW, ?_⟩))
    refine getL_of hM1 (optP_of (x := 2) rfl ?_)
    refine sq (getL_of updM_same (optP_of at4_3 ⟨hW2, ?_⟩))
    refine getL_of updM_same (optP_of (x := 3) rfl ?_)
    refine h _ _ (Int.emod_nonneg _ (by omega)) (Int.emod_lt_of_pos _ hb) ((hk.upd _).upd _) ⟨nums, i, z / b, w / b, ?_⟩
    rw [updM_same]
    rfl
theorem ok__law_next {P : Program} {w : World} {K : PySem.W.Frag} {mg : Str → Option Value} {base : Heap} {dV : Value} {f : Addr} {fd : FuncData} (F : FunA K "_law_next" "_law_next" s__law_next dV f fd) (D__law_scramble : Def P w K mg base "_law_scramble" 1 sp__law_scramble) (b_len : mg "len" = none) : FnG P w K mg base CX0 2 f fd ["source", "bound"] (liftSp K sp__law_next) :=
  F.data sc__law_next len__law_next t__law_next (fun cdv A outer s H E hg hr =>
    (dss_cons (ds_if (dt_cmp (od_lt hr) (de_ix (de_var 0) de_int) (de_var 1) (nomark _)) (dss_cons (ds_par (i := 2) (j := 3) rfl sc__law_next.nd rfl rfl (by decide) rfl rfl (da_cons (de_ix (de_var 0) de_int) (da_cons (de_ix (de_var 0) de_int) da_nil)) (by rfl))
      (dss_cons (ds_set (i := 4) sc__law_next.nd rfl (by first | exact Or.inl rfl | exact Or.inr rfl) (de_if (dt_cmp (od_ne hr) (de_var 2) (de_lst da_nil) (nomark _)) (de_ix (de_var 2) (de_op od_mod (de_var 3) (de_callB cd_len (by rfl) b_len (by decide +kernel) (da_cons (de_var 2) da_nil)))) de_int))
      (dss_cons (ds_if (dt_w (dw_or (dt_cmp od_ge (de_var 3) (de_callB cd_len (by rfl) b_len (by decide +kernel) (da_cons (de_var 2) da_nil)) (nomark _)) (dw_or1 (dt_cmp (od_lt hr) (de_var 4) de_int (nomark _))))) (dss_one (ds_set (i := 4) sc__law_next.nd rfl (by first | exact Or.inl rfl | exact Or.inr rfl) (D__law_scramble.de hg (hr.mono (by decide)) (by rfl) (da_cons (de_op od_mod (de_var 4) de_int) (da_cons (de_var 3) da_nil))))) dss_nil)
      (dss_cons (ds_store (de_op od_add (de_var 3) de_int) (de_var 0) de_int)
      (dss_cons (ds_store (de_var 4) (de_var 0) de_int)
      (dss_one (ds_store (de_var 4) (de_var 0) de_int))))))) dss_nil)
      (dss_cons (ds_set (i := 5) sc__law_next.nd rfl (by first | exact Or.inl rfl | exact Or.inr rfl) (de_op od_mod (de_ix (de_var 0) de_int) (de_var 1)))
      (dss_cons (ds_store (de_op od_fdiv (de_ix (de_var 0) de_int) (de_var 1)) (de_var 0) de_int)
      (dss_cons (ds_store (de_op od_fdiv (de_ix (de_var 0) de_int) (de_var 1)) (de_var 0) de_int)
      (dss_one (ds_ret (de_var 5)))))))) pure__law_next
/-! ### _law_choose -/
abbrev s__law_choose : Stmt := topS 16
abbrev N__law_choose : List Str := ["source", "items"]
theorem sc__law_choose : FnScope N__law_choose ["source", "items"] (defScope s__law_choose) := ⟨rfl, rfl, rfl, by decide +kernel, rfl, by decide +kernel, by decide +kernel⟩
def sp__law_choose : SpD := fun xs M R => ∃ (p : Addr) (ds : List PyData), xs = [.raw (.ref p), .d (.list ds)] ∧ 0 < ds.length ∧ ds.length ≤ 100000 ∧ Src M p ∧ ∀ d M', d ∈ ds → Keeps p M M' → Src M' p → R (.d d) M'
def t__law_choose : TSD := (dRet (dOp ixD (dVar 1) (dCall sp__law_next (dCons (dVar 0) (dCons (dCall lenG (dCons (dVar 1) dNil)) dNil)))))

theorem len__law_choose : ∀ xs M R, sp__law_choose xs M R → xs.length = 2 := by
  rintro xs M R ⟨p, b, rfl, _⟩
  rfl
theorem pure__law_choose : ∀ xs M R, sp__law_choose xs M R → t__law_choose { nx := fun _ M' => R (.d .none) M', rt := R } (startD N__law_choose xs) M := by
  rintro xs M R ⟨p, ds, rfl, h0, h1, hs, h⟩
  refine ⟨p, (ds.length : Int), rfl, by omega, by omega, hs, fun r M' r0 r1 hk hs' => ?_⟩
  obtain ⟨j, rfl⟩ : ∃ j : Nat, r = (j : Int) := ⟨r.toNat, by omega⟩
  have hj : j < ds.length := by omega
  exact optP_of (atI_ge hj) (h _ M' (List.getElem_mem hj) hk hs')
theorem ok__law_choose {P : Program} {w : World} {K : PySem.W.Frag} {mg : Str → Option Value} {base : Heap} {dV : Value} {f : Addr} {fd : FuncData} (F : FunA K "_law_choose" "_law_choose" s__law_choose dV f fd) (D__law_next : Def P w K mg base "_law_next" 2 sp__law_next) (b_len : mg "len" = none) : FnG P w K mg base CX0 3 f fd ["source", "items"] (liftSp K sp__law_choose) :=
  F.data sc__law_choose len__law_choose t__law_choose (fun cdv A outer s H E hg hr =>
    (dss_one (ds_ret (de_ix (de_var 1) (D__law_next.de hg (hr.mono (by decide)) (by rfl) (da_cons (de_var 0) (da_cons (de_callB cd_len (by rfl) b_len (by decide +kernel) (da_cons (de_var 1) da_nil)) da_nil))))))) pure__law_choose
/-! ### _law_random_rule -/
abbrev s__law_random_rule : Stmt := topS 19
abbrev N__law_random_rule : List Str := ["source", "low", "high", "word"]
theorem sc__law_random_rule : FnScope N__law_random_rule ["source", "low", "high"] (defScope s__law_random_rule) := ⟨rfl, rfl, rfl, by decide +kernel, rfl, by decide +kernel, by decide +kernel⟩
def sp__law_random_rule : SpD := fun xs M R => ∃ (p : Addr) (lo hi : Int), xs = [.raw (.ref p), .d (.int lo), .d (.int hi)] ∧ lo ≤ hi ∧ hi - lo ≤ 100000 ∧ Src M p ∧ ∀ (r : Ru) (M' : Mem), r.ok lo hi → Keeps p M M' → Src M' p → R (.d r.d) M'
def t__law_random_rule : TSD := (dSeq (dSet 3 (dCall sp__law_choose (dCons (dVar 0) (dCons (dLst (dCons (dC (.d (.str "low"))) (dCons (dC (.d (.str "high"))) (dCons (dC (.d (.str "keep"))) (dCons (dC (.d (.str "set"))) dNil))))) dNil))))
  (dSeq (dIfS (dB (dOp (g2 (inD false)) (dVar 3) (dTup (dCons (dC (.d (.str "low"))) (dCons (dC (.d (.str "high"))) dNil))))) (dRet (dTup (dCons (dVar 3) dNil))) dNext)
  (dRet (dTup (dCons (dVar 3) (dCons (dOp (g2 addD) (dVar 1) (dCall sp__law_next (dCons (dVar 0) (dCons (dOp (g2 addD) (dOp (g2 (intOp (· - ·))) (dVar 2) (dVar 1)) (dC (.d (.int 1)))) dNil)))) dNil))))))

theorem len__law_random_rule : ∀ xs M R, sp__law_random_rule xs M R → xs.length = 3 := by
  rintro xs M R ⟨p, lo, hi, rfl, _⟩
  rfl
theorem pure__law_random_rule : ∀ xs M R, sp__law_random_rule xs M R → t__law_random_rule { nx := fun _ M' => R (.d .none) M', rt := R } (startD N__law_random_rule xs) M := by
  rintro xs M R ⟨p, lo, hi, rfl, h0, h1, hS, h⟩
  refine sq (disp ?_)
  refine ⟨p, _, rfl, by decide, by decide, hS, fun d M1 hd k1 s1 => ?_⟩
  have two : ∀ (w : Str) (f : Int → Ru), (∀ v, (f v).d = .tuple [.str w, .int v]) → (∀ v, lo ≤ v → v ≤ hi → (f v).ok lo hi) → sp__law_next [.raw (.ref p), .d (.int (hi - lo + 1))] M1 fun x M2 => g2 addD (.d (.int lo)) x M2 fun y M3 => optP (allD [.d (.str w), y]) fun ds => ds.length ≤ sizeLine ∧ R (.d (.tuple ds)) M3 := fun w f e1 e2 =>
    ⟨p, hi - lo + 1, rfl, by omega, by omega, s1, fun r M2 r0 r1 k2 s2 => disp (by
      have := h (f (lo + r)) M2 (e2 _ (by omega) (by omega)) (k1.trans k2) s2
      rw [e1] at this
      exact this)⟩
  simp only [List.mem_cons, List.not_mem_nil, or_false] at hd
  rcases hd with rfl | rfl | rfl | rfl
  · refine sq (disp ?_)
    exact ⟨inOk_two _ _ _, if_two true (by decide +kernel) (if_yes rfl (disp (h .low M1 trivial k1 s1)))⟩
  · refine sq (disp ?_)
    exact ⟨inOk_two _ _ _, if_two true (by decide +kernel) (if_yes rfl (disp (h .high M1 trivial k1 s1)))⟩
  · refine sq (disp ?_)
    exact ⟨inOk_two _ _ _, if_two false (by decide +kernel) (if_no rfl (two "keep" .keep (fun _ => rfl) fun v a b => ⟨a, b⟩))⟩
  · refine sq (disp ?_)
    exact ⟨inOk_two _ _ _, if_two false (by decide +kernel) (if_no rfl (two "set" .set (fun _ => rfl) fun v a b => ⟨a, b⟩))⟩
theorem ok__law_random_rule {P : Program} {w : World} {K : PySem.W.Frag} {mg : Str → Option Value} {base : Heap} {dV : Value} {f : Addr} {fd : FuncData} (F : FunA K "_law_random_rule" "_law_random_rule" s__law_random_rule dV f fd) (D__law_choose : Def P w K mg base "_law_choose" 3 sp__law_choose) (D__law_next : Def P w K mg base "_law_next" 2 sp__law_next) : FnG P w K mg base CX0 4 f fd ["source", "low", "high"] (liftSp K sp__law_random_rule) :=
  F.data sc__law_random_rule len__law_random_rule t__law_random_rule (fun cdv A outer s H E hg hr =>
    (dss_cons (ds_set (i := 3) sc__law_random_rule.nd rfl (by first | exact Or.inl rfl | exact Or.inr rfl) (D__law_choose.de hg (hr.mono (by decide)) (by rfl) (da_cons (de_var 0) (da_cons (de_lst (da_cons de_str (da_cons de_str (da_cons de_str (da_cons de_str da_nil))))) da_nil))))
      (dss_cons (ds_if (dt_cmp (od_in hr) (de_var 3) (de_tup (da_cons de_str (da_cons de_str da_nil))) rfl) (dss_one (ds_ret (de_tup (da_cons (de_var 3) da_nil)))) dss_nil)
      (dss_one (ds_ret (de_tup (da_cons (de_var 3) (da_cons (de_op od_add (de_var 1) (D__law_next.de hg (hr.mono (by decide)) (by rfl) (da_cons (de_var 0) (da_cons (de_op od_add (de_op od_sub (de_var 2) (de_var 1)) de_int) da_nil)))) da_nil)))))))) pure__law_random_rule
/-! ### _law_random_expression -/
abbrev s__law_random_expression : Stmt := topS 18
abbrev N__law_random_expression : List Str := ["source", "names", "depth", "way", "one", "other"]
theorem sc__law_random_expression : FnScope N__law_random_expression ["source", "names", "depth"] (defScope s__law_random_expression) := ⟨rfl, rfl, rfl, by decide +kernel, rfl, by decide +kernel, by decide +kernel⟩
def sp__law_random_expression (n : Nat) : SpD := fun xs M R => ∃ (p : Addr) (names : List Str) (k : Nat), xs = [.raw (.ref p), .d (.list (names.map PyData.str)), .d (.int (k : Nat))] ∧ k < n ∧ names ≠ [] ∧ names.length ≤ 100 ∧ Src M p ∧ ∀ (e : Ex) (M' : Mem), e.ok names → e.dep ≤ k → Keeps p M M' → Src M' p → R (.d e.d) M'
theorem none__law_random_expression : ∀ xs M R, ¬ sp__law_random_expression 0 xs M R := by
  rintro xs M R ⟨p, names, k, rfl, hk, _⟩
  omega
def t__law_random_expression (n : Nat) : TSD := (dSeq (dSet 3 (dIf (dB (dOp (g2 (intCmp fun i j => decide (j < i))) (dVar 2) (dC (.d (.int 0))))) (dCall sp__law_next (dCons (dVar 0) (dCons (dC (.d (.int 9))) dNil))) (dCall sp__law_next (dCons (dVar 0) (dCons (dC (.d (.int 3))) dNil)))))
  (dSeq (dIfS (dB (dOp (g2 ltD) (dVar 3) (dC (.d (.int 2))))) (dRet (dTup (dCons (dC (.d (.str "name"))) (dCons (dCall sp__law_choose (dCons (dVar 0) (dCons (dVar 1) dNil))) dNil)))) dNext)
  (dSeq (dIfS (dB (dOp (g2 eqD) (dVar 3) (dC (.d (.int 2))))) (dRet (dTup (dCons (dC (.d (.str "int"))) (dCons (dCall sp__law_next (dCons (dVar 0) (dCons (dC (.d (.int 4))) dNil))) dNil)))) dNext)
  (dSeq (dSet 4 (dCall (sp__law_random_expression n) (dCons (dVar 0) (dCons (dVar 1) (dCons (dOp (g2 (intOp (· - ·))) (dVar 2) (dC (.d (.int 1)))) dNil)))))
  (dSeq (dIfS (dB (dOp (g2 eqD) (dVar 3) (dC (.d (.int 3))))) (dRet (dTup (dCons (dCall sp__law_choose (dCons (dVar 0) (dCons (dLst (dCons (dC (.d (.str "neg"))) (dCons (dC (.d (.str "not"))) dNil))) dNil))) (dCons (dVar 4) dNil)))) dNext)
  (dSeq (dSet 5 (dCall (sp__law_random_expression n) (dCons (dVar 0) (dCons (dVar 1) (dCons (dOp (g2 (intOp (· - ·))) (dVar 2) (dC (.d (.int 1)))) dNil)))))
  (dSeq (dIfS (dB (dOp (g2 eqD) (dVar 3) (dC (.d (.int 4))))) (dRet (dTup (dCons (dC (.d (.str "if"))) (dCons (dVar 4) (dCons (dVar 5) (dCons (dCall (sp__law_random_expression n) (dCons (dVar 0) (dCons (dVar 1) (dCons (dOp (g2 (intOp (· - ·))) (dVar 2) (dC (.d (.int 1)))) dNil)))) dNil)))))) dNext)
  (dSeq (dIfS (dB (dOp (g2 ltD) (dVar 3) (dC (.d (.int 7))))) (dRet (dTup (dCons (dCall sp__law_choose (dCons (dVar 0) (dCons (dLst (dCons (dC (.d (.str "+"))) (dCons (dC (.d (.str "-"))) (dCons (dC (.d (.str "-"))) (dCons (dC (.d (.str "*"))) (dCons (dC (.d (.str "mod"))) (dCons (dC (.d (.str "min"))) (dCons (dC (.d (.str "max"))) dNil)))))))) dNil))) (dCons (dVar 4) (dCons (dVar 5) dNil))))) dNext)
  (dRet (dTup (dCons (dCall sp__law_choose (dCons (dVar 0) (dCons (dLst (dCons (dC (.d (.str "="))) (dCons (dC (.d (.str "!="))) (dCons (dC (.d (.str "<"))) (dCons (dC (.d (.str "<="))) (dCons (dC (.d (.str ">"))) (dCons (dC (.d (.str ">="))) (dCons (dC (.d (.str "and"))) (dCons (dC (.d (.str "or"))) dNil))))))))) dNil))) (dCons (dVar 4) (dCons (dVar 5) dNil)))))))))))))

theorem len__law_random_expression : ∀ n xs M R, sp__law_random_expression n xs M R → xs.length = 3 := by
  rintro n xs M R ⟨p, names, k, rfl, _⟩
  rfl
theorem pure__law_random_expression : ∀ n xs M R, sp__law_random_expression (n + 1) xs M R → t__law_random_expression n { nx := fun _ M' => R (.d .none) M', rt := R } (startD N__law_random_expression xs) M := by
  rintro n xs M R ⟨p, names, k, rfl, hk, hne, hnl, hS, h⟩
  refine seq_cut (fun sl M1 => ∃ w : Int, sl = [some (.raw (.ref p)), some (.d (.list (names.map PyData.str))), some (.d (.int (k : Nat))), some (.d (.int w)), none, none] ∧ 0 ≤ w ∧ w < 9 ∧ (k = 0 → w < 3) ∧ Keeps p M M1 ∧ Src M1 p) (fun N hN => ?_) ?_
  · refine if_dec (fun hc => ?_) (fun hc => ?_)
    · exact ⟨p, 9, rfl, by decide, by decide, hS, fun r M1 r0 r1 k1 s1 => hN _ _ ⟨r, rfl, r0, r1, fun e => by omega, k1, s1⟩⟩
    · exact ⟨p, 3, rfl, by decide, by decide, hS, fun r M1 r0 r1 k1 s1 => hN _ _ ⟨r, rfl, r0, by omega, fun _ => r1, k1, s1⟩⟩
  rintro sl M1 ⟨w, rfl, w0, w9, wk, k1, s1⟩
  refine sq (if_dec (fun h2 => ?_) fun h2 => sq (if_dec (fun h3 => ?_) fun h3 => ?_))
  · refine ⟨p, _, rfl, by rw [List.length_map]; exact List.length_pos_iff.mpr hne, by rw [List.length_map]; omega, s1, fun d M2 hd k2 s2 => ?_⟩
    obtain ⟨x, hx, rfl⟩ := List.mem_map.mp hd
    exact disp (h (.name x) M2 hx (Nat.zero_le _) (k1.trans k2) s2)
  · exact ⟨p, 4, rfl, by decide, by decide, s1, fun r M2 r0 r1 k2 s2 => disp (h (.int r) M2 ⟨r0, by omega⟩ (Nat.zero_le _) (k1.trans k2) s2)⟩
  · obtain ⟨m, rfl⟩ : ∃ m, k = m + 1 := ⟨k - 1, by omega⟩
    have ek : (((m + 1 : Nat) : Int) - 1) = (m : Nat) := by omega
    have ea : [DV.raw (.ref p), .d (.list (names.map PyData.str)), .d (.int (((m + 1 : Nat) : Int) - 1))] = [DV.raw (.ref p), .d (.list (names.map PyData.str)), .d (.int (m : Nat))] := by rw [ek]
    refine sq ⟨p, names, m, ea, by omega, hne, hnl, s1, fun a M2 ao ad k2 s2 => ?_⟩
    refine sq (if_dec (fun h4 => ?_) fun h4 => ?_)
    · refine disp ?_
      refine ⟨p, _, rfl, by decide, by decide, s2, fun d M3 hd k3 s3 => ?_⟩
      obtain ⟨o, rfl⟩ : ∃ o : Un, d = .str o.s := by
        simp only [List.mem_cons, List.not_mem_nil, or_false] at hd
        rcases hd with rfl | rfl
        · exact ⟨.neg, rfl⟩
        · exact ⟨.not, rfl⟩
      exact disp (h (.un o a) M3 ao (by show a.dep + 1 ≤ m + 1; omega) ((k1.trans k2).trans k3) s3)
    refine sq ⟨p, names, m, ea, by omega, hne, hnl, s2, fun b M3 bo bd' k3 s3 => ?_⟩
    have k13 := (k1.trans k2).trans k3
    refine sq (if_dec (fun h5 => ?_) fun h5 => ?_)
    · exact ⟨p, names, m, ea, by omega, hne, hnl, s3, fun c M4 co cd k4 s4 => disp (h (.ite a b c) M4 ⟨ao, bo, co⟩ (by show max a.dep (max b.dep c.dep) + 1 ≤ m + 1; omega) (k13.trans k4) s4)⟩
    have fin : ∀ (os : List Op) (M4 : Mem) (d : PyData), d ∈ os.map (fun o => PyData.str o.s) → Keeps p M3 M4 → Src M4 p → optP (allD [.d d, .d a.d, .d b.d]) fun ds => ds.length ≤ sizeLine ∧ R (.d (.tuple ds)) M4 := fun os M4 d hd k4 s4 => by
      obtain ⟨o, _, rfl⟩ := List.mem_map.mp hd
      exact disp (h (.bin o a b) M4 ⟨ao, bo⟩ (by show max a.dep b.dep + 1 ≤ m + 1; omega) (k13.trans k4) s4)
    refine sq (if_dec (fun h6 => ?_) fun h6 => ?_)
    · refine disp ?_
      exact ⟨p, _, rfl, by decide, by decide, s3, fun d M4 hd k4 s4 => fin opsA M4 d hd k4 s4⟩
    · refine disp ?_
      exact ⟨p, _, rfl, by decide, by decide, s3, fun d M4 hd k4 s4 => fin opsB M4 d hd k4 s4⟩
theorem ok__law_random_expression (n : Nat) {P : Program} {w : World} {K : PySem.W.Frag} {mg : Str → Option Value} {base : Heap} {dV : Value} {f : Addr} {fd : FuncData} (F : FunA K "_law_random_expression" "_law_random_expression" s__law_random_expression dV f fd) (D__law_next : Def P w K mg base "_law_next" 2 sp__law_next) (D__law_choose : Def P w K mg base "_law_choose" 3 sp__law_choose) (D__law_random_expression : Def P w K mg base "_law_random_expression" (4 + n) (sp__law_random_expression n)) : FnG P w K mg base CX0 (4 + n + 1) f fd ["source", "names", "depth"] (liftSp K (sp__law_random_expression (n + 1))) :=
  F.data sc__law_random_expression (len__law_random_expression (n + 1)) (t__law_random_expression n) (fun cdv A outer s H E hg hr =>
    (dss_cons (ds_set (i := 3) sc__law_random_expression.nd rfl (by first | exact Or.inl rfl | exact Or.inr rfl) (de_if (dt_cmp od_gt (de_var 2) de_int (nomark _)) (D__law_next.de hg (hr.mono (by omega)) (by rfl) (da_cons (de_var 0) (da_cons de_int da_nil))) (D__law_next.de hg (hr.mono (by omega)) (by rfl) (da_cons (de_var 0) (da_cons de_int da_nil)))))
      (dss_cons (ds_if (dt_cmp (od_lt hr) (de_var 3) de_int (nomark _)) (dss_one (ds_ret (de_tup (da_cons de_str (da_cons (D__law_choose.de hg (hr.mono (by omega)) (by rfl) (da_cons (de_var 0) (da_cons (de_var 1) da_nil))) da_nil))))) dss_nil)
      (dss_cons (ds_if (dt_cmp (od_eq hr) (de_var 3) de_int (nomark _)) (dss_one (ds_ret (de_tup (da_cons de_str (da_cons (D__law_next.de hg (hr.mono (by omega)) (by rfl) (da_cons (de_var 0) (da_cons de_int da_nil))) da_nil))))) dss_nil)
      (dss_cons (ds_set (i := 4) sc__law_random_expression.nd rfl (by first | exact Or.inl rfl | exact Or.inr rfl) (D__law_random_expression.de hg (hr.mono (Nat.le_refl _)) (by rfl) (da_cons (de_var 0) (da_cons (de_var 1) (da_cons (de_op od_sub (de_var 2) de_int) da_nil)))))
      (dss_cons (ds_if (dt_cmp (od_eq hr) (de_var 3) de_int (nomark _)) (dss_one (ds_ret (de_tup (da_cons (D__law_choose.de hg (hr.mono (by omega)) (by rfl) (da_cons (de_var 0) (da_cons (de_lst (da_cons de_str (da_cons de_str da_nil))) da_nil))) (da_cons (de_var 4) da_nil))))) dss_nil)
      (dss_cons (ds_set (i := 5) sc__law_random_expression.nd rfl (by first | exact Or.inl rfl | exact Or.inr rfl) (D__law_random_expression.de hg (hr.mono (Nat.le_refl _)) (by rfl) (da_cons (de_var 0) (da_cons (de_var 1) (da_cons (de_op od_sub (de_var 2) de_int) da_nil)))))
      (dss_cons (ds_if (dt_cmp (od_eq hr) (de_var 3) de_int (nomark _)) (dss_one (ds_ret (de_tup (da_cons de_str (da_cons (de_var 4) (da_cons (de_var 5) (da_cons (D__law_random_expression.de hg (hr.mono (Nat.le_refl _)) (by rfl) (da_cons (de_var 0) (da_cons (de_var 1) (da_cons (de_op od_sub (de_var 2) de_int) da_nil)))) da_nil))))))) dss_nil)
      (dss_cons (ds_if (dt_cmp (od_lt hr) (de_var 3) de_int (nomark _)) (dss_one (ds_ret (de_tup (da_cons (D__law_choose.de hg (hr.mono (by omega)) (by rfl) (da_cons (de_var 0) (da_cons (de_lst (da_cons de_str (da_cons de_str (da_cons de_str (da_cons de_str (da_cons de_str (da_cons de_str (da_cons de_str da_nil)))))))) da_nil))) (da_cons (de_var 4) (da_cons (de_var 5) da_nil)))))) dss_nil)
      (dss_one (ds_ret (de_tup (da_cons (D__law_choose.de hg (hr.mono (by omega)) (by rfl) (da_cons (de_var 0) (da_cons (de_lst (da_cons de_str (da_cons de_str (da_cons de_str (da_cons de_str (da_cons de_str (da_cons de_str (da_cons de_str (da_cons de_str da_nil))))))))) da_nil))) (da_cons (de_var 4) (da_cons (de_var 5) da_nil))))))))))))))) (pure__law_random_expression n)
/-! ### _law_random_program -/
abbrev s__law_random_program : Stmt := topS 20
abbrev N__law_random_program : List Str := ["source", "most", "names", "variables", "states", "name", "low", "bound", "size", "start", "halt", "assignments", "changed", "counted", "flipped"]
theorem sc__law_random_program : FnScope N__law_random_program ["source", "most"] (defScope s__law_random_program) := ⟨rfl, rfl, rfl, by decide +kernel, rfl, by decide +kernel, by decide +kernel⟩
def sp__law_random_program : SpD := fun xs M R => ∃ (p : Addr) (most : Nat), xs = [.raw (.ref p), .d (.int (most : Nat))] ∧ 0 < most ∧ most ≤ 100 ∧ Src M p ∧ ∀ (g : Pg) (M' : Mem), g.Ok most → g.vars ≠ [] → Keeps p M M' → Src M' p → R (.d g.d) M'
def t__law_random_program : TSD := (dSeq (dSet 2 (dLst (dCons (dC (.d (.str "x"))) (dCons (dC (.d (.str "y"))) (dCons (dC (.d (.str "z2"))) (dCons (dC (.d (.str "w"))) (dCons (dC (.d (.str "a"))) (dCons (dC (.d (.str "count"))) (dCons (dC (.d (.str "q9"))) (dCons (dC (.d (.str "longname"))) dNil))))))))))
  (dSeq (dSet 2 (dSl (dVar 2) dNoPart (dPart (dOp (g2 addD) (dC (.d (.int 1))) (dCall sp__law_next (dCons (dVar 0) (dCons (dCall sp__law_choose (dCons (dVar 0) (dCons (dLst (dCons (dC (.d (.int 4))) (dCons (dC (.d (.int 4))) (dCons (dC (.d (.int 8))) dNil)))) dNil))) dNil)))))))
  (dSeq (dSet 3 (dLstO dNil))
  (dSeq (dSet 4 (dC (.d (.int 1))))
  (dSeq (dFor (diSeq (dVar 2)) (dgName 5) (dSeq (dSet 6 (dOp (g2 (intOp (· - ·))) (dCall sp__law_next (dCons (dVar 0) (dCons (dC (.d (.int 4))) dNil))) (dC (.d (.int 2)))))
  (dSeq (dSet 7 (dCall sp__law_choose (dCons (dVar 0) (dCons (dLst (dCons (dC (.d (.int 2))) (dCons (dC (.d (.int 2))) (dCons (dC (.d (.int 3))) (dCons (dC (.d (.int 5))) (dCons (dVar 1) dNil)))))) dNil))))
  (dSeq (dSet 8 (dOp (g2 addD) (dC (.d (.int 1))) (dCall sp__law_next (dCons (dVar 0) (dCons (dCall minG (dCons (dVar 7) (dCons (dOp (g2 (intOpC CDivW (· / ·))) (dVar 1) (dVar 4)) dNil))) dNil)))))
  (dSeq (dSet 4 (dOp (g2 mulD) (dVar 4) (dVar 8)))
  (dSeq (dSet 9 (dOp (g2 addD) (dVar 6) (dCall sp__law_next (dCons (dVar 0) (dCons (dVar 8) dNil)))))
  (dAppend (dVar 3) (dTup (dCons (dVar 5) (dCons (dVar 6) (dCons (dOp (g2 (intOp (· - ·))) (dOp (g2 addD) (dVar 6) (dVar 8)) (dC (.d (.int 1)))) (dCons (dVar 9) (dCons (dCall sp__law_random_rule (dCons (dVar 0) (dCons (dVar 6) (dCons (dOp (g2 (intOp (· - ·))) (dOp (g2 addD) (dVar 6) (dVar 8)) (dC (.d (.int 1)))) dNil)))) dNil)))))))))))))
  (dSeq (dSet 10 (dC (.d .none)))
  (dSeq (dIfS (dB (dOp (g2 eqD) (dCall sp__law_next (dCons (dVar 0) (dCons (dC (.d (.int 3))) dNil))) (dC (.d (.int 0))))) (dSet 10 (dCall (sp__law_random_expression 8) (dCons (dVar 0) (dCons (dVar 2) (dCons (dOp (g2 addD) (dC (.d (.int 1))) (dCall sp__law_next (dCons (dVar 0) (dCons (dC (.d (.int 2))) dNil)))) dNil))))) dNext)
  (dSeq (dSet 11 (dLstO dNil))
  (dSeq (dFor (diSeq (dVar 2)) (dgName 5) (dIfS (dB (dOp (g2 (intCmp fun i j => decide (j < i))) (dCall sp__law_next (dCons (dVar 0) (dCons (dC (.d (.int 6))) dNil))) (dC (.d (.int 0))))) (dSeq (dSet 12 (dCall (sp__law_random_expression 8) (dCons (dVar 0) (dCons (dVar 2) (dCons (dCall sp__law_next (dCons (dVar 0) (dCons (dC (.d (.int 4))) dNil))) dNil)))))
  (dSeq (dSet 13 (dTup (dCons (dC (.d (.str "+"))) (dCons (dTup (dCons (dC (.d (.str "name"))) (dCons (dVar 5) dNil))) (dCons (dCall sp__law_choose (dCons (dVar 0) (dCons (dLst (dCons (dTup (dCons (dC (.d (.str "int"))) (dCons (dC (.d (.int 1))) dNil))) (dCons (dVar 12) dNil))) dNil))) dNil)))))
  (dSeq (dSet 14 (dTup (dCons (dC (.d (.str "-"))) (dCons (dTup (dCons (dC (.d (.str "int"))) (dCons (dC (.d (.int 1))) dNil))) (dCons (dTup (dCons (dC (.d (.str "name"))) (dCons (dVar 5) dNil))) dNil)))))
  (dAppend (dVar 11) (dTup (dCons (dVar 5) (dCons (dCall sp__law_choose (dCons (dVar 0) (dCons (dLst (dCons (dVar 12) (dCons (dVar 12) (dCons (dVar 13) (dCons (dVar 14) dNil))))) dNil))) dNil))))))) dNext))
  (dFreeze 11 (dFreeze 3 (dRet (dTup (dCons (dCall tupleG (dCons (dVar 3) dNil)) (dCons (dVar 10) (dCons (dCall tupleG (dCons (dVar 11) dNil)) dNil))))))))))))))))

theorem len__law_random_program : ∀ xs M R, sp__law_random_program xs M R → xs.length = 2 := by
  rintro xs M R ⟨p, most, rfl, _⟩
  rfl
theorem pure__law_random_program : ∀ xs M R, sp__law_random_program xs M R → t__law_random_program { nx := fun _ M' => R (.d .none) M', rt := R } (startD N__law_random_program xs) M := by
  rintro xs M R ⟨p, most, rfl, m0, m1, hS, h⟩
  refine sq (disp ?_)
  refine seq_cut (fun sl M1 => ∃ (names : List Str) (u_variables u_states u_name u_low u_bound u_size u_start u_halt u_assignments u_changed u_counted u_flipped : Option DV), sl = [some (.raw (.ref p)), some (.d (.int (most : Nat))), some (.d (.list (names.map PyData.str))), u_variables, u_states, u_name, u_low, u_bound, u_size, u_start, u_halt, u_assignments, u_changed, u_counted, u_flipped] ∧ names ≠ [] ∧ names.length ≤ 8 ∧ names.Nodup ∧ (∀ x ∈ names, x ∈ nm8) ∧ Keeps p M M1 ∧ Src M1 p) (fun N hN => ?_) ?_
  · refine disp ?_
    refine ⟨p, _, rfl, by decide, by decide, hS, fun d M1 hd k1 s1 => ?_⟩
    obtain ⟨b, rfl, b0, b1⟩ : ∃ b : Int, d = .int b ∧ 0 < b ∧ b ≤ 8 := by
      simp only [List.mem_cons, List.not_mem_nil, or_false] at hd
      rcases hd with rfl | rfl | rfl <;> exact ⟨_, rfl, by decide, by decide⟩
    refine ⟨p, b, rfl, b0, by omega, s1, fun r M2 r0 r1 k2 s2 => ?_⟩
    obtain ⟨k, rfl⟩ : ∃ k : Nat, r = (k : Nat) := ⟨r.toNat, by omega⟩
    have hc : cutL (nm8.map PyData.str) none (some (1 + ((k : Nat) : Int))) = (nm8.take (k + 1)).map PyData.str := by
      rw [show (1 : Int) + ((k : Nat) : Int) = ((k + 1 : Nat) : Int) by omega, cut_to, List.map_take]
    have l8 : nm8.length = 8 := rfl
    refine hN _ _ ⟨nm8.take (k + 1), _, _, _, _, _, _, _, _, _, _, _, _, (by rw [← hc]; rfl), ?_, ?_, List.Nodup.sublist (List.take_sublist _ _) (by decide +kernel), fun x hx => List.mem_of_mem_take hx, k1.trans k2, s2⟩
    · intro e
      have := congrArg List.length e
      rw [List.length_take, List.length_nil] at this
      omega
    · rw [List.length_take]
      omega
  rintro sl M1 ⟨names, u_variables, u_states, u_name, u_low, u_bound, u_size, u_start, u_halt, u_assignments, u_changed, u_counted, u_flipped, rfl, hne, hnl, hnd, hin, k1, s1⟩
  refine sq ⟨Nat.zero_le _, fun q nq => ?_⟩
  have pq : p ≠ q := fun e => by
    subst e
    obtain ⟨_, _, _, _, hh⟩ := s1
    rw [hh] at nq
    cases nq
  refine sq ?_
  refine seq_cut (fun sl M2 => ∃ (vs : List Vr) (u_states u_name u_low u_bound u_size u_start u_halt u_assignments u_changed u_counted u_flipped : Option DV), sl = [some (.raw (.ref p)), some (.d (.int (most : Nat))), some (.d (.list (names.map PyData.str))), some (.raw (.ref q)), u_states, u_name, u_low, u_bound, u_size, u_start, u_halt, u_assignments, u_changed, u_counted, u_flipped] ∧ vs.map (·.nm) = names ∧ (∀ v ∈ vs, v.Ok) ∧ szAll vs ≤ most ∧ M2 q = some (vrL vs) ∧ Src M2 p ∧ ∀ a, a ≠ p → a ≠ q → M2 a = M a) (fun N hN => ?_) ?_
  · refine ⟨fun i sl M2 => ∃ (vs : List Vr) (u_name u_low u_bound u_size u_start u_halt u_assignments u_changed u_counted u_flipped : Option DV), sl = [some (.raw (.ref p)), some (.d (.int (most : Nat))), some (.d (.list (names.map PyData.str))), some (.raw (.ref q)), some (.d (.int (szAll vs : Nat))), u_name, u_low, u_bound, u_size, u_start, u_halt, u_assignments, u_changed, u_counted, u_flipped] ∧ vs.map (·.nm) = names.take i ∧ (∀ v ∈ vs, v.Ok) ∧ 0 < szAll vs ∧ szAll vs ≤ most ∧ M2 q = some (vrL vs) ∧ Src M2 p ∧ ∀ a, a ≠ p → a ≠ q → M2 a = M a, ?_, ?_, ?_⟩
    · refine ⟨[], _, _, _, _, _, _, _, _, _, _, rfl, rfl, fun v hv => (by cases hv), by decide, m0, updM_same, ?_, fun a h1 h2 => by rw [updM_ne h2]; exact k1 a h1⟩
      exact (at_src p).loc _ _ (updM_ne pq) s1
    · rintro i x sl M2 hx ⟨vs, u_name, u_low, u_bound, u_size, u_start, u_halt, u_assignments, u_changed, u_counted, u_flipped, rfl, hv, hok, hs0, hs1, hq, s2, kk⟩
      obtain ⟨d, hd, rfl⟩ := map_get hx
      obtain ⟨nm, hnm, rfl⟩ : ∃ nm, names[i]? = some nm ∧ d = .str nm := by
        rw [List.getElem?_map] at hd
        cases e : names[i]? with
        | none => rw [e] at hd; cases hd
        | some nm => rw [e] at hd; cases hd; exact ⟨nm, rfl, rfl⟩
      refine sq ⟨p, 4, rfl, by decide, by decide, s2, fun r M3 r0 r1 k3 s3 => ?_⟩
      refine sq (disp ?_)
      refine ⟨p, _, rfl, Nat.le_of_ble_eq_true rfl, Nat.le_of_ble_eq_true rfl, s3, fun d M4 hd k4 s4 => ?_⟩
      obtain ⟨b, rfl, b0, b1⟩ : ∃ b : Int, d = .int b ∧ 0 < b ∧ b ≤ 100 := by
        simp only [List.mem_cons, List.not_mem_nil, or_false] at hd
        rcases hd with rfl | rfl | rfl | rfl | rfl <;> exact ⟨_, rfl, by omega, by omega⟩
      have hdiv : (most : Int) / (szAll vs : Nat) = ((most / szAll vs : Nat) : Int) := by omega
      have hdp : 0 < most / szAll vs := Nat.div_pos hs1 hs0
      have hW : CDivW (most : Int) (szAll vs : Nat) := wide_div (by omega) (b := 200) (by omega) (by decide) (by decide)
      have hdm : most / szAll vs ≤ most := Nat.div_le_self _ _
      refine sq ⟨hW, ?_⟩
      refine ⟨p, (if ((most : Int) / (szAll vs : Nat)) < b then ((most : Int) / (szAll vs : Nat)) else b), rfl, by rw [hdiv]; split <;> omega, by rw [hdiv]; split <;> omega, s4, fun z M5 z0 z1 k5 s5 => ?_⟩
      have zs : z + 1 ≤ ((most / szAll vs : Nat) : Int) := by
        rw [hdiv] at z1
        split at z1 <;> omega
      obtain ⟨n, rfl⟩ : ∃ n : Nat, z = (n : Nat) := ⟨z.toNat, by omega⟩
      have hmul : szAll vs * (n + 1) ≤ most := by
        have h1 : n + 1 ≤ most / szAll vs := by omega
        calc szAll vs * (n + 1) ≤ szAll vs * (most / szAll vs) := Nat.mul_le_mul_left _ h1
          _ ≤ most := Nat.mul_div_le _ _
      refine sq ⟨.inl (.inl ⟨by omega, by omega⟩), ?_⟩
      refine sq ⟨p, 1 + ((n : Nat) : Int), rfl, by omega, by omega, s5, fun t M6 t0 t1 k6 s6 => ?_⟩
      have kq : ∀ {A B : Mem}, Keeps p A B → A q = some (vrL vs) → B q = some (vrL vs) := fun k e => (k q (Ne.symm pq)).trans e
      have k36 := (((k3.trans k4).trans k5).trans k6)
      refine getL_of (kq k36 hq) ?_
      refine ⟨p, r - 2, r - 2 + (1 + ((n : Nat) : Int)) - 1, rfl, by omega, by omega, s6, fun ru M7 rk k7 s7 => disp ?_⟩
      refine getL_of (kq (k36.trans k7) hq) ⟨smallL ?_, ?_⟩
      · have := congrArg List.length hv
        rw [List.length_map, List.length_take] at this
        rw [List.length_map, List.length_map]
        omega
      · have hn : (n : Int) + 1 ≤ most := by omega
        have esz : Vr.sz ⟨nm, r - 2, r - 2 + (1 + ((n : Nat) : Int)) - 1, r - 2 + t, ru⟩ = n + 1 := by
          unfold Vr.sz
          show (r - 2 + (1 + ((n : Nat) : Int)) - 1 + 1 - (r - 2)).toNat = n + 1
          omega
        have ez : ((szAll (vs ++ [⟨nm, r - 2, r - 2 + (1 + ((n : Nat) : Int)) - 1, r - 2 + t, ru⟩]) : Nat) : Int) = (szAll vs : Nat) * (1 + ((n : Nat) : Int)) := by
          rw [szAll_snoc, esz, Int.natCast_mul]
          congr 1
          omega
        refine ⟨vs ++ [⟨nm, r - 2, r - 2 + (1 + ((n : Nat) : Int)) - 1, r - 2 + t, ru⟩], _, _, _, _, _, _, _, _, _, _, (by rw [ez]; rfl), ?_, ?_, ?_, ?_, ?_, ?_, ?_⟩
        · rw [List.map_append, hv, take_snoc hnm]
          rfl
        · intro v hv'
          rcases List.mem_append.mp hv' with hv' | hv'
          · exact hok v hv'
          · rw [List.mem_singleton.mp hv']
            refine ⟨?_, ?_, ?_, ?_, rk⟩
            · show -1000 ≤ r - 2; omega
            · show r - 2 + (1 + ((n : Nat) : Int)) - 1 ≤ 1000; omega
            · show r - 2 ≤ r - 2 + t; omega
            · show r - 2 + t ≤ r - 2 + (1 + ((n : Nat) : Int)) - 1; omega
        · rw [szAll_snoc, esz]
          exact Nat.mul_pos hs0 (by omega)
        · rw [szAll_snoc, esz]
          exact hmul
        · rw [updM_same]
          show some (MO.lst (_ ++ [_])) = _
          unfold vrL
          rw [List.map_append, List.map_append]
          rfl
        · exact (at_src p).loc _ _ (updM_ne pq) s7
        · intro a h1 h2
          rw [updM_ne h2]
          exact (k36.trans k7 a h1).trans (kk a h1 h2)
    · rintro sl M2 ⟨vs, u_name, u_low, u_bound, u_size, u_start, u_halt, u_assignments, u_changed, u_counted, u_flipped, rfl, hv, hok, hs0, hs1, hq, s2, kk⟩
      rw [List.length_map, List.length_map, List.take_length] at hv
      exact hN _ _ ⟨vs, _, _, _, _, _, _, _, _, _, _, _, rfl, hv, hok, hs1, hq, s2, kk⟩
  rintro sl M2 ⟨vs, u_states, u_name, u_low, u_bound, u_size, u_start, u_halt, u_assignments, u_changed, u_counted, u_flipped, rfl, hv, hok, hs1, hq, s2, kk⟩
  refine sq ?_
  refine seq_cut (fun sl M3 => ∃ (halt : Option Ex) (u_states u_name u_low u_bound u_size u_start u_assignments u_changed u_counted u_flipped : Option DV), sl = [some (.raw (.ref p)), some (.d (.int (most : Nat))), some (.d (.list (names.map PyData.str))), some (.raw (.ref q)), u_states, u_name, u_low, u_bound, u_size, u_start, some (.d (haltD halt)), u_assignments, u_changed, u_counted, u_flipped] ∧ (∀ e, halt = some e → e.ok names ∧ e.dep ≤ 4) ∧ Src M3 p ∧ Keeps p M2 M3) (fun N hN => ?_) ?_
  · refine ⟨p, 3, rfl, by decide, by decide, s2, fun r M3 r0 r1 k3 s3 => if_dec (fun hc => ?_) fun hc => ?_⟩
    · refine ⟨p, 2, rfl, by decide, by decide, s3, fun t M4 t0 t1 k4 s4 => ?_⟩
      obtain ⟨n, rfl⟩ : ∃ n : Nat, t = (n : Nat) := ⟨t.toNat, by omega⟩
      refine ⟨p, names, n + 1, ?_, by omega, hne, by omega, s4, fun e M5 eo ed k5 s5 => ?_⟩
      · show [_, _, DV.d (.int (1 + ((n : Nat) : Int)))] = _
        rw [show (1 : Int) + ((n : Nat) : Int) = ((n + 1 : Nat) : Int) by omega]
      · exact hN _ _ ⟨some e, _, _, _, _, _, _, _, _, _, _, rfl, fun e' he => (by cases he; exact ⟨eo, by omega⟩), s5, (k3.trans k4).trans k5⟩
    · exact hN _ _ ⟨none, _, _, _, _, _, _, _, _, _, _, rfl, fun e he => (by cases he), s3, k3⟩
  rintro sl M3 ⟨halt, u_states, u_name, u_low, u_bound, u_size, u_start, u_assignments, u_changed, u_counted, u_flipped, rfl, hh, s3, k3⟩
  have hq3 : M3 q = some (vrL vs) := (k3 q (Ne.symm pq)).trans hq
  refine sq ⟨Nat.zero_le _, fun q2 nq2 => ?_⟩
  have pq2 : p ≠ q2 := fun e => by
    subst e
    obtain ⟨_, _, _, _, hh⟩ := s3
    rw [hh] at nq2
    cases nq2
  have qq2 : q ≠ q2 := fun e => by
    subst e
    rw [hq3] at nq2
    cases nq2
  have k03 : ∀ a, a ≠ p → a ≠ q → M3 a = M a := fun a h1 h2 => (k3 a h1).trans (kk a h1 h2)
  refine seq_cut (fun sl M4 => ∃ (as : List (Str × Ex)) (u_states u_name u_low u_bound u_size u_start u_changed u_counted u_flipped : Option DV), sl = [some (.raw (.ref p)), some (.d (.int (most : Nat))), some (.d (.list (names.map PyData.str))), some (.raw (.ref q)), u_states, u_name, u_low, u_bound, u_size, u_start, some (.d (haltD halt)), some (.raw (.ref q2)), u_changed, u_counted, u_flipped] ∧ (as.map (·.1)).Sublist names ∧ (∀ a ∈ as, a.2.ok names ∧ a.2.dep ≤ 4) ∧ M4 q2 = some (asL as) ∧ Src M4 p ∧ ∀ a, a ≠ p → a ≠ q2 → M4 a = M3 a) (fun N hN => ?_) ?_
  · refine ⟨fun i sl M4 => ∃ (as : List (Str × Ex)) (u_states u_name u_low u_bound u_size u_start u_changed u_counted u_flipped : Option DV), sl = [some (.raw (.ref p)), some (.d (.int (most : Nat))), some (.d (.list (names.map PyData.str))), some (.raw (.ref q)), u_states, u_name, u_low, u_bound, u_size, u_start, some (.d (haltD halt)), some (.raw (.ref q2)), u_changed, u_counted, u_flipped] ∧ (as.map (·.1)).Sublist (names.take i) ∧ (∀ a ∈ as, a.2.ok names ∧ a.2.dep ≤ 4) ∧ M4 q2 = some (asL as) ∧ Src M4 p ∧ ∀ a, a ≠ p → a ≠ q2 → M4 a = M3 a, ?_, ?_, ?_⟩
    · exact ⟨[], _, _, _, _, _, _, _, _, _, rfl, List.nil_sublist _, fun a ha => (by cases ha), updM_same, (at_src p).loc _ _ (updM_ne pq2) s3, fun a _ h2 => updM_ne h2⟩
    · rintro i x sl M4 hx ⟨as, u_states, u_name, u_low, u_bound, u_size, u_start, u_changed, u_counted, u_flipped, rfl, hsub, hao, hq4, s4, k4⟩
      obtain ⟨d, hd, rfl⟩ := map_get hx
      obtain ⟨nm, hnm, rfl⟩ : ∃ nm, names[i]? = some nm ∧ d = .str nm := by
        rw [List.getElem?_map] at hd
        cases e : names[i]? with
        | none => rw [e] at hd; cases hd
        | some nm => rw [e] at hd; cases hd; exact ⟨nm, rfl, rfl⟩
      have hmem : nm ∈ names := List.mem_of_getElem? hnm
      refine ⟨p, 6, rfl, by decide, by decide, s4, fun r M5 r0 r1 k5 s5 => if_dec (fun hc => ?_) fun hc => ?_⟩
      · refine sq ⟨p, 4, rfl, by decide, by decide, s5, fun t M6 t0 t1 k6 s6 => ?_⟩
        obtain ⟨n, rfl⟩ : ∃ n : Nat, t = (n : Nat) := ⟨t.toNat, by omega⟩
        refine ⟨p, names, n, rfl, by omega, hne, by omega, s6, fun ch M7 co cd k7 s7 => ?_⟩
        refine sq (disp ?_)
        refine disp ?_
        refine disp ?_
        refine ⟨p, _, rfl, Nat.le_of_ble_eq_true rfl, Nat.le_of_ble_eq_true rfl, s7, fun d M8 hd k8 s8 => ?_⟩
        obtain ⟨c2, rfl, c2o, c2d⟩ : ∃ c2 : Ex, d = c2.d ∧ c2.ok names ∧ c2.dep ≤ 3 := by
          simp only [List.mem_cons, List.not_mem_nil, or_false] at hd
          rcases hd with rfl | rfl
          · exact ⟨.int 1, rfl, ⟨by decide, by decide⟩, Nat.zero_le _⟩
          · exact ⟨ch, rfl, co, by omega⟩
        refine disp ?_
        refine sq (disp ?_)
        refine disp ?_
        refine disp ?_
        have k58 := ((k5.trans k6).trans k7).trans k8
        refine getL_of ((k58 q2 (Ne.symm pq2)).trans hq4) ?_
        refine disp ?_
        refine ⟨p, _, rfl, Nat.le_of_ble_eq_true rfl, Nat.le_of_ble_eq_true rfl, s8, fun d M9 hd k9 s9 => ?_⟩
        obtain ⟨e, rfl, eo, ed⟩ : ∃ e : Ex, d = e.d ∧ e.ok names ∧ e.dep ≤ 4 := by
          simp only [List.mem_cons, List.not_mem_nil, or_false] at hd
          rcases hd with rfl | rfl | rfl | rfl
          · exact ⟨ch, rfl, co, by omega⟩
          · exact ⟨ch, rfl, co, by omega⟩
          · exact ⟨.bin .add (.name nm) c2, rfl, ⟨hmem, c2o⟩, by show max 0 c2.dep + 1 ≤ 4; omega⟩
          · exact ⟨.bin .sub (.int 1) (.name nm), rfl, ⟨⟨by decide, by decide⟩, hmem⟩, by show max 0 0 + 1 ≤ 4; decide⟩
        refine disp ?_
        have k59 := k58.trans k9
        refine getL_of ((k59 q2 (Ne.symm pq2)).trans hq4) ⟨smallL ?_, ?_⟩
        · have := hsub.length_le
          rw [List.length_map, List.length_take] at this
          rw [List.length_map, List.length_map]
          omega
        · refine ⟨as ++ [(nm, e)], _, _, _, _, _, _, _, _, _, rfl, ?_, ?_, ?_, (at_src p).loc _ _ (updM_ne pq2) s9, fun a h1 h2 => ?_⟩
          · rw [List.map_append, take_snoc hnm]
            exact List.Sublist.append hsub (List.Sublist.refl _)
          · intro a ha
            rcases List.mem_append.mp ha with ha | ha
            · exact hao a ha
            · rw [List.mem_singleton.mp ha]; exact ⟨eo, ed⟩
          · rw [updM_same]
            unfold asL
            rw [List.map_append, List.map_append]
            rfl
          · rw [updM_ne h2]
            exact (k59 a h1).trans (k4 a h1 h2)
      · refine ⟨as, _, _, _, _, _, _, _, _, _, rfl, hsub.trans (List.take_sublist_take_left (by omega)), hao, (k5 q2 (Ne.symm pq2)).trans hq4, s5, fun a h1 h2 => (k5 a h1).trans (k4 a h1 h2)⟩
    · rintro sl M4 ⟨as, u_states, u_name, u_low, u_bound, u_size, u_start, u_changed, u_counted, u_flipped, rfl, hsub, hao, hq4, s4, k4⟩
      rw [List.length_map, List.length_map, List.take_length] at hsub
      exact hN _ _ ⟨as, _, _, _, _, _, _, _, _, _, rfl, hsub, hao, hq4, s4, k4⟩
  rintro sl M4 ⟨as, u_states, u_name, u_low, u_bound, u_size, u_start, u_changed, u_counted, u_flipped, rfl, hsub, hao, hq4, s4, k4⟩
  have hv4 : M4 q = some (vrL vs) := (k4 q (Ne.symm pq) qq2).trans hq3
  refine getL_of hq4 (optP_of (allD_of _) ?_)
  refine getL_of (by rw [delM_ne qq2]; exact hv4) (optP_of (allD_of _) ?_)
  refine disp ?_
  have nn : (Pg.mk vs halt as).names = names := hv
  refine h ⟨vs, halt, as⟩ _ ⟨by rw [nn]; exact hnd, ?_, ?_, hok, ?_, ?_, ?_, ?_, hs1⟩ ?_ ?_ ?_
  · show vs.length ≤ 8
    rw [← hv, List.length_map] at hnl
    exact hnl
  · intro x hx
    rw [nn] at hx
    have := hin x hx
    simp only [nm8, List.mem_cons, List.not_mem_nil, or_false] at this
    rcases this with e | e | e | e | e | e | e | e <;> rw [e] <;> exact ⟨by decide +kernel, by decide +kernel⟩
  · intro e he
    rw [nn]
    exact hh e he
  · intro a ha
    rw [nn]
    exact hao a ha
  · exact List.Nodup.sublist hsub hnd
  · intro a ha
    rw [nn]
    exact hsub.subset (List.mem_map.mpr ⟨a, ha, rfl⟩)
  · intro e
    apply hne
    have e : vs = [] := e
    rw [← hv, e]
    rfl
  · intro a ha
    by_cases e1 : a = q
    · subst e1
      rw [delM_same]
      exact (k1 a ha).symm ▸ nq.symm
    · rw [delM_ne e1]
      by_cases e2 : a = q2
      · subst e2
        rw [delM_same]
        exact ((k03 a ha e1).symm.trans nq2).symm
      · rw [delM_ne e2]
        exact (k4 a ha e2).trans (k03 a ha e1)
  · refine (at_src p).loc _ _ ?_ s4
    rw [delM_ne pq, delM_ne pq2]
theorem ok__law_random_program {P : Program} {w : World} {K : PySem.W.Frag} {mg : Str → Option Value} {base : Heap} {dV : Value} {f : Addr} {fd : FuncData} (F : FunA K "_law_random_program" "_law_random_program" s__law_random_program dV f fd) (D__law_next : Def P w K mg base "_law_next" 2 sp__law_next) (D__law_choose : Def P w K mg base "_law_choose" 3 sp__law_choose) (D__law_random_rule : Def P w K mg base "_law_random_rule" 4 sp__law_random_rule) (D__law_random_expression : Def P w K mg base "_law_random_expression" 12 (sp__law_random_expression 8)) (b_min : mg "min" = none) (b_tuple : mg "tuple" = none) : FnG P w K mg base CX0 13 f fd ["source", "most"] (liftSp K sp__law_random_program) :=
  F.data sc__law_random_program len__law_random_program t__law_random_program (fun cdv A outer s H E hg hr =>
    (dss_cons (ds_set (i := 2) sc__law_random_program.nd rfl (by first | exact Or.inl rfl | exact Or.inr rfl) (de_lst (da_cons de_str (da_cons de_str (da_cons de_str (da_cons de_str (da_cons de_str (da_cons de_str (da_cons de_str (da_cons de_str da_nil))))))))))
      (dss_cons (ds_set (i := 2) sc__law_random_program.nd rfl (by first | exact Or.inl rfl | exact Or.inr rfl) (de_slice (de_var 2) do_none (do_some (de_op od_add de_int (D__law_next.de hg (hr.mono (by decide)) (by rfl) (da_cons (de_var 0) (da_cons (D__law_choose.de hg (hr.mono (by decide)) (by rfl) (da_cons (de_var 0) (da_cons (de_lst (da_cons de_int (da_cons de_int (da_cons de_int da_nil)))) da_nil))) da_nil)))))))
      (dss_cons (ds_set (i := 3) sc__law_random_program.nd rfl (by first | exact Or.inl rfl | exact Or.inr rfl) (de_lstO da_nil))
      (dss_cons (ds_set (i := 4) sc__law_random_program.nd rfl (by first | exact Or.inl rfl | exact Or.inr rfl) de_int)
      (dss_cons (ds_for PassesOwn.never rfl (di_seq (de_var 2)) (dg_name (i := 5) sc__law_random_program.nd rfl (by first | exact Or.inl rfl | exact Or.inr rfl)) (dss_cons (ds_set (i := 6) sc__law_random_program.nd rfl (by first | exact Or.inl rfl | exact Or.inr rfl) (de_op od_sub (D__law_next.de hg (hr.mono (by decide)) (by rfl) (da_cons (de_var 0) (da_cons de_int da_nil))) de_int))
      (dss_cons (ds_set (i := 7) sc__law_random_program.nd rfl (by first | exact Or.inl rfl | exact Or.inr rfl) (D__law_choose.de hg (hr.mono (by decide)) (by rfl) (da_cons (de_var 0) (da_cons (de_lst (da_cons de_int (da_cons de_int (da_cons de_int (da_cons de_int (da_cons (de_var 1) da_nil)))))) da_nil))))
      (dss_cons (ds_set (i := 8) sc__law_random_program.nd rfl (by first | exact Or.inl rfl | exact Or.inr rfl) (de_op od_add de_int (D__law_next.de hg (hr.mono (by decide)) (by rfl) (da_cons (de_var 0) (da_cons (de_callB (cd_min rfl) (by rfl) b_min (by decide +kernel) (da_cons (de_var 7) (da_cons (de_op od_fdiv (de_var 1) (de_var 4)) da_nil))) da_nil)))))
      (dss_cons (ds_set (i := 4) sc__law_random_program.nd rfl (by first | exact Or.inl rfl | exact Or.inr rfl) (de_op od_mul (de_var 4) (de_var 8)))
      (dss_cons (ds_set (i := 9) sc__law_random_program.nd rfl (by first | exact Or.inl rfl | exact Or.inr rfl) (de_op od_add (de_var 6) (D__law_next.de hg (hr.mono (by decide)) (by rfl) (da_cons (de_var 0) (da_cons (de_var 8) da_nil)))))
      (dss_one (ds_append (de_var 3) (de_tup (da_cons (de_var 5) (da_cons (de_var 6) (da_cons (de_op od_sub (de_op od_add (de_var 6) (de_var 8)) de_int) (da_cons (de_var 9) (da_cons (D__law_random_rule.de hg (hr.mono (by decide)) (by rfl) (da_cons (de_var 0) (da_cons (de_var 6) (da_cons (de_op od_sub (de_op od_add (de_var 6) (de_var 8)) de_int) da_nil)))) da_nil))))))))))))))
      (dss_cons (ds_set (i := 10) sc__law_random_program.nd rfl (by first | exact Or.inl rfl | exact Or.inr rfl) de_non)
      (dss_cons (ds_if (dt_cmp (od_eq hr) (D__law_next.de hg (hr.mono (by decide)) (by rfl) (da_cons (de_var 0) (da_cons de_int da_nil))) de_int (nomark _)) (dss_one (ds_set (i := 10) sc__law_random_program.nd rfl (by first | exact Or.inl rfl | exact Or.inr rfl) (D__law_random_expression.de hg (hr.mono (by decide)) (by rfl) (da_cons (de_var 0) (da_cons (de_var 2) (da_cons (de_op od_add de_int (D__law_next.de hg (hr.mono (by decide)) (by rfl) (da_cons (de_var 0) (da_cons de_int da_nil)))) da_nil)))))) dss_nil)
      (dss_cons (ds_set (i := 11) sc__law_random_program.nd rfl (by first | exact Or.inl rfl | exact Or.inr rfl) (de_lstO da_nil))
      (dss_cons (ds_for PassesOwn.never rfl (di_seq (de_var 2)) (dg_name (i := 5) sc__law_random_program.nd rfl (by first | exact Or.inl rfl | exact Or.inr rfl)) (dss_one (ds_if (dt_cmp od_gt (D__law_next.de hg (hr.mono (by decide)) (by rfl) (da_cons (de_var 0) (da_cons de_int da_nil))) de_int (nomark _)) (dss_cons (ds_set (i := 12) sc__law_random_program.nd rfl (by first | exact Or.inl rfl | exact Or.inr rfl) (D__law_random_expression.de hg (hr.mono (by decide)) (by rfl) (da_cons (de_var 0) (da_cons (de_var 2) (da_cons (D__law_next.de hg (hr.mono (by decide)) (by rfl) (da_cons (de_var 0) (da_cons de_int da_nil))) da_nil)))))
      (dss_cons (ds_set (i := 13) sc__law_random_program.nd rfl (by first | exact Or.inl rfl | exact Or.inr rfl) (de_tup (da_cons de_str (da_cons (de_tup (da_cons de_str (da_cons (de_var 5) da_nil))) (da_cons (D__law_choose.de hg (hr.mono (by decide)) (by rfl) (da_cons (de_var 0) (da_cons (de_lst (da_cons (de_tup (da_cons de_str (da_cons de_int da_nil))) (da_cons (de_var 12) da_nil))) da_nil))) da_nil)))))
      (dss_cons (ds_set (i := 14) sc__law_random_program.nd rfl (by first | exact Or.inl rfl | exact Or.inr rfl) (de_tup (da_cons de_str (da_cons (de_tup (da_cons de_str (da_cons de_int da_nil))) (da_cons (de_tup (da_cons de_str (da_cons (de_var 5) da_nil))) da_nil)))))
      (dss_one (ds_append (de_var 11) (de_tup (da_cons (de_var 5) (da_cons (D__law_choose.de hg (hr.mono (by decide)) (by rfl) (da_cons (de_var 0) (da_cons (de_lst (da_cons (de_var 12) (da_cons (de_var 12) (da_cons (de_var 13) (da_cons (de_var 14) da_nil))))) da_nil))) da_nil)))))))) dss_nil)))
      (dss_freeze 11 (dss_freeze 3 (dss_one (ds_ret (de_tup (da_cons (de_callTy cd_tuple (by rfl) b_tuple (by decide +kernel) (da_cons (de_var 3) da_nil)) (da_cons (de_var 10) (da_cons (de_callTy cd_tuple (by rfl) b_tuple (by decide +kernel) (da_cons (de_var 11) da_nil)) da_nil)))))))))))))))))) pure__law_random_program
/-! ### _law_every_state -/
abbrev s__law_every_state : Stmt := topS 26
abbrev N__law_every_state : List Str := ["program", "found", "name", "low", "high", "start", "rule", "longer", "state", "value"]
theorem sc__law_every_state : FnScope N__law_every_state ["program"] (defScope s__law_every_state) := ⟨rfl, rfl, rfl, by decide +kernel, rfl, by decide +kernel, by decide +kernel⟩
def sp__law_every_state : SpD := fun xs M R => ∃ (g : Pg) (most : Nat), xs = [.d g.d] ∧ g.Ok most ∧ most ≤ 100 ∧ R (.d (.list (g.states.map stD))) M
def t__law_every_state : TSD := (dSeq (dSet 1 (dLst (dCons (dTup dNil) dNil)))
  (dSeq (dFor (diSeq (dOp ixD (dVar 0) (dC (.d (.int 0))))) (dgTup 5 (dgCons (dgName 2) (dgCons (dgName 3) (dgCons (dgName 4) (dgCons (dgName 5) (dgCons (dgName 6) dgNil)))))) (dSeq (dSet 7 (dLst dNil))
  (dSeq (dFor (diSeq (dVar 1)) (dgName 8) (dSet 7 (dOp (g2 addD) (dVar 7) (dLc (diRange2 (dCons (dVar 3) (dCons (dOp (g2 addD) (dVar 4) (dC (.d (.int 1)))) dNil))) (dgName 9) dYes (dOp (g2 addD) (dVar 8) (dTup (dCons (dVar 9) dNil))) [9]))))
  (dSet 1 (dVar 7)))))
  (dRet (dVar 1))))

theorem len__law_every_state : ∀ xs M R, sp__law_every_state xs M R → xs.length = 1 := by
  rintro xs M R ⟨g, most, rfl, _⟩
  rfl
theorem pure__law_every_state : ∀ xs M R, sp__law_every_state xs M R → t__law_every_state { nx := fun _ M' => R (.d .none) M', rt := R } (startD N__law_every_state xs) M := by
  rintro xs M R ⟨g, most, rfl, ok, hm, h⟩
  refine sq (disp (disp ?_))
  refine seq_cut (fun sl M1 => M1 = M ∧ ∃ (u_name u_low u_high u_start u_rule u_longer u_state u_value : Option DV), sl = [some (.d g.d), some (.d (.list (g.states.map stD))), u_name, u_low, u_high, u_start, u_rule, u_longer, u_state, u_value]) (fun N hN => ?_) ?_
  · refine optP_of (show atI _ ((0 : Nat) : Int) = some _ from atI_nat rfl) ?_
    refine ⟨fun i sl M1 => M1 = M ∧ ∃ (u_name u_low u_high u_start u_rule u_longer u_state u_value : Option DV), sl = [some (.d g.d), some (.d (.list ((stsFrom [[]] (g.vars.take i)).map stD))), u_name, u_low, u_high, u_start, u_rule, u_longer, u_state, u_value], ⟨rfl, _, _, _, _, _, _, _, _, rfl⟩, ?_, ?_⟩
    · rintro i x sl M1 hx ⟨rfl, u_name, u_low, u_high, u_start, u_rule, u_longer, u_state, u_value, rfl⟩
      obtain ⟨d, hd, rfl⟩ := map_get hx
      rw [List.getElem?_map] at hd
      cases e : g.vars[i]? with
      | none => rw [e] at hd; cases hd
      | some v =>
        rw [e] at hd
        cases hd
        have hv := ok.vr v (List.mem_of_getElem? e)
        have v0 := hv.l0
        have v1 := hv.h1
        have v2 := hv.s0
        have v3 := hv.s1
        have hlen : (stsFrom [[]] (g.vars.take (i + 1))).length ≤ most := by
          rw [stsFrom_len]
          have := szAll_take (i + 1) ok.vr
          have := ok.sz
          show 1 * _ ≤ most
          omega
        rw [take_snoc e, stsFrom_snoc] at hlen
        generalize eacc : stsFrom [[]] (g.vars.take i) = acc at hlen ⊢
        refine ⟨rfl, ?_⟩
        refine sq (disp ?_)
        refine seq_cut (fun sl M2 => M2 = M1 ∧ ∃ (u_found u_name u_low u_high u_start u_rule u_state u_value : Option DV), sl = [some (.d g.d), u_found, u_name, u_low, u_high, u_start, u_rule, some (.d (.list ((moreS acc v).map stD))), u_state, u_value]) (fun N2 hN2 => ?_) ?_
        · refine ⟨fun j sl M2 => M2 = M1 ∧ ∃ (u_name u_start u_rule u_state u_value : Option DV), sl = [some (.d g.d), some (.d (.list (acc.map stD))), u_name, some (.d (.int v.lo)), some (.d (.int v.hi)), u_start, u_rule, some (.d (.list ((moreS (acc.take j) v).map stD))), u_state, u_value], ⟨rfl, _, _, _, _, _, rfl⟩, ?_, ?_⟩
          · rintro j y sl M2 hy ⟨rfl, u_name, u_start, u_rule, u_state, u_value, rfl⟩
            obtain ⟨d, hd, rfl⟩ := map_get hy
            rw [List.getElem?_map] at hd
            cases es : acc[j]? with
            | none => rw [es] at hd; cases hd
            | some s =>
              rw [es] at hd
              cases hd
              have hp := more_part acc v (j + 1)
              have hsn := more_snoc (v := v) es
              rw [hsn, List.length_append] at hp
              refine i_gn (i_set (i_op (i_var rfl (e_cut (fun x M3 => M3 = M2 ∧ x = .d (.list ((v.rg.map fun x => s ++ [x]).map stD))) (fun N3 hN3 => ?_) ?_))))
              · refine ⟨⟨by omega, by omega, by omega, by omega⟩, ?_⟩
                refine lc_pure (items := rangeL v.lo (v.hi + 1 - v.lo).toNat) (fsnoc s) (by rw [rangeL_len]; omega) ?_ ?_
                · intro x hx M3 Y Z hY hZ
                  obtain ⟨k, hk⟩ := List.getElem?_of_mem hx
                  obtain ⟨rfl, _⟩ := range_get hk
                  refine disp ⟨small ?_, ?_⟩
                  · rw [List.length_map]
                    show s.length + 1 ≤ _
                    have : s.length ≤ 100 := by
                      have hin := sts_in (g.vars.take i) [] [[]] (fun t ht => by
                        rw [List.mem_singleton.mp ht]
                        exact ⟨rfl, fun i x v e _ => (by cases e)⟩) s (by rw [eacc]; exact List.mem_of_getElem? es)
                      have h1 := hin.1
                      rw [List.nil_append, List.length_take] at h1
                      have := ok.few
                      omega
                    omega
                  · exact hY _ (by show some (PyData.tuple (dI (s ++ [v.lo + (k : Int)]))) = some (.tuple (dI s ++ [.int (v.lo + (k : Int))])); rw [show dI (s ++ [v.lo + (k : Int)]) = dI s ++ [.int (v.lo + (k : Int))] from List.map_append])
                · exact hN3 _ _ ⟨rfl, by rw [rangeL_rg, fsnoc_rg]⟩
              · rintro x M3 ⟨rfl, rfl⟩
                refine ⟨small (by rw [List.length_map, List.length_map]; omega), rfl, _, _, _, _, _, (by rw [hsn, List.map_append]; rfl)⟩
          · rintro sl M2 ⟨rfl, u_name, u_start, u_rule, u_state, u_value, rfl⟩
            refine hN2 _ _ ⟨rfl, _, _, _, _, _, _, _, _, (by rw [List.length_map, List.length_map, List.take_length])⟩
        · rintro sl M2 ⟨rfl, u_found, u_name, u_low, u_high, u_start, u_rule, u_state, u_value, rfl⟩
          refine ⟨rfl, _, _, _, _, _, _, _, _, (by rw [take_snoc e, stsFrom_snoc, eacc]; rfl)⟩
    · rintro sl M1 ⟨rfl, u_name, u_low, u_high, u_start, u_rule, u_longer, u_state, u_value, rfl⟩
      refine hN _ _ ⟨rfl, _, _, _, _, _, _, _, _, (by rw [List.length_map, List.length_map, List.take_length]; rfl)⟩
  · rintro sl M1 ⟨rfl, u_name, u_low, u_high, u_start, u_rule, u_longer, u_state, u_value, rfl⟩
    exact h
theorem ok__law_every_state {P : Program} {w : World} {K : PySem.W.Frag} {mg : Str → Option Value} {base : Heap} {dV : Value} {f : Addr} {fd : FuncData} (F : FunA K "_law_every_state" "_law_every_state" s__law_every_state dV f fd) (b_range : mg "range" = none) : FnG P w K mg base CX0 1 f fd ["program"] (liftSp K sp__law_every_state) :=
  F.data sc__law_every_state len__law_every_state t__law_every_state (fun cdv A outer s H E hg hr =>
    (dss_cons (ds_set (i := 1) sc__law_every_state.nd rfl (by first | exact Or.inl rfl | exact Or.inr rfl) (de_lst (da_cons (de_tup da_nil) da_nil)))
      (dss_cons (ds_for PassesOwn.never rfl (di_seq (de_ix (de_var 0) de_int)) (dg_tup rfl (dgs_cons (dg_name (i := 2) sc__law_every_state.nd rfl (by first | exact Or.inl rfl | exact Or.inr rfl)) (dgs_cons (dg_name (i := 3) sc__law_every_state.nd rfl (by first | exact Or.inl rfl | exact Or.inr rfl)) (dgs_cons (dg_name (i := 4) sc__law_every_state.nd rfl (by first | exact Or.inl rfl | exact Or.inr rfl)) (dgs_cons (dg_name (i := 5) sc__law_every_state.nd rfl (by first | exact Or.inl rfl | exact Or.inr rfl)) (dgs_cons (dg_name (i := 6) sc__law_every_state.nd rfl (by first | exact Or.inl rfl | exact Or.inr rfl)) dgs_nil)))))) (dss_cons (ds_set (i := 7) sc__law_every_state.nd rfl (by first | exact Or.inl rfl | exact Or.inr rfl) (de_lst da_nil))
      (dss_cons (ds_for PassesOwn.never rfl (di_seq (de_var 1)) (dg_name (i := 8) sc__law_every_state.nd rfl (by first | exact Or.inl rfl | exact Or.inr rfl)) (dss_one (ds_set (i := 7) sc__law_every_state.nd rfl (by first | exact Or.inl rfl | exact Or.inr rfl) (de_op od_add (de_var 7) (de_lc (own := [("value", 9)]) rfl sc__law_every_state.nd (di_range2 (by rfl) b_range (da_cons (de_var 3) (da_cons (de_op od_add (de_var 4) de_int) da_nil))) (blkOk_by (own := [("value", 9)]) (N := N__law_every_state) (sc := defScope s__law_every_state) (by decide +kernel)) (fun _ _ _ _ _ => (dg_name (i := 9) sc__law_every_state.nd rfl (by first | exact Or.inl rfl | exact Or.inr rfl))) (fun _ _ _ _ _ => dts_nil) (fun _ _ _ _ _ => (de_op od_add (de_var 8) (de_tup (da_cons (de_var 9) da_nil)))) (by decide))))))
      (dss_one (ds_set (i := 1) sc__law_every_state.nd rfl (by first | exact Or.inl rfl | exact Or.inr rfl) (de_var 7))))))
      (dss_one (ds_ret (de_var 1)))))) pure__law_every_state
/-! ### _law_identical -/
abbrev s__law_identical : Stmt := topS 17
abbrev N__law_identical : List Str := ["found", "expected"]
theorem sc__law_identical : FnScope N__law_identical ["found", "expected"] (defScope s__law_identical) := ⟨rfl, rfl, rfl, by decide +kernel, rfl, by decide +kernel, by decide +kernel⟩
def sp__law_identical : SpD := fun xs M R => ∃ (x : DV) (d : PyData), xs = [x, .d d] ∧ (x = .d d ∨ ∃ (q : Addr) (ds : List PyData), x = .raw (.ref q) ∧ d = .list ds ∧ M q = some (.lst (ds.map DV.d))) ∧ OkShow d ∧ R (.d (.bool true)) M
def t__law_identical : TSD := (dRet (dOp (g2 eqD) (dCall reprG (dCons (dVar 0) dNil)) (dCall reprG (dCons (dVar 1) dNil))))

theorem len__law_identical : ∀ xs M R, sp__law_identical xs M R → xs.length = 2 := by
  rintro xs M R ⟨x, d, rfl, _⟩
  rfl
theorem pure__law_identical : ∀ xs M R, sp__law_identical xs M R → t__law_identical { nx := fun _ M' => R (.d .none) M', rt := R } (startD N__law_identical xs) M := by
  rintro xs M R ⟨x, d, rfl, hx, ⟨h1, h2, h3, h4⟩, h⟩
  have fin : R (.d (.bool (decide (d.shown = d.shown)))) M := by
    rw [decide_eq_true rfl]
    exact h
  rcases hx with rfl | ⟨q, ds, rfl, rfl, hq⟩
  · exact ⟨h1, h2, h3, h4, h1, h2, h3, h4, fin⟩
  · exact getL_of hq (optP_of (allD_of _) ⟨h1, h2, h3, h4, h1, h2, h3, h4, fin⟩)
theorem ok__law_identical {P : Program} {w : World} {K : PySem.W.Frag} {mg : Str → Option Value} {base : Heap} {dV : Value} {f : Addr} {fd : FuncData} (F : FunA K "_law_identical" "_law_identical" s__law_identical dV f fd) (b_repr : mg "repr" = none) : FnG P w K mg base CX0 1 f fd ["found", "expected"] (liftSp K sp__law_identical) :=
  F.data sc__law_identical len__law_identical t__law_identical (fun cdv A outer s H E hg hr =>
    (dss_one (ds_ret (de_cmp (od_eq hr) (de_callB (cd_reprG hr hg) (by rfl) b_repr (by decide +kernel) (da_cons (de_var 0) da_nil)) (de_callB (cd_reprG hr hg) (by rfl) b_repr (by decide +kernel) (da_cons (de_var 1) da_nil)) (nomark _))))) pure__law_identical
/-! ### start_state -/
abbrev s_start_state : Stmt := topS 7
abbrev N_start_state : List Str := ["program", "name", "low", "high", "start", "rule"]
theorem sc_start_state : FnScope N_start_state ["program"] (defScope s_start_state) := ⟨rfl, rfl, rfl, by decide +kernel, rfl, by decide +kernel, by decide +kernel⟩
def sp_start_state : SpD := fun xs M R => ∃ (g : Pg) (most : Nat), xs = [.d g.d] ∧ g.Ok most ∧ R (.d (stD (g.vars.map (·.st)))) M
def t_start_state : TSD := (dRet (dCall tupleG (dCons (dLc (diSeq (dOp ixD (dVar 0) (dC (.d (.int 0))))) (dgTup 5 (dgCons (dgName 1) (dgCons (dgName 2) (dgCons (dgName 3) (dgCons (dgName 4) (dgCons (dgName 5) dgNil)))))) dYes (dVar 4) [1, 2, 3, 4, 5]) dNil)))

theorem len_start_state : ∀ xs M R, sp_start_state xs M R → xs.length = 1 := by
  rintro xs M R ⟨g, most, rfl, _⟩
  rfl
theorem pure_start_state : ∀ xs M R, sp_start_state xs M R → t_start_state { nx := fun _ M' => R (.d .none) M', rt := R } (startD N_start_state xs) M := by
  rintro xs M R ⟨g, most, rfl, ok, h⟩
  refine i_ret (i_call (i_cons (e_cut (fun x M3 => M3 = M ∧ x = .d (.list (dI (g.vars.map (·.st))))) (fun N hN => ?_) ?_)))
  · refine optP_of (show atI _ ((0 : Nat) : Int) = some _ from atI_nat rfl) ?_
    refine lc_pure (items := (g.vars.map Vr.d).map DV.d) fst4 (by rw [List.length_map, List.length_map]; have := ok.few; omega) ?_ ?_
    · intro x hx M' Y Z hY hZ
      obtain ⟨d, hd, rfl⟩ := List.mem_map.mp hx
      obtain ⟨v, hv, rfl⟩ := List.mem_map.mp hd
      exact ⟨rfl, hY _ rfl⟩
    · exact hN _ _ ⟨rfl, by rw [fst4_vars]⟩
  · rintro x M3 ⟨rfl, rfl⟩
    exact h
theorem ok_start_state {P : Program} {w : World} {K : PySem.W.Frag} {mg : Str → Option Value} {base : Heap} {dV : Value} {f : Addr} {fd : FuncData} (F : FunA K "start_state" "start_state" s_start_state dV f fd) (b_tuple : mg "tuple" = none) : FnG P w K mg base CX0 1 f fd ["program"] (liftSp K sp_start_state) :=
  F.data sc_start_state len_start_state t_start_state (fun cdv A outer s H E hg hr =>
    (dss_one (ds_ret (de_callTy cd_tuple (by rfl) b_tuple (by decide +kernel) (da_cons (de_lc (own := [("name", 1), ("low", 2), ("high", 3), ("start", 4), ("rule", 5)]) rfl sc_start_state.nd (di_seq (de_ix (de_var 0) de_int)) (blkOk_by (own := [("name", 1), ("low", 2), ("high", 3), ("start", 4), ("rule", 5)]) (N := N_start_state) (sc := defScope s_start_state) (by decide +kernel)) (fun _ _ _ _ _ => (dg_tup rfl (dgs_cons (dg_name (i := 1) sc_start_state.nd rfl (by first | exact Or.inl rfl | exact Or.inr rfl)) (dgs_cons (dg_name (i := 2) sc_start_state.nd rfl (by first | exact Or.inl rfl | exact Or.inr rfl)) (dgs_cons (dg_name (i := 3) sc_start_state.nd rfl (by first | exact Or.inl rfl | exact Or.inr rfl)) (dgs_cons (dg_name (i := 4) sc_start_state.nd rfl (by first | exact Or.inl rfl | exact Or.inr rfl)) (dgs_cons (dg_name (i := 5) sc_start_state.nd rfl (by first | exact Or.inl rfl | exact Or.inr rfl)) dgs_nil))))))) (fun _ _ _ _ _ => dts_nil) (fun _ _ _ _ _ => (de_var 4)) (by decide)) da_nil))))) pure_start_state
/-! ### all_states -/
abbrev s_all_states : Stmt := topS 8
abbrev N_all_states : List Str := ["program", "states", "name", "low", "high", "start", "rule", "state", "value"]
theorem sc_all_states : FnScope N_all_states ["program"] (defScope s_all_states) := ⟨rfl, rfl, rfl, by decide +kernel, rfl, by decide +kernel, by decide +kernel⟩
def sp_all_states : SpD := fun xs M R => ∃ (g : Pg) (most : Nat), xs = [.d g.d] ∧ g.Ok most ∧ most ≤ 100 ∧ ∀ q, M q = none → R (.raw (.ref q)) (updM M q (stL g.states))
def t_all_states : TSD := (dSeq (dSet 1 (dLstO (dCons (dTup dNil) dNil)))
  (dSeq (dFor (diSeq (dOp ixD (dVar 0) (dC (.d (.int 0))))) (dgTup 5 (dgCons (dgName 2) (dgCons (dgName 3) (dgCons (dgName 4) (dgCons (dgName 5) (dgCons (dgName 6) dgNil)))))) (dSet 1 (dLc2O (diOwn (dVar 1)) (dgName 7) dYes (diRange2 (dCons (dVar 3) (dCons (dOp (g2 addD) (dVar 4) (dC (.d (.int 1)))) dNil))) (dgName 8) dYes (dOp (g2 addD) (dVar 7) (dTup (dCons (dVar 8) dNil))) [7, 8] [8])))
  (dRet (dVar 1))))

theorem len_all_states : ∀ xs M R, sp_all_states xs M R → xs.length = 1 := by
  rintro xs M R ⟨g, most, rfl, _⟩
  rfl
theorem pure_all_states : ∀ xs M R, sp_all_states xs M R → t_all_states { nx := fun _ M' => R (.d .none) M', rt := R } (startD N_all_states xs) M := by
  rintro xs M R ⟨g, most, rfl, ok, hm, h⟩
  refine sq (disp ?_)
  refine ⟨by show 1 ≤ sizeLine; decide, fun q nq => ?_⟩
  refine seq_cut (fun sl M1 => ∃ (q : Addr) (u_program u_name u_low u_high u_start u_rule u_state u_value : Option DV), sl = [u_program, some (.raw (.ref q)), u_name, u_low, u_high, u_start, u_rule, u_state, u_value] ∧ M q = none ∧ M1 = updM M q (stL g.states)) (fun N hN => ?_) ?_
  · refine optP_of (show atI _ ((0 : Nat) : Int) = some _ from atI_nat rfl) ?_
    refine ⟨fun i sl M1 => ∃ (q : Addr) (u_name u_low u_high u_start u_rule u_state u_value : Option DV), sl = [some (.d g.d), some (.raw (.ref q)), u_name, u_low, u_high, u_start, u_rule, u_state, u_value] ∧ M q = none ∧ M1 = updM M q (stL (stsFrom [[]] (g.vars.take i))), ⟨q, _, _, _, _, _, _, _, rfl, nq, rfl⟩, ?_, ?_⟩
    · rintro i x sl M1 hx ⟨q, u_name, u_low, u_high, u_start, u_rule, u_state, u_value, rfl, nq, rfl⟩
      obtain ⟨d, hd, rfl⟩ := map_get hx
      rw [List.getElem?_map] at hd
      cases e : g.vars[i]? with
      | none => rw [e] at hd; cases hd
      | some v =>
        rw [e] at hd
        cases hd
        have hv := ok.vr v (List.mem_of_getElem? e)
        have v0 := hv.l0
        have v1 := hv.h1
        have v2 := hv.s0
        have v3 := hv.s1
        have hlen : (stsFrom [[]] (g.vars.take (i + 1))).length ≤ most := by
          rw [stsFrom_len]
          have := szAll_take (i + 1) ok.vr
          have := ok.sz
          show 1 * _ ≤ most
          omega
        rw [take_snoc e, stsFrom_snoc] at hlen
        generalize eacc : stsFrom [[]] (g.vars.take i) = acc at hlen ⊢
        refine ⟨rfl, getL_of updM_same ?_⟩
        rw [delM_upd nq]
        intro q2 nq2
        refine ⟨fun j M2 => M2 = updM M q2 (stL (moreS (acc.take j) v)), rfl, ?_, ?_⟩
        · rintro j y M2 hy rfl
          obtain ⟨d, hd, rfl⟩ := map_get hy
          rw [List.getElem?_map] at hd
          cases es : acc[j]? with
          | none => rw [es] at hd; cases hd
          | some s =>
            rw [es] at hd
            cases hd
            have hp := more_part acc v (j + 1)
            have hsn := more_snoc (v := v) es
            rw [hsn, List.length_append, List.length_map] at hp
            have hs8 : s.length ≤ 8 := by
              have hin := sts_in (g.vars.take i) [] [[]] (fun t ht => by
                rw [List.mem_singleton.mp ht]
                exact ⟨rfl, fun i x v e _ => (by cases e)⟩) s (by rw [eacc]; exact List.mem_of_getElem? es)
              have h1 := hin.1
              rw [List.nil_append, List.length_take] at h1
              have := ok.few
              omega
            refine ⟨⟨by omega, by omega, by omega, by omega⟩, ?_⟩
            refine ⟨fun k M3 => M3 = updM M q2 (stL (moreS (acc.take j) v ++ (v.rg.take k).map fun x => s ++ [x])), by simp, ?_, ?_⟩
            · rintro k z M3 hz rfl
              rw [show rangeL v.lo (v.hi + 1 - v.lo).toNat = v.rg.map fun x => DV.d (.int x) from rangeL_rg v] at hz
              obtain ⟨w, hw, rfl⟩ := map_get hz
              have hk := (List.getElem?_eq_some_iff.mp hw).1
              refine disp ?_
              refine ⟨small (by rw [List.length_map]; show s.length + 1 ≤ _; omega), getL_of updM_same ⟨smallL ?_, ?_⟩⟩
              · rw [List.length_map, List.length_map, List.length_append, List.length_map, List.length_take]
                omega
              · have ek : (((moreS (acc.take j) v ++ (v.rg.take k ++ [w]).map fun x => s ++ [x]).map stD).map DV.d) = ((moreS (acc.take j) v ++ (v.rg.take k).map fun x => s ++ [x]).map stD).map DV.d ++ [DV.d (.tuple (dI s ++ [.int w]))] := by
                  rw [List.map_append (f := fun x => s ++ [x]), ← List.append_assoc, List.map_append (f := stD), List.map_append (f := DV.d)]
                  congr 1
                  show [DV.d (.tuple (dI (s ++ [w])))] = [DV.d (.tuple (dI s ++ [.int w]))]
                  rw [show dI (s ++ [w]) = dI s ++ [.int w] from List.map_append]
                show updM (updM M q2 _) q2 _ = updM M q2 _
                rw [updM_upd, take_snoc hw]
                unfold stL
                rw [ek]
            · rintro M3 rfl
              show updM M q2 _ = updM M q2 _
              rw [show (rangeL v.lo (v.hi + 1 - v.lo).toNat).length = v.rg.length by rw [rangeL_rg, List.length_map], List.take_length, hsn]
        · rintro M2 rfl
          refine ⟨q2, _, _, _, _, _, _, _, rfl, nq2, ?_⟩
          rw [List.length_map, List.length_map, List.take_length, take_snoc e, stsFrom_snoc, eacc]
    · rintro sl M1 ⟨q, u_name, u_low, u_high, u_start, u_rule, u_state, u_value, rfl, nq, rfl⟩
      refine hN _ _ ⟨q, _, _, _, _, _, _, _, _, rfl, nq, ?_⟩
      rw [List.length_map, List.length_map, List.take_length]
      rfl
  · rintro sl M1 ⟨q, u_program, u_name, u_low, u_high, u_start, u_rule, u_state, u_value, rfl, nq, rfl⟩
    exact h q nq
theorem ok_all_states {P : Program} {w : World} {K : PySem.W.Frag} {mg : Str → Option Value} {base : Heap} {dV : Value} {f : Addr} {fd : FuncData} (F : FunA K "all_states" "all_states" s_all_states dV f fd) (b_range : mg "range" = none) : FnG P w K mg base CX0 1 f fd ["program"] (liftSp K sp_all_states) :=
  F.data sc_all_states len_all_states t_all_states (fun cdv A outer s H E hg hr =>
    (dss_cons (ds_set (i := 1) sc_all_states.nd rfl (by first | exact Or.inl rfl | exact Or.inr rfl) (de_lstO (da_cons (de_tup da_nil) da_nil)))
      (dss_cons (ds_for PassesOwn.never rfl (di_seq (de_ix (de_var 0) de_int)) (dg_tup rfl (dgs_cons (dg_name (i := 2) sc_all_states.nd rfl (by first | exact Or.inl rfl | exact Or.inr rfl)) (dgs_cons (dg_name (i := 3) sc_all_states.nd rfl (by first | exact Or.inl rfl | exact Or.inr rfl)) (dgs_cons (dg_name (i := 4) sc_all_states.nd rfl (by first | exact Or.inl rfl | exact Or.inr rfl)) (dgs_cons (dg_name (i := 5) sc_all_states.nd rfl (by first | exact Or.inl rfl | exact Or.inr rfl)) (dgs_cons (dg_name (i := 6) sc_all_states.nd rfl (by first | exact Or.inl rfl | exact Or.inr rfl)) dgs_nil)))))) (dss_one (ds_setLc2 (i := 1) (own := [("state", 7), ("value", 8)]) (vs1 := [8]) rfl sc_all_states.nd rfl rfl (sw_true rfl rfl rfl (by decide +kernel)) (di_own (de_var 1)) (blkOk_by (own := [("state", 7), ("value", 8)]) (N := N_all_states) (sc := defScope s_all_states) (by decide +kernel)) (by decide) (fun _ _ _ _ _ => (dg_name (i := 7) sc_all_states.nd rfl (by first | exact Or.inl rfl | exact Or.inr rfl))) (fun _ _ _ _ _ => dts_nil) (fun _ _ _ _ _ => (di_range2 (by rfl) b_range (da_cons (de_var 3) (da_cons (de_op od_add (de_var 4) de_int) da_nil)))) (fun _ _ _ _ _ => (dg_name (i := 8) sc_all_states.nd rfl (by first | exact Or.inl rfl | exact Or.inr rfl))) (fun _ _ _ _ _ => dts_nil) (fun _ _ _ _ _ => (de_op od_add (de_var 7) (de_tup (da_cons (de_var 8) da_nil)))) (by decide) (by decide))))
      (dss_one (ds_ret (de_var 1)))))) pure_all_states
/-! ### _law_evaluated -/
abbrev s__law_evaluated : Stmt := topS 21
abbrev N__law_evaluated : List Str := ["expression", "values", "word", "parts", "found", "part", "one", "other"]
theorem sc__law_evaluated : FnScope N__law_evaluated ["expression", "values"] (defScope s__law_evaluated) := ⟨rfl, rfl, rfl, by decide +kernel, rfl, by decide +kernel, by decide +kernel⟩
def sp__law_evaluated (n : Nat) : SpD := fun xs M R => ∃ (e : Ex) (env : Env), xs = [.d e.d, .d (envD env)] ∧ e.dep < n ∧ n ≤ 8 ∧ e.ok (env.map (·.1)) ∧ Small env ∧ R (.d (.int (e.val env))) M
theorem none__law_evaluated : ∀ xs M R, ¬ sp__law_evaluated 0 xs M R := by
  rintro xs M R ⟨e, env, rfl, hk, _⟩
  omega
def t__law_evaluated (n : Nat) : TSD := (dSeq (dPar 2 3 (dCons (dOp ixD (dVar 0) (dC (.d (.int 0)))) (dCons (dSl (dVar 0) (dPart (dC (.d (.int 1)))) dNoPart) dNil)))
  (dSeq (dIfS (dB (dOp (g2 (inD false)) (dVar 2) (dTup (dCons (dC (.d (.str "int"))) (dCons (dC (.d (.str "name"))) dNil))))) (dRet (dIf (dB (dOp (g2 eqD) (dVar 2) (dC (.d (.str "int"))))) (dOp ixD (dVar 3) (dC (.d (.int 0)))) (dOp ixK (dVar 1) (dOp ixD (dVar 3) (dC (.d (.int 0))))))) dNext)
  (dSeq (dIfS (dB (dOp (g2 eqD) (dVar 2) (dC (.d (.str "if"))))) (dRet (dCall (sp__law_evaluated n) (dCons (dOp ixD (dVar 3) (dIf (dB (dOp (g2 neD) (dCall (sp__law_evaluated n) (dCons (dOp ixD (dVar 3) (dC (.d (.int 0)))) (dCons (dVar 1) dNil))) (dC (.d (.int 0))))) (dC (.d (.int 1))) (dC (.d (.int 2))))) (dCons (dVar 1) dNil)))) dNext)
  (dSeq (dSet 4 (dLc (diSeq (dVar 3)) (dgName 5) dYes (dCall (sp__law_evaluated n) (dCons (dVar 5) (dCons (dVar 1) dNil))) [5]))
  (dSeq (dSet 6 (dOp ixD (dVar 4) (dC (.d (.int 0)))))
  (dSeq (dIfS (dB (dOp (g2 (inD false)) (dVar 2) (dTup (dCons (dC (.d (.str "neg"))) (dCons (dC (.d (.str "not"))) dNil))))) (dRet (dIf (dB (dOp (g2 eqD) (dVar 2) (dC (.d (.str "neg"))))) (dOp (g2 (intOp (· - ·))) (dC (.d (.int 0))) (dVar 6)) (dCall (g1 intG) (dCons (dOp (g2 eqD) (dVar 6) (dC (.d (.int 0)))) dNil)))) dNext)
  (dSeq (dSet 7 (dOp ixD (dVar 4) (dC (.d (.int 1)))))
  (dSeq (dIfS (dB (dOp (g2 (inD false)) (dVar 2) (dTup (dCons (dC (.d (.str "+"))) (dCons (dC (.d (.str "-"))) (dCons (dC (.d (.str "*"))) dNil)))))) (dRet (dIf (dB (dOp (g2 eqD) (dVar 2) (dC (.d (.str "+"))))) (dOp (g2 addD) (dVar 6) (dVar 7)) (dIf (dB (dOp (g2 eqD) (dVar 2) (dC (.d (.str "-"))))) (dOp (g2 (intOp (· - ·))) (dVar 6) (dVar 7)) (dOp (g2 mulD) (dVar 6) (dVar 7))))) dNext)
  (dSeq (dIfS (dB (dOp (g2 eqD) (dVar 2) (dC (.d (.str "mod"))))) (dRet (dIf (dB (dOp (g2 neD) (dVar 7) (dC (.d (.int 0))))) (dOp (g2 (intOpC (fun _ j => j ≠ 0) Int.fmod)) (dVar 6) (dVar 7)) (dC (.d (.int 0))))) dNext)
  (dSeq (dIfS (dB (dOp (g2 (inD false)) (dVar 2) (dTup (dCons (dC (.d (.str "min"))) (dCons (dC (.d (.str "max"))) dNil))))) (dRet (dIf (dB (dOp (g2 eqD) (dVar 2) (dC (.d (.str "min"))))) (dCall minG (dCons (dVar 6) (dCons (dVar 7) dNil))) (dCall maxG (dCons (dVar 6) (dCons (dVar 7) dNil))))) dNext)
  (dSeq (dIfS (dB (dOp (g2 (inD false)) (dVar 2) (dTup (dCons (dC (.d (.str "and"))) (dCons (dC (.d (.str "or"))) dNil))))) (dRet (dIf (dB (dOp (g2 eqD) (dVar 2) (dC (.d (.str "and"))))) (dCall (g1 intG) (dCons (dAndV (dOp (g2 neD) (dVar 6) (dC (.d (.int 0)))) (dOp (g2 neD) (dVar 7) (dC (.d (.int 0))))) dNil)) (dCall (g1 intG) (dCons (dOrV (dOp (g2 neD) (dVar 6) (dC (.d (.int 0)))) (dOp (g2 neD) (dVar 7) (dC (.d (.int 0))))) dNil)))) dNext)
  (dRet (dCall (g1 intG) (dCons (dOp ixK (dDisp [((dC (.d (.str "="))), (dOp (g2 eqD) (dVar 6) (dVar 7))), ((dC (.d (.str "!="))), (dOp (g2 neD) (dVar 6) (dVar 7))), ((dC (.d (.str "<"))), (dOp (g2 ltD) (dVar 6) (dVar 7))), ((dC (.d (.str "<="))), (dOp (g2 (intCmp fun i j => decide (i ≤ j))) (dVar 6) (dVar 7))), ((dC (.d (.str ">"))), (dOp (g2 (intCmp fun i j => decide (j < i))) (dVar 6) (dVar 7))), ((dC (.d (.str ">="))), (dOp (g2 (intCmp fun i j => decide (j ≤ i))) (dVar 6) (dVar 7)))]) (dVar 2)) dNil))))))))))))))

theorem len__law_evaluated : ∀ n xs M R, sp__law_evaluated n xs M R → xs.length = 2 := by
  rintro n xs M R ⟨e, env, rfl, _⟩
  rfl
theorem pure__law_evaluated : ∀ n xs M R, sp__law_evaluated (n + 1) xs M R → t__law_evaluated n { nx := fun _ M' => R (.d .none) M', rt := R } (startD N__law_evaluated xs) M := by
  rintro n xs M R ⟨e, env, rfl, hd, hn, ho, hs, h⟩
  cases e with
  | int i =>
    refine sq (optP_of (show atI _ ((0 : Nat) : Int) = some _ from atI_nat rfl) ?_)
    refine sq (disp ?_)
    refine ⟨inOk_two _ _ _, if_two true (by decide +kernel) (if_yes rfl ?_)⟩
    refine ifStrE true rfl (by decide +kernel) (if_yes rfl ?_)
    exact optP_of (show atI _ ((0 : Nat) : Int) = some _ from atI_nat rfl) h
  | name x =>
    refine sq (optP_of (show atI _ ((0 : Nat) : Int) = some _ from atI_nat rfl) ?_)
    refine sq (disp ?_)
    refine ⟨inOk_two _ _ _, if_two true (by decide +kernel) (if_yes rfl ?_)⟩
    refine ifStrE false rfl (by decide +kernel) (if_no rfl ?_)
    refine optP_of (show atI _ ((0 : Nat) : Int) = some _ from atI_nat rfl) (optP_of rfl (optP_of ?_ h))
    rw [look_env, look_some rfl ho]
    rfl
  | ite a b c =>
    have ho : a.ok _ ∧ b.ok _ ∧ c.ok _ := ho
    have hd : max a.dep (max b.dep c.dep) + 1 < n + 1 := hd
    refine sq (optP_of (show atI _ ((0 : Nat) : Int) = some _ from atI_nat rfl) ?_)
    refine sq (disp ?_)
    refine ⟨inOk_two _ _ _, if_two false (by decide +kernel) (if_no rfl (sq (ifStr true rfl (by decide +kernel) (if_yes rfl ?_))))⟩
    refine optP_of (show atI _ ((0 : Nat) : Int) = some _ from atI_nat rfl) ?_
    refine ⟨a, env, rfl, by omega, by omega, ho.1, hs, ?_⟩
    have h : R (.d (.int (if a.val env = 0 then c.val env else b.val env))) M := h
    refine if_ndec (fun hz => ?_) (fun hz => ?_)
    · rw [if_neg hz] at h
      exact optP_of (show atI _ ((1 : Nat) : Int) = some _ from atI_nat rfl) ⟨b, env, rfl, by omega, by omega, ho.2.1, hs, h⟩
    · rw [if_pos hz] at h
      exact optP_of (show atI _ ((2 : Nat) : Int) = some _ from atI_nat rfl) ⟨c, env, rfl, by omega, by omega, ho.2.2, hs, h⟩
  | un o a =>
    have ho : a.ok _ := ho
    have hd : a.dep + 1 < n + 1 := hd
    obtain ⟨n1, n2, n3⟩ := un_ne o
    have n1' : (decide (("int" : Str) = o.s) || decide (("name" : Str) = o.s)) = false := by cases o <;> decide +kernel
    refine sq (optP_of (show atI _ ((0 : Nat) : Int) = some _ from atI_nat rfl) ?_)
    refine sq (disp ?_)
    refine ⟨inOk_two _ _ _, if_two false n1' (if_no rfl (sq (ifStr false rfl n3 (if_no rfl (sq ?_)))))⟩
    refine lc_set (items := [.d a.d]) (fun _ => some (.int (a.val env))) (by show 1 < 1000000; decide) ?_ ?_
    · intro x hx M' Y Z hy hz
      rw [List.mem_singleton.mp hx]
      exact ⟨a, env, rfl, by omega, by omega, ho, hs, hy _ rfl⟩
    refine sq (optP_of (show atI _ ((0 : Nat) : Int) = some (.int (a.val env)) from atI_nat rfl) ?_)
    refine sq (disp ?_)
    cases o with
    | neg =>
      refine ⟨inOk_two _ _ _, if_two true (by decide +kernel) (if_yes rfl (ifStrE true rfl (by decide +kernel) (if_yes rfl ?_)))⟩
      show R (.d (.int (0 - a.val env))) M
      rw [Int.zero_sub]
      exact h
    | not => exact ⟨inOk_two _ _ _, if_two true (by decide +kernel) (if_yes rfl (ifStrE false rfl (by decide +kernel) (if_no rfl h)))⟩
  | bin o a b =>
    have ho : a.ok _ ∧ b.ok _ := ho
    have hd : max a.dep b.dep + 1 < n + 1 := hd
    have la := lim_in8 ho.1 hs (by omega)
    have lb := lim_in8 ho.2 hs (by omega)
    have h : R (.d (.int (opV o (a.val env) (b.val env)))) M := h
    have n1 : (decide (("int" : Str) = o.s) || decide (("name" : Str) = o.s)) = false := by cases o <;> decide +kernel
    have n2 : decide (o.s = "if") = false := by cases o <;> decide +kernel
    have n3 : (decide (("neg" : Str) = o.s) || decide (("not" : Str) = o.s)) = false := by cases o <;> decide +kernel
    refine sq (optP_of (show atI _ ((0 : Nat) : Int) = some _ from atI_nat rfl) ?_)
    refine sq (disp ?_)
    refine ⟨inOk_two _ _ _, if_two false n1 (if_no rfl (sq (ifStr false rfl n2 (if_no rfl ?_))))⟩
    refine seq_cut (fun sl M' => ∃ t5, sl = [some (.d (Ex.bin o a b).d), some (.d (envD env)), some (.d (.str o.s)), some (.d (.tuple [a.d, b.d])), some (.d (.list [.int (a.val env), .int (b.val env)])), t5, none, none] ∧ M' = M) (fun N hN => ?_) ?_
    · intro q nq
      refine ⟨fun i M' => M' = updM M q (.lst (([PyData.int (a.val env), .int (b.val env)].take i).map DV.d)), rfl, ?_, ?_⟩
      · rintro i x M' hx rfl
        match i, hx with
        | 0, hx =>
          cases hx
          refine ⟨a, env, rfl, by omega, by omega, ho.1, hs, getL_of updM_same ⟨smallL (by show 0 < 1000000; decide), ?_⟩⟩
          rw [updM_upd]
          rfl
        | 1, hx =>
          cases hx
          refine ⟨b, env, rfl, by omega, by omega, ho.2, hs, getL_of updM_same ⟨smallL (by show 1 < 1000000; decide), ?_⟩⟩
          rw [updM_upd]
          rfl
        | j + 2, hx => cases hx
      · rintro M' rfl
        refine getL_of updM_same (optP_of (allD_of _) ?_)
        rw [delM_upd nq]
        exact hN _ _ ⟨_, rfl, rfl⟩
    rintro sl M' ⟨t5, rfl, rfl⟩
    refine sq (optP_of (show atI _ ((0 : Nat) : Int) = some (.int (a.val env)) from atI_nat rfl) ?_)
    refine sq (disp ?_)
    refine ⟨inOk_two _ _ _, if_two false n3 (if_no rfl (sq (optP_of (show atI _ ((1 : Nat) : Int) = some (.int (b.val env)) from atI_nat rfl) ?_)))⟩
    refine sq (disp ?_)
    generalize ea : a.val env = i at *
    generalize eb : b.val env = j at *
    have cmps : ∀ o : Op, o.isCmp = true → R (.d (.int (opV o i j))) M' → ∀ (q : Addr), M' q = none → ∀ sl : Slots, sl[6]? = some (some (.d (.int i))) → sl[7]? = some (some (.d (.int j))) → True := fun _ _ _ _ _ _ _ _ => trivial
    cases hc : o.isCmp with
    | true =>
      have c1 : (decide (("+" : Str) = o.s) || (decide (("-" : Str) = o.s) || decide (("*" : Str) = o.s))) = false := by cases o <;> first | (cases hc; done) | decide +kernel
      have c2 : decide (o.s = "mod") = false := by cases o <;> first | (cases hc; done) | decide +kernel
      have c3 : (decide (("min" : Str) = o.s) || decide (("max" : Str) = o.s)) = false := by cases o <;> first | (cases hc; done) | decide +kernel
      have c4 : (decide (("and" : Str) = o.s) || decide (("or" : Str) = o.s)) = false := by cases o <;> first | (cases hc; done) | decide +kernel
      refine ⟨inOk_three _ _ _ _, if_three false c1 (if_no rfl (sq (ifStr false rfl c2 (if_no rfl (sq (disp ?_))))))⟩
      refine ⟨inOk_two _ _ _, if_two false c3 (if_no rfl (sq (disp ?_)))⟩
      refine ⟨inOk_two _ _ _, if_two false c4 (if_no rfl ?_)⟩
      intro q nq
      refine ⟨updM_same, optP_of (x := (six i j).map fun p => (p.1, DV.d p.2)) rfl ⟨by show 6 ≤ 15; decide, optP_of (six_merge i j) ?_⟩⟩
      rw [delM_upd nq]
      refine optP_of rfl (optP_of (six_look i j o hc) ?_)
      have e : opV o i j = b2 (cmpB o i j) := by cases o <;> first | rfl | (cases hc; done)
      rw [e] at h
      exact h
    | false =>
      cases o with
      | add => exact ⟨inOk_three _ _ _ _, if_three true (by decide +kernel) (if_yes rfl (ifStrE true rfl (by decide +kernel) (if_yes rfl h)))⟩
      | sub => exact ⟨inOk_three _ _ _ _, if_three true (by decide +kernel) (if_yes rfl (ifStrE false rfl (by decide +kernel) (if_no rfl (ifStrE true rfl (by decide +kernel) (if_yes rfl h)))))⟩
      | mul => exact ⟨inOk_three _ _ _ _, if_three true (by decide +kernel) (if_yes rfl (ifStrE false rfl (by decide +kernel) (if_no rfl (ifStrE false rfl (by decide +kernel) (if_no rfl ⟨mul_ok (by decide) (by decide) la lb (by decide), h⟩)))))⟩
      | mod =>
        refine ⟨inOk_three _ _ _ _, if_three false (by decide +kernel) (if_no rfl (sq (ifStr true rfl (by decide +kernel) (if_yes rfl ?_))))⟩
        have h : R (.d (.int (if j = 0 then 0 else i.fmod j))) M' := h
        refine if_ndec (fun hz => ?_) (fun hz => ?_)
        · rw [if_neg hz] at h
          exact ⟨hz, h⟩
        · rw [if_pos hz] at h
          exact h
      | min =>
        refine ⟨inOk_three _ _ _ _, if_three false (by decide +kernel) (if_no rfl (sq (ifStr false rfl (by decide +kernel) (if_no rfl (sq (disp ?_))))))⟩
        exact ⟨inOk_two _ _ _, if_two true (by decide +kernel) (if_yes rfl (ifStrE true rfl (by decide +kernel) (if_yes rfl h)))⟩
      | max =>
        refine ⟨inOk_three _ _ _ _, if_three false (by decide +kernel) (if_no rfl (sq (ifStr false rfl (by decide +kernel) (if_no rfl (sq (disp ?_))))))⟩
        exact ⟨inOk_two _ _ _, if_two true (by decide +kernel) (if_yes rfl (ifStrE false rfl (by decide +kernel) (if_no rfl h)))⟩
      | and =>
        refine ⟨inOk_three _ _ _ _, if_three false (by decide +kernel) (if_no rfl (sq (ifStr false rfl (by decide +kernel) (if_no rfl (sq (disp ?_))))))⟩
        refine ⟨inOk_two _ _ _, if_two false (by decide +kernel) (if_no rfl (sq (disp ?_)))⟩
        refine ⟨inOk_two _ _ _, if_two true (by decide +kernel) (if_yes rfl (ifStrE true rfl (by decide +kernel) (if_yes rfl ?_)))⟩
        have h : R (.d (.int (b2 (!decide (i = 0) && !decide (j = 0))))) M' := h
        refine if_ndec (fun hz => ?_) (fun hz => ?_)
        · rw [decide_eq_false hz] at h
          exact h
        · rw [decide_eq_true hz] at h
          exact h
      | or =>
        refine ⟨inOk_three _ _ _ _, if_three false (by decide +kernel) (if_no rfl (sq (ifStr false rfl (by decide +kernel) (if_no rfl (sq (disp ?_))))))⟩
        refine ⟨inOk_two _ _ _, if_two false (by decide +kernel) (if_no rfl (sq (disp ?_)))⟩
        refine ⟨inOk_two _ _ _, if_two true (by decide +kernel) (if_yes rfl (ifStrE false rfl (by decide +kernel) (if_no rfl ?_)))⟩
        have h : R (.d (.int (b2 (!decide (i = 0) || !decide (j = 0))))) M' := h
        refine if_ndec (fun hz => ?_) (fun hz => ?_)
        · rw [decide_eq_false hz] at h
          exact h
        · rw [decide_eq_true hz] at h
          exact h
      | _ => cases hc
theorem ok__law_evaluated (n : Nat) {P : Program} {w : World} {K : PySem.W.Frag} {mg : Str → Option Value} {base : Heap} {dV : Value} {f : Addr} {fd : FuncData} (F : FunA K "_law_evaluated" "_law_evaluated" s__law_evaluated dV f fd) (D__law_evaluated : Def P w K mg base "_law_evaluated" (1 + n) (sp__law_evaluated n)) (b_int : mg "int" = none) (b_min : mg "min" = none) (b_max : mg "max" = none) : FnG P w K mg base CX0 (1 + n + 1) f fd ["expression", "values"] (liftSp K (sp__law_evaluated (n + 1))) :=
  F.data sc__law_evaluated (len__law_evaluated (n + 1)) (t__law_evaluated n) (fun cdv A outer s H E hg hr =>
    (dss_cons (ds_par (i := 2) (j := 3) rfl sc__law_evaluated.nd rfl rfl (by decide) rfl rfl (da_cons (de_ix (de_var 0) de_int) (da_cons (de_slice (de_var 0) (do_some de_int) do_none) da_nil)) (by rfl))
      (dss_cons (ds_if (dt_cmp (od_in hr) (de_var 2) (de_tup (da_cons de_str (da_cons de_str da_nil))) rfl) (dss_one (ds_ret (de_if (dt_cmp (od_eq hr) (de_var 2) de_str (nomark _)) (de_ix (de_var 3) de_int) (de_ixK hr (de_var 1) (de_ix (de_var 3) de_int))))) dss_nil)
      (dss_cons (ds_if (dt_cmp (od_eq hr) (de_var 2) de_str (nomark _)) (dss_one (ds_ret (D__law_evaluated.de hg (hr.mono (Nat.le_refl _)) (by rfl) (da_cons (de_ix (de_var 3) (de_if (dt_cmp (od_ne hr) (D__law_evaluated.de hg (hr.mono (Nat.le_refl _)) (by rfl) (da_cons (de_ix (de_var 3) de_int) (da_cons (de_var 1) da_nil))) de_int (nomark _)) de_int de_int)) (da_cons (de_var 1) da_nil))))) dss_nil)
      (dss_cons (ds_setLc (i := 4) (own := [("part", 5)]) rfl sc__law_evaluated.nd rfl rfl (sw_true rfl rfl rfl (by decide +kernel)) (di_seq (de_var 3)) (blkOk_by (own := [("part", 5)]) (N := N__law_evaluated) (sc := defScope s__law_evaluated) (by decide +kernel)) (fun _ _ _ _ _ => (dg_name (i := 5) sc__law_evaluated.nd rfl (by first | exact Or.inl rfl | exact Or.inr rfl))) (fun _ _ _ _ _ => dts_nil) (fun _ _ _ _ _ => (D__law_evaluated.de hg (hr.mono (Nat.le_refl _)) (by rfl) (da_cons (de_var 5) (da_cons (de_var 1) da_nil)))) (by decide))
      (dss_cons (ds_set (i := 6) sc__law_evaluated.nd rfl (by first | exact Or.inl rfl | exact Or.inr rfl) (de_ix (de_var 4) de_int))
      (dss_cons (ds_if (dt_cmp (od_in hr) (de_var 2) (de_tup (da_cons de_str (da_cons de_str da_nil))) rfl) (dss_one (ds_ret (de_if (dt_cmp (od_eq hr) (de_var 2) de_str (nomark _)) (de_op od_sub de_int (de_var 6)) (de_callTy cd_int (by rfl) b_int (by decide +kernel) (da_cons (de_cmp (od_eq hr) (de_var 6) de_int (nomark _)) da_nil))))) dss_nil)
      (dss_cons (ds_set (i := 7) sc__law_evaluated.nd rfl (by first | exact Or.inl rfl | exact Or.inr rfl) (de_ix (de_var 4) de_int))
      (dss_cons (ds_if (dt_cmp (od_in hr) (de_var 2) (de_tup (da_cons de_str (da_cons de_str (da_cons de_str da_nil)))) rfl) (dss_one (ds_ret (de_if (dt_cmp (od_eq hr) (de_var 2) de_str (nomark _)) (de_op od_add (de_var 6) (de_var 7)) (de_if (dt_cmp (od_eq hr) (de_var 2) de_str (nomark _)) (de_op od_sub (de_var 6) (de_var 7)) (de_op od_mul (de_var 6) (de_var 7)))))) dss_nil)
      (dss_cons (ds_if (dt_cmp (od_eq hr) (de_var 2) de_str (nomark _)) (dss_one (ds_ret (de_if (dt_cmp (od_ne hr) (de_var 7) de_int (nomark _)) (de_op od_modA (de_var 6) (de_var 7)) de_int))) dss_nil)
      (dss_cons (ds_if (dt_cmp (od_in hr) (de_var 2) (de_tup (da_cons de_str (da_cons de_str da_nil))) rfl) (dss_one (ds_ret (de_if (dt_cmp (od_eq hr) (de_var 2) de_str (nomark _)) (de_callB (cd_min rfl) (by rfl) b_min (by decide +kernel) (da_cons (de_var 6) (da_cons (de_var 7) da_nil))) (de_callB (cd_max rfl) (by rfl) b_max (by decide +kernel) (da_cons (de_var 6) (da_cons (de_var 7) da_nil)))))) dss_nil)
      (dss_cons (ds_if (dt_cmp (od_in hr) (de_var 2) (de_tup (da_cons de_str (da_cons de_str da_nil))) rfl) (dss_one (ds_ret (de_if (dt_cmp (od_eq hr) (de_var 2) de_str (nomark _)) (de_callTy cd_int (by rfl) b_int (by decide +kernel) (da_cons (de_and (de_cmp (od_ne hr) (de_var 6) de_int (nomark _)) (de_one (de_cmp (od_ne hr) (de_var 7) de_int (nomark _)))) da_nil)) (de_callTy cd_int (by rfl) b_int (by decide +kernel) (da_cons (de_or (de_cmp (od_ne hr) (de_var 6) de_int (nomark _)) (de_one (de_cmp (od_ne hr) (de_var 7) de_int (nomark _)))) da_nil))))) dss_nil)
      (dss_one (ds_ret (de_callTy cd_int (by rfl) b_int (by decide +kernel) (da_cons (de_ixK hr (de_disp (trs := [((dC (.d (.str "="))), (dOp (g2 eqD) (dVar 6) (dVar 7))), ((dC (.d (.str "!="))), (dOp (g2 neD) (dVar 6) (dVar 7))), ((dC (.d (.str "<"))), (dOp (g2 ltD) (dVar 6) (dVar 7))), ((dC (.d (.str "<="))), (dOp (g2 (intCmp fun i j => decide (i ≤ j))) (dVar 6) (dVar 7))), ((dC (.d (.str ">"))), (dOp (g2 (intCmp fun i j => decide (j < i))) (dVar 6) (dVar 7))), ((dC (.d (.str ">="))), (dOp (g2 (intCmp fun i j => decide (j ≤ i))) (dVar 6) (dVar 7)))]) (pps_cons de_str (de_cmp (od_eq hr) (de_var 6) (de_var 7) (nomark _)) (pps_cons de_str (de_cmp (od_ne hr) (de_var 6) (de_var 7) (nomark _)) (pps_cons de_str (de_cmp (od_lt hr) (de_var 6) (de_var 7) (nomark _)) (pps_cons de_str (de_cmp od_le (de_var 6) (de_var 7) (nomark _)) (pps_cons de_str (de_cmp od_gt (de_var 6) (de_var 7) (nomark _)) (pps_cons de_str (de_cmp od_ge (de_var 6) (de_var 7) (nomark _)) pps_nil))))))) (de_var 2)) da_nil)))))))))))))))) (pure__law_evaluated n)
/-! ### _law_named_values -/
abbrev s__law_named_values : Stmt := topS 22
abbrev N__law_named_values : List Str := ["program", "state", "variable"]
theorem sc__law_named_values : FnScope N__law_named_values ["program", "state"] (defScope s__law_named_values) := ⟨rfl, rfl, rfl, by decide +kernel, rfl, by decide +kernel, by decide +kernel⟩
def sp__law_named_values : SpD := fun xs M R => ∃ (g : Pg) (most : Nat) (s : List Int), xs = [.d g.d, .d (stD s)] ∧ g.Ok most ∧ g.St s ∧ R (.d (envD (g.env s))) M
def t__law_named_values : TSD := (dRet (dictZ (dCons (dLc (diSeq (dOp ixD (dVar 0) (dC (.d (.int 0))))) (dgName 2) dYes (dOp ixD (dVar 2) (dC (.d (.int 0)))) [2]) (dCons (dVar 1) dNil))))

theorem len__law_named_values : ∀ xs M R, sp__law_named_values xs M R → xs.length = 2 := by
  rintro xs M R ⟨g, most, s, rfl, _⟩
  rfl
theorem pure__law_named_values : ∀ xs M R, sp__law_named_values xs M R → t__law_named_values { nx := fun _ M' => R (.d .none) M', rt := R } (startD N__law_named_values xs) M := by
  rintro xs M R ⟨g, most, s, rfl, ok, hs, h⟩
  unfold t__law_named_values dRet dictZ
  refine i_cons (e_cut (fun x M1 => M1 = M ∧ x = .d (.list (g.names.map PyData.str))) (fun N hN => ?_) ?_)
  · refine optP_of (show atI _ ((0 : Nat) : Int) = some _ from atI_nat rfl) ?_
    refine lc_pure (items := (g.vars.map Vr.d).map DV.d) fnm (by rw [List.length_map, List.length_map]; have := ok.few; omega) ?_ ?_
    · intro x hx M' Y Z hY hZ
      obtain ⟨d, hd, rfl⟩ := List.mem_map.mp hx
      obtain ⟨v, hv, rfl⟩ := List.mem_map.mp hd
      exact optP_of (show atI _ ((0 : Nat) : Int) = some _ from atI_nat rfl) (hY _ rfl)
    · exact hN _ _ ⟨rfl, by rw [fnm_vars]; rfl⟩
  · rintro x M1 ⟨rfl, rfl⟩
    refine optP_of rfl (optP_of rfl (optP_of (keysD_strs _) ⟨inr_nodup ok.nd, ?_⟩))
    rw [env_zip]
    exact h
theorem ok__law_named_values {P : Program} {w : World} {K : PySem.W.Frag} {mg : Str → Option Value} {base : Heap} {dV : Value} {f : Addr} {fd : FuncData} (F : FunA K "_law_named_values" "_law_named_values" s__law_named_values dV f fd) (b_dict : mg "dict" = none) (b_zip : mg "zip" = none) : FnG P w K mg base CX0 1 f fd ["program", "state"] (liftSp K sp__law_named_values) :=
  F.data sc__law_named_values len__law_named_values t__law_named_values (fun cdv A outer s H E hg hr =>
    (dss_one (ds_ret (de_dictZ rfl (by rfl) b_dict (by rfl) b_zip (da_cons (de_lc (own := [("variable", 2)]) rfl sc__law_named_values.nd (di_seq (de_ix (de_var 0) de_int)) (blkOk_by (own := [("variable", 2)]) (N := N__law_named_values) (sc := defScope s__law_named_values) (by decide +kernel)) (fun _ _ _ _ _ => (dg_name (i := 2) sc__law_named_values.nd rfl (by first | exact Or.inl rfl | exact Or.inr rfl))) (fun _ _ _ _ _ => dts_nil) (fun _ _ _ _ _ => (de_ix (de_var 2) de_int)) (by decide)) (da_cons (de_var 1) da_nil)))))) pure__law_named_values
/-! ### _law_is_stopped -/
abbrev s__law_is_stopped : Stmt := topS 23
abbrev N__law_is_stopped : List Str := ["program", "state"]
theorem sc__law_is_stopped : FnScope N__law_is_stopped ["program", "state"] (defScope s__law_is_stopped) := ⟨rfl, rfl, rfl, by decide +kernel, rfl, by decide +kernel, by decide +kernel⟩
def sp__law_is_stopped : SpD := fun xs M R => ∃ (g : Pg) (most : Nat) (s : List Int), xs = [.d g.d, .d (stD s)] ∧ g.Ok most ∧ g.St s ∧ R (.d (.bool (g.stopped s))) M
def t__law_is_stopped : TSD := (dRet (dAndV (dOp notND (dOp ixD (dVar 0) (dC (.d (.int 1)))) (dC (.d .none))) (dOp (g2 neD) (dCall (sp__law_evaluated 8) (dCons (dOp ixD (dVar 0) (dC (.d (.int 1)))) (dCons (dCall sp__law_named_values (dCons (dVar 0) (dCons (dVar 1) dNil))) dNil))) (dC (.d (.int 0))))))

theorem len__law_is_stopped : ∀ xs M R, sp__law_is_stopped xs M R → xs.length = 2 := by
  rintro xs M R ⟨g, most, s, rfl, _⟩
  rfl
theorem pure__law_is_stopped : ∀ xs M R, sp__law_is_stopped xs M R → t__law_is_stopped { nx := fun _ M' => R (.d .none) M', rt := R } (startD N__law_is_stopped xs) M := by
  rintro xs M R ⟨g, most, s, rfl, ok, hs, h⟩
  refine i_ret (optP_of (show atI _ ((1 : Nat) : Int) = some (haltD g.halt) from atI_nat rfl) ?_)
  unfold Pg.stopped at h
  cases e : g.halt with
  | none =>
    rw [e] at h
    exact h
  | some x =>
    rw [e] at h
    obtain ⟨xo, xd⟩ := ok.ht x e
    have xk : haltD (some x) = x.d := rfl
    cases x <;>
    · refine optP_of (show atI _ ((1 : Nat) : Int) = some (haltD g.halt) from atI_nat rfl) ?_
      refine ⟨g, most, s, rfl, ok, hs, ?_⟩
      exact ⟨_, g.env s, by rw [e]; rfl, by omega, by omega, by rw [g.env_fst hs]; exact xo, g.env_small hs, h⟩
theorem ok__law_is_stopped {P : Program} {w : World} {K : PySem.W.Frag} {mg : Str → Option Value} {base : Heap} {dV : Value} {f : Addr} {fd : FuncData} (F : FunA K "_law_is_stopped" "_law_is_stopped" s__law_is_stopped dV f fd) (D__law_evaluated : Def P w K mg base "_law_evaluated" 9 (sp__law_evaluated 8)) (D__law_named_values : Def P w K mg base "_law_named_values" 1 sp__law_named_values) : FnG P w K mg base CX0 10 f fd ["program", "state"] (liftSp K sp__law_is_stopped) :=
  F.data sc__law_is_stopped len__law_is_stopped t__law_is_stopped (fun cdv A outer s H E hg hr =>
    (dss_one (ds_ret (de_and (de_cmp od_notN (de_ix (de_var 0) de_int) de_non (nomark _)) (de_one (de_cmp (od_ne hr) (D__law_evaluated.de hg (hr.mono (by decide)) (by rfl) (da_cons (de_ix (de_var 0) de_int) (da_cons (D__law_named_values.de hg (hr.mono (by decide)) (by rfl) (da_cons (de_var 0) (da_cons (de_var 1) da_nil))) da_nil))) de_int (nomark _))))))) pure__law_is_stopped
/-! ### compare_values -/
abbrev s_compare_values : Stmt := topS 3
abbrev N_compare_values : List Str := ["operator", "first", "second"]
theorem sc_compare_values : FnScope N_compare_values ["operator", "first", "second"] (defScope s_compare_values) := ⟨rfl, rfl, rfl, by decide +kernel, rfl, by decide +kernel, by decide +kernel⟩
def sp_compare_values : SpD := fun xs M R => ∃ (o : Op) (i j : Int), xs = [.d (.str o.s), .d (.int i), .d (.int j)] ∧ o.isCmp = true ∧ R (.d (.bool (cmpB o i j))) M
def t_compare_values : TSD := (dSeq (dIfS (dB (dOp (g2 (inD false)) (dVar 0) (dTup (dCons (dC (.d (.str "="))) (dCons (dC (.d (.str "!="))) dNil))))) (dRet (dOp (g2 eqD) (dOp (g2 eqD) (dVar 1) (dVar 2)) (dOp (g2 eqD) (dVar 0) (dC (.d (.str "=")))))) dNext)
  (dSeq (dIfS (dB (dOp (g2 (inD false)) (dVar 0) (dTup (dCons (dC (.d (.str "<"))) (dCons (dC (.d (.str ">="))) dNil))))) (dRet (dOp (g2 eqD) (dOp (g2 ltD) (dVar 1) (dVar 2)) (dOp (g2 eqD) (dVar 0) (dC (.d (.str "<")))))) dNext)
  (dRet (dOp (g2 eqD) (dOp (g2 (intCmp fun i j => decide (j < i))) (dVar 1) (dVar 2)) (dOp (g2 eqD) (dVar 0) (dC (.d (.str ">"))))))))

theorem len_compare_values : ∀ xs M R, sp_compare_values xs M R → xs.length = 3 := by
  rintro xs M R ⟨o, i, j, rfl, _⟩
  rfl
theorem beq_t (b : Bool) : (b == true) = b := by cases b <;> rfl
theorem beq_f (b : Bool) : (b == false) = !b := by cases b <;> rfl
theorem nlt_le (i j : Int) : (!decide (i < j)) = decide (j ≤ i) := by
  by_cases h : i < j
  · rw [decide_eq_true h, decide_eq_false (by omega)]; rfl
  · rw [decide_eq_false h, decide_eq_true (by omega)]; rfl
theorem cmp_end {R : KD} {M : Mem} {a : Bool} {x y : Str} {r : Bool} (k : Bool) (e : decide (x = y) = k) (er : (a == k) = r) (h : R (.d (.bool r)) M) : EqOk (.bool a) (.bool (decide (x = y))) ∧ R (.d (.bool (PyData.eqv (.bool a) (.bool (decide (x = y)))))) M := by
  refine ⟨eqOk_bool _ _, ?_⟩
  rw [eqv_bool, e, er]
  exact h
theorem pure_compare_values : ∀ xs M R, sp_compare_values xs M R → t_compare_values { nx := fun _ M' => R (.d .none) M', rt := R } (startD N_compare_values xs) M := by
  rintro xs M R ⟨o, i, j, rfl, ho, h⟩
  refine sq (disp ?_)
  refine ⟨inOk_two _ _ _, ?_⟩
  cases o with
  | eq => exact if_two true (by decide +kernel) (if_yes rfl (cmp_end true (by decide +kernel) (beq_t _) h))
  | ne => exact if_two true (by decide +kernel) (if_yes rfl (cmp_end false (by decide +kernel) (beq_f _) h))
  | lt =>
    refine if_two false (by decide +kernel) (if_no rfl (sq (disp ?_)))
    exact ⟨inOk_two _ _ _, if_two true (by decide +kernel) (if_yes rfl (cmp_end true (by decide +kernel) (beq_t _) h))⟩
  | ge =>
    refine if_two false (by decide +kernel) (if_no rfl (sq (disp ?_)))
    exact ⟨inOk_two _ _ _, if_two true (by decide +kernel) (if_yes rfl (cmp_end false (by decide +kernel) ((beq_f _).trans (nlt_le i j)) h))⟩
  | gt =>
    refine if_two false (by decide +kernel) (if_no rfl (sq (disp ?_)))
    exact ⟨inOk_two _ _ _, if_two false (by decide +kernel) (if_no rfl (cmp_end true (by decide +kernel) (beq_t _) h))⟩
  | le =>
    refine if_two false (by decide +kernel) (if_no rfl (sq (disp ?_)))
    exact ⟨inOk_two _ _ _, if_two false (by decide +kernel) (if_no rfl (cmp_end false (by decide +kernel) ((beq_f _).trans (nlt_le j i)) h))⟩
  | _ => cases ho
theorem ok_compare_values {P : Program} {w : World} {K : PySem.W.Frag} {mg : Str → Option Value} {base : Heap} {dV : Value} {f : Addr} {fd : FuncData} (F : FunA K "compare_values" "compare_values" s_compare_values dV f fd)  : FnG P w K mg base CX0 1 f fd ["operator", "first", "second"] (liftSp K sp_compare_values) :=
  F.data sc_compare_values len_compare_values t_compare_values (fun cdv A outer s H E hg hr =>
    (dss_cons (ds_if (dt_cmp (od_in hr) (de_var 0) (de_tup (da_cons de_str (da_cons de_str da_nil))) rfl) (dss_one (ds_ret (de_cmp (od_eq hr) (de_cmp (od_eq hr) (de_var 1) (de_var 2) (nomark _)) (de_cmp (od_eq hr) (de_var 0) de_str (nomark _)) (nomark _)))) dss_nil)
      (dss_cons (ds_if (dt_cmp (od_in hr) (de_var 0) (de_tup (da_cons de_str (da_cons de_str da_nil))) rfl) (dss_one (ds_ret (de_cmp (od_eq hr) (de_cmp (od_lt hr) (de_var 1) (de_var 2) (nomark _)) (de_cmp (od_eq hr) (de_var 0) de_str (nomark _)) (nomark _)))) dss_nil)
      (dss_one (ds_ret (de_cmp (od_eq hr) (de_cmp od_gt (de_var 1) (de_var 2) (nomark _)) (de_cmp (od_eq hr) (de_var 0) de_str (nomark _)) (nomark _))))))) pure_compare_values
/-! ### arithmetic -/
abbrev s_arithmetic : Stmt := topS 4
abbrev N_arithmetic : List Str := ["operator", "first", "second"]
theorem sc_arithmetic : FnScope N_arithmetic ["operator", "first", "second"] (defScope s_arithmetic) := ⟨rfl, rfl, rfl, by decide +kernel, rfl, by decide +kernel, by decide +kernel⟩
def sp_arithmetic : SpD := fun xs M R => ∃ (o : Op) (i j : Int), xs = [.d (.str o.s), .d (.int i), .d (.int j)] ∧ o.isCmp = false ∧ o.isLog = false ∧ Lim 400000 i ∧ Lim 400000 j ∧ R (.d (.int (opV o i j))) M
def t_arithmetic : TSD := (dSeq (dIfS (dB (dOp (g2 eqD) (dVar 0) (dC (.d (.str "+"))))) (dRet (dOp (g2 addD) (dVar 1) (dVar 2))) dNext)
  (dSeq (dIfS (dB (dOp (g2 eqD) (dVar 0) (dC (.d (.str "-"))))) (dRet (dOp (g2 (intOp (· - ·))) (dVar 1) (dVar 2))) dNext)
  (dSeq (dIfS (dB (dOp (g2 eqD) (dVar 0) (dC (.d (.str "*"))))) (dRet (dOp (g2 mulD) (dVar 1) (dVar 2))) dNext)
  (dSeq (dIfS (dB (dOp (g2 eqD) (dVar 0) (dC (.d (.str "mod"))))) (dRet (dIf (dB (dOp (g2 neD) (dVar 2) (dC (.d (.int 0))))) (dOp (g2 (intOpC (fun _ j => j ≠ 0) Int.fmod)) (dVar 1) (dVar 2)) (dC (.d (.int 0))))) dNext)
  (dRet (dIf (dB (dOp (g2 eqD) (dVar 0) (dC (.d (.str "min"))))) (dCall minG (dCons (dVar 1) (dCons (dVar 2) dNil))) (dCall maxG (dCons (dVar 1) (dCons (dVar 2) dNil)))))))))

theorem len_arithmetic : ∀ xs M R, sp_arithmetic xs M R → xs.length = 3 := by
  rintro xs M R ⟨o, i, j, rfl, _⟩
  rfl
theorem pure_arithmetic : ∀ xs M R, sp_arithmetic xs M R → t_arithmetic { nx := fun _ M' => R (.d .none) M', rt := R } (startD N_arithmetic xs) M := by
  rintro xs M R ⟨o, i, j, rfl, h1, h2, hi, hj, h⟩
  cases o with
  | add =>
    refine sq (ifStr true rfl (by decide +kernel) (if_yes rfl ?_))
    exact h
  | sub =>
    refine sq (ifStr false rfl (by decide +kernel) (if_no rfl ?_))
    refine sq (ifStr true rfl (by decide +kernel) (if_yes rfl ?_))
    exact h
  | mul =>
    refine sq (ifStr false rfl (by decide +kernel) (if_no rfl ?_))
    refine sq (ifStr false rfl (by decide +kernel) (if_no rfl ?_))
    refine sq (ifStr true rfl (by decide +kernel) (if_yes rfl ?_))
    exact ⟨mul_ok (by decide) (by decide) hi hj (by decide), h⟩
  | mod =>
    refine sq (ifStr false rfl (by decide +kernel) (if_no rfl ?_))
    refine sq (ifStr false rfl (by decide +kernel) (if_no rfl ?_))
    refine sq (ifStr false rfl (by decide +kernel) (if_no rfl ?_))
    refine sq (ifStr true rfl (by decide +kernel) (if_yes rfl ?_))
    refine if_ndec (fun hz => ⟨hz, ?_⟩) (fun hz => ?_)
    · rw [show opV .mod i j = i.fmod j from if_neg hz] at h
      exact h
    · rw [show opV .mod i j = 0 from if_pos hz] at h
      exact h
  | min =>
    refine sq (ifStr false rfl (by decide +kernel) (if_no rfl ?_))
    refine sq (ifStr false rfl (by decide +kernel) (if_no rfl ?_))
    refine sq (ifStr false rfl (by decide +kernel) (if_no rfl ?_))
    refine sq (ifStr false rfl (by decide +kernel) (if_no rfl ?_))
    exact ifStrE (i := 0) (x := Op.min.s) (y := "min") (A := dCall minG (dCons (dVar 1) (dCons (dVar 2) dNil))) (B := dCall maxG (dCons (dVar 1) (dCons (dVar 2) dNil))) (R := R) (sl := startD N_arithmetic [.d (.str Op.min.s), .d (.int i), .d (.int j)]) (M := M) true rfl (by decide +kernel) (if_yes rfl h)
  | max =>
    refine sq (ifStr false rfl (by decide +kernel) (if_no rfl ?_))
    refine sq (ifStr false rfl (by decide +kernel) (if_no rfl ?_))
    refine sq (ifStr false rfl (by decide +kernel) (if_no rfl ?_))
    refine sq (ifStr false rfl (by decide +kernel) (if_no rfl ?_))
    exact ifStrE (i := 0) (x := Op.max.s) (y := "min") (A := dCall minG (dCons (dVar 1) (dCons (dVar 2) dNil))) (B := dCall maxG (dCons (dVar 1) (dCons (dVar 2) dNil))) (R := R) (sl := startD N_arithmetic [.d (.str Op.max.s), .d (.int i), .d (.int j)]) (M := M) false rfl (by decide +kernel) (if_no rfl h)
  | and => cases h2
  | or => cases h2
  | _ => cases h1
theorem ok_arithmetic {P : Program} {w : World} {K : PySem.W.Frag} {mg : Str → Option Value} {base : Heap} {dV : Value} {f : Addr} {fd : FuncData} (F : FunA K "arithmetic" "arithmetic" s_arithmetic dV f fd) (b_min : mg "min" = none) (b_max : mg "max" = none) : FnG P w K mg base CX0 1 f fd ["operator", "first", "second"] (liftSp K sp_arithmetic) :=
  F.data sc_arithmetic len_arithmetic t_arithmetic (fun cdv A outer s H E hg hr =>
    (dss_cons (ds_if (dt_cmp (od_eq hr) (de_var 0) de_str (nomark _)) (dss_one (ds_ret (de_op od_add (de_var 1) (de_var 2)))) dss_nil)
      (dss_cons (ds_if (dt_cmp (od_eq hr) (de_var 0) de_str (nomark _)) (dss_one (ds_ret (de_op od_sub (de_var 1) (de_var 2)))) dss_nil)
      (dss_cons (ds_if (dt_cmp (od_eq hr) (de_var 0) de_str (nomark _)) (dss_one (ds_ret (de_op od_mul (de_var 1) (de_var 2)))) dss_nil)
      (dss_cons (ds_if (dt_cmp (od_eq hr) (de_var 0) de_str (nomark _)) (dss_one (ds_ret (de_if (dt_cmp (od_ne hr) (de_var 2) de_int (nomark _)) (de_op od_modA (de_var 1) (de_var 2)) de_int))) dss_nil)
      (dss_one (ds_ret (de_if (dt_cmp (od_eq hr) (de_var 0) de_str (nomark _)) (de_callB (cd_min rfl) (by rfl) b_min (by decide +kernel) (da_cons (de_var 1) (da_cons (de_var 2) da_nil))) (de_callB (cd_max rfl) (by rfl) b_max (by decide +kernel) (da_cons (de_var 1) (da_cons (de_var 2) da_nil))))))))))) pure_arithmetic
/-! ### evaluate -/
abbrev s_evaluate : Stmt := topS 5
abbrev N_evaluate : List Str := ["expression", "values", "operator", "parts", "results", "part", "holds", "result"]
theorem sc_evaluate : FnScope N_evaluate ["expression", "values"] (defScope s_evaluate) := ⟨rfl, rfl, rfl, by decide +kernel, rfl, by decide +kernel, by decide +kernel⟩
def sp_evaluate (n : Nat) : SpD := fun xs M R => ∃ (e : Ex) (env : Env), xs = [.d e.d, .d (envD env)] ∧ e.dep < n ∧ n ≤ 8 ∧ e.ok (env.map (·.1)) ∧ Small env ∧ R (.d (.int (e.val env))) M
theorem none_evaluate : ∀ xs M R, ¬ sp_evaluate 0 xs M R := by
  rintro xs M R ⟨e, env, rfl, hk, _⟩
  omega
def fval (env : Env) (f : PyData → Option Int) : DV → Option PyData
  | .d x => (f x).map PyData.int
  | _ => none
def fnz : DV → Option PyData
  | .d (.int i) => some (.bool (!decide (i = 0)))
  | _ => none
def t_evaluate (n : Nat) : TSD := (dSeq (dAsg (dVar 0) (dgStar (dgName 2) (dgName 3)))
  (dSeq (dIfS (dB (dOp (g2 eqD) (dVar 2) (dC (.d (.str "int"))))) (dRet (dOp ixD (dVar 3) (dC (.d (.int 0))))) dNext)
  (dSeq (dIfS (dB (dOp (g2 eqD) (dVar 2) (dC (.d (.str "name"))))) (dRet (dOp ixK (dVar 1) (dOp ixD (dVar 3) (dC (.d (.int 0)))))) dNext)
  (dSeq (dIfS (dB (dOp (g2 eqD) (dVar 2) (dC (.d (.str "if"))))) (dRet (dCall (sp_evaluate n) (dCons (dIf (dB (dOp (g2 neD) (dCall (sp_evaluate n) (dCons (dOp ixD (dVar 3) (dC (.d (.int 0)))) (dCons (dVar 1) dNil))) (dC (.d (.int 0))))) (dOp ixD (dVar 3) (dC (.d (.int 1)))) (dOp ixD (dVar 3) (dC (.d (.int 2))))) (dCons (dVar 1) dNil)))) dNext)
  (dSeq (dSet 4 (dLc (diSeq (dVar 3)) (dgName 5) dYes (dCall (sp_evaluate n) (dCons (dVar 5) (dCons (dVar 1) dNil))) [5]))
  (dSeq (dIfS (dB (dOp (g2 eqD) (dVar 2) (dC (.d (.str "neg"))))) (dRet (dUn negD (dOp ixD (dVar 4) (dC (.d (.int 0)))))) dNext)
  (dSeq (dIfS (dB (dOp (g2 eqD) (dVar 2) (dC (.d (.str "not"))))) (dRet (dCall (g1 intG) (dCons (dOp (g2 eqD) (dOp ixD (dVar 4) (dC (.d (.int 0)))) (dC (.d (.int 0)))) dNil))) dNext)
  (dSeq (dIfS (dB (dOp (g2 (inD false)) (dVar 2) (dTup (dCons (dC (.d (.str "and"))) (dCons (dC (.d (.str "or"))) dNil))))) (dSeq (dSet 6 (dLc (diSeq (dVar 4)) (dgName 7) dYes (dOp (g2 neD) (dVar 7) (dC (.d (.int 0)))) [7]))
  (dRet (dCall (g1 intG) (dCons (dIf (dB (dOp (g2 eqD) (dVar 2) (dC (.d (.str "and"))))) (dCall allG (dCons (dVar 6) dNil)) (dCall anyG (dCons (dVar 6) dNil))) dNil)))) dNext)
  (dSeq (dIfS (dB (dOp (g2 (inD false)) (dVar 2) (dC c_COMPARISONS))) (dRet (dCall (g1 intG) (dCons (dCall sp_compare_values (dCons (dVar 2) (dCons (dOp ixD (dVar 4) (dC (.d (.int 0)))) (dCons (dOp ixD (dVar 4) (dC (.d (.int 1)))) dNil)))) dNil))) dNext)
  (dRet (dCall sp_arithmetic (dCons (dVar 2) (dCons (dOp ixD (dVar 4) (dC (.d (.int 0)))) (dCons (dOp ixD (dVar 4) (dC (.d (.int 1)))) dNil))))))))))))))

theorem len_evaluate : ∀ n xs M R, sp_evaluate n xs M R → xs.length = 2 := by
  rintro n xs M R ⟨e, env, rfl, _⟩
  rfl
theorem lim_in {e : Ex} {env : Env} {n : Nat} (h : e.ok (env.map (·.1))) (hs : Small env) (hd : e.dep ≤ 8) : Lim 400000 (e.val env) := (val_lim hs e h).mono (Nat.le_trans (bd_mono hd) (by decide))
theorem pure_evaluate : ∀ n xs M R, sp_evaluate (n + 1) xs M R → t_evaluate n { nx := fun _ M' => R (.d .none) M', rt := R } (startD N_evaluate xs) M := by
  rintro n xs M R ⟨e, env, rfl, hd, hn, ho, hs, h⟩
  cases e with
  | int i =>
    refine sq (sq (ifStr true rfl (by decide +kernel) (if_yes rfl ?_)))
    exact optP_of (show atI _ ((0 : Nat) : Int) = some _ from atI_nat rfl) h
  | name x =>
    refine sq (sq (ifStr false rfl (by decide +kernel) (if_no rfl (sq (ifStr true rfl (by decide +kernel) (if_yes rfl ?_))))))
    refine optP_of (show atI _ ((0 : Nat) : Int) = some _ from atI_nat rfl) (optP_of rfl (optP_of ?_ h))
    rw [look_env, look_some rfl ho]
    rfl
  | ite a b c =>
    have ho : a.ok _ ∧ b.ok _ ∧ c.ok _ := ho
    have hd : max a.dep (max b.dep c.dep) + 1 < n + 1 := hd
    refine sq (sq (ifStr false rfl (by decide +kernel) (if_no rfl (sq (ifStr false rfl (by decide +kernel) (if_no rfl (sq (ifStr true rfl (by decide +kernel) (if_yes rfl ?_)))))))))
    refine optP_of (show atI _ ((0 : Nat) : Int) = some _ from atI_nat rfl) ?_
    refine ⟨a, env, rfl, by omega, by omega, ho.1, hs, ?_⟩
    have h : R (.d (.int (if a.val env = 0 then c.val env else b.val env))) M := h
    refine if_ndec (fun hz => ?_) (fun hz => ?_)
    · rw [if_neg hz] at h
      exact optP_of (show atI _ ((1 : Nat) : Int) = some _ from atI_nat rfl) ⟨b, env, rfl, by omega, by omega, ho.2.1, hs, h⟩
    · rw [if_pos hz] at h
      exact optP_of (show atI _ ((2 : Nat) : Int) = some _ from atI_nat rfl) ⟨c, env, rfl, by omega, by omega, ho.2.2, hs, h⟩
  | un o a =>
    have ho : a.ok _ := ho
    have hd : a.dep + 1 < n + 1 := hd
    obtain ⟨n1, n2, n3⟩ := un_ne o
    refine sq (sq (ifStr false rfl n1 (if_no rfl (sq (ifStr false rfl n2 (if_no rfl (sq (ifStr false rfl n3 (if_no rfl ?_)))))))))
    refine sq ?_
    refine lc_set (items := [.d a.d]) (fun _ => some (.int (a.val env))) (by show 1 < 1000000; decide) ?_ ?_
    · intro x hx M' Y Z hy hz
      rw [List.mem_singleton.mp hx]
      exact ⟨a, env, rfl, by omega, by omega, ho, hs, hy _ rfl⟩
    cases o with
    | neg =>
      refine sq (ifStr true rfl (by decide +kernel) (if_yes rfl ?_))
      exact optP_of (show atI _ ((0 : Nat) : Int) = some (.int (a.val env)) from atI_nat rfl) h
    | not =>
      refine sq (ifStr false rfl (by decide +kernel) (if_no rfl (sq (ifStr true rfl (by decide +kernel) (if_yes rfl ?_)))))
      exact optP_of (show atI _ ((0 : Nat) : Int) = some (.int (a.val env)) from atI_nat rfl) h
  | bin o a b =>
    have ho : a.ok _ ∧ b.ok _ := ho
    have hd : max a.dep b.dep + 1 < n + 1 := hd
    obtain ⟨n1, n2, n3, n4, n5⟩ := op_ne o
    have la := lim_in (n := n) ho.1 hs (by omega)
    have lb := lim_in (n := n) ho.2 hs (by omega)
    refine sq (sq (ifStr false rfl n1 (if_no rfl (sq (ifStr false rfl n2 (if_no rfl (sq (ifStr false rfl n3 (if_no rfl ?_)))))))))
    have h : R (.d (.int (opV o (a.val env) (b.val env)))) M := h
    refine seq_cut (fun sl M' => ∃ t5, sl = [some (.d (Ex.bin o a b).d), some (.d (envD env)), some (.d (.str o.s)), some (.d (.list [a.d, b.d])), some (.d (.list [.int (a.val env), .int (b.val env)])), t5, none, none] ∧ M' = M) (fun N hN => ?_) ?_
    · intro q nq
      refine ⟨fun i M' => M' = updM M q (.lst (([PyData.int (a.val env), .int (b.val env)].take i).map DV.d)), rfl, ?_, ?_⟩
      · rintro i x M' hx rfl
        match i, hx with
        | 0, hx =>
          cases hx
          refine ⟨a, env, rfl, by omega, by omega, ho.1, hs, getL_of updM_same ⟨smallL (by show 0 < 1000000; decide), ?_⟩⟩
          rw [updM_upd]
          rfl
        | 1, hx =>
          cases hx
          refine ⟨b, env, rfl, by omega, by omega, ho.2, hs, getL_of updM_same ⟨smallL (by show 1 < 1000000; decide), ?_⟩⟩
          rw [updM_upd]
          rfl
        | j + 2, hx => cases hx
      · rintro M' rfl
        refine getL_of updM_same (optP_of (allD_of _) ?_)
        rw [delM_upd nq]
        exact hN _ _ ⟨_, rfl, rfl⟩
    rintro sl M' ⟨t5, rfl, rfl⟩
    refine sq (ifStr false rfl n4 (if_no rfl (sq (ifStr false rfl n5 (if_no rfl ?_)))))
    refine sq (disp ?_)
    refine ⟨inOk_two _ _ _, if_two o.isLog (op_log o) ?_⟩
    cases hl : o.isLog with
    | true =>
      refine if_yes rfl (sq ?_)
      refine lc_set (items := [.d (.int (a.val env)), .d (.int (b.val env))]) fnz (by show 2 < 1000000; decide) ?_ ?_
      · intro x hx M' Y Z hy hz
        simp only [List.mem_cons, List.not_mem_nil, or_false] at hx
        rcases hx with rfl | rfl
        · exact hy _ rfl
        · exact hy _ rfl
      cases o with
      | and =>
        refine optP_of (boolsD_of [!decide (a.val env = 0), !decide (b.val env = 0)]) ?_
        have e : ([!decide (a.val env = 0), !decide (b.val env = 0)].all id) = (!decide (a.val env = 0) && !decide (b.val env = 0)) := by simp
        show R (.d (.int (if ([!decide (a.val env = 0), !decide (b.val env = 0)].all id) = true then 1 else 0))) _
        rw [e]
        exact h
      | or =>
        refine optP_of (boolsD_of [!decide (a.val env = 0), !decide (b.val env = 0)]) ?_
        have e : ([!decide (a.val env = 0), !decide (b.val env = 0)].any id) = (!decide (a.val env = 0) || !decide (b.val env = 0)) := by simp
        show R (.d (.int (if ([!decide (a.val env = 0), !decide (b.val env = 0)].any id) = true then 1 else 0))) _
        rw [e]
        exact h
      | _ => cases hl
    | false =>
      refine if_no rfl (sq ⟨inOk_six _ _ _ _ _ _ _, if_six o.isCmp (op_cmp o) ?_⟩)
      cases hq : o.isCmp with
      | true =>
        refine if_yes rfl (optP_of (show atI _ ((0 : Nat) : Int) = some _ from atI_nat rfl) (optP_of (show atI _ ((1 : Nat) : Int) = some _ from atI_nat rfl) ⟨o, _, _, rfl, hq, ?_⟩))
        have e : opV o (a.val env) (b.val env) = b2 (cmpB o (a.val env) (b.val env)) := by cases o <;> first | rfl | cases hq
        rw [e] at h
        exact h
      | false => exact if_no rfl (optP_of (show atI _ ((0 : Nat) : Int) = some _ from atI_nat rfl) (optP_of (show atI _ ((1 : Nat) : Int) = some _ from atI_nat rfl) ⟨o, _, _, rfl, hq, hl, la, lb, h⟩))
theorem ok_evaluate (n : Nat) {P : Program} {w : World} {K : PySem.W.Frag} {mg : Str → Option Value} {base : Heap} {dV : Value} {f : Addr} {fd : FuncData} (F : FunA K "evaluate" "evaluate" s_evaluate dV f fd) (D_evaluate : Def P w K mg base "evaluate" (2 + n) (sp_evaluate n)) (D_compare_values : Def P w K mg base "compare_values" 1 sp_compare_values) (D_arithmetic : Def P w K mg base "arithmetic" 1 sp_arithmetic) (b_int : mg "int" = none) (b_all : mg "all" = none) (b_any : mg "any" = none) (g_COMPARISONS : Glb K mg "COMPARISONS" c_COMPARISONS) : FnG P w K mg base CX0 (2 + n + 1) f fd ["expression", "values"] (liftSp K (sp_evaluate (n + 1))) :=
  F.data sc_evaluate (len_evaluate (n + 1)) (t_evaluate n) (fun cdv A outer s H E hg hr =>
    (dss_cons (ds_asg (de_var 0) (dg_star rfl (dg_name (i := 2) sc_evaluate.nd rfl (by first | exact Or.inl rfl | exact Or.inr rfl)) (dg_name (i := 3) sc_evaluate.nd rfl (by first | exact Or.inl rfl | exact Or.inr rfl))))
      (dss_cons (ds_if (dt_cmp (od_eq hr) (de_var 2) de_str (nomark _)) (dss_one (ds_ret (de_ix (de_var 3) de_int))) dss_nil)
      (dss_cons (ds_if (dt_cmp (od_eq hr) (de_var 2) de_str (nomark _)) (dss_one (ds_ret (de_ixK hr (de_var 1) (de_ix (de_var 3) de_int)))) dss_nil)
      (dss_cons (ds_if (dt_cmp (od_eq hr) (de_var 2) de_str (nomark _)) (dss_one (ds_ret (D_evaluate.de hg (hr.mono (Nat.le_refl _)) (by rfl) (da_cons (de_if (dt_cmp (od_ne hr) (D_evaluate.de hg (hr.mono (Nat.le_refl _)) (by rfl) (da_cons (de_ix (de_var 3) de_int) (da_cons (de_var 1) da_nil))) de_int (nomark _)) (de_ix (de_var 3) de_int) (de_ix (de_var 3) de_int)) (da_cons (de_var 1) da_nil))))) dss_nil)
      (dss_cons (ds_setLc (i := 4) (own := [("part", 5)]) rfl sc_evaluate.nd rfl rfl (sw_true rfl rfl rfl (by decide +kernel)) (di_seq (de_var 3)) (blkOk_by (own := [("part", 5)]) (N := N_evaluate) (sc := defScope s_evaluate) (by decide +kernel)) (fun _ _ _ _ _ => (dg_name (i := 5) sc_evaluate.nd rfl (by first | exact Or.inl rfl | exact Or.inr rfl))) (fun _ _ _ _ _ => dts_nil) (fun _ _ _ _ _ => (D_evaluate.de hg (hr.mono (Nat.le_refl _)) (by rfl) (da_cons (de_var 5) (da_cons (de_var 1) da_nil)))) (by decide))
      (dss_cons (ds_if (dt_cmp (od_eq hr) (de_var 2) de_str (nomark _)) (dss_one (ds_ret (de_neg (de_ix (de_var 4) de_int)))) dss_nil)
      (dss_cons (ds_if (dt_cmp (od_eq hr) (de_var 2) de_str (nomark _)) (dss_one (ds_ret (de_callTy cd_int (by rfl) b_int (by decide +kernel) (da_cons (de_cmp (od_eq hr) (de_ix (de_var 4) de_int) de_int (nomark _)) da_nil)))) dss_nil)
      (dss_cons (ds_if (dt_cmp (od_in hr) (de_var 2) (de_tup (da_cons de_str (da_cons de_str da_nil))) rfl) (dss_cons (ds_setLc (i := 6) (own := [("result", 7)]) rfl sc_evaluate.nd rfl rfl (sw_true rfl rfl rfl (by decide +kernel)) (di_seq (de_var 4)) (blkOk_by (own := [("result", 7)]) (N := N_evaluate) (sc := defScope s_evaluate) (by decide +kernel)) (fun _ _ _ _ _ => (dg_name (i := 7) sc_evaluate.nd rfl (by first | exact Or.inl rfl | exact Or.inr rfl))) (fun _ _ _ _ _ => dts_nil) (fun _ _ _ _ _ => (de_cmp (od_ne hr) (de_var 7) de_int (nomark _))) (by decide))
      (dss_one (ds_ret (de_callTy cd_int (by rfl) b_int (by decide +kernel) (da_cons (de_if (dt_cmp (od_eq hr) (de_var 2) de_str (nomark _)) (de_callB (cd_all rfl) (by rfl) b_all (by decide +kernel) (da_cons (de_var 6) da_nil)) (de_callB (cd_any rfl) (by rfl) b_any (by decide +kernel) (da_cons (de_var 6) da_nil))) da_nil))))) dss_nil)
      (dss_cons (ds_if (dt_cmp (od_in hr) (de_var 2) (g_COMPARISONS.de (by rfl)) rfl) (dss_one (ds_ret (de_callTy cd_int (by rfl) b_int (by decide +kernel) (da_cons (D_compare_values.de hg (hr.mono (by omega)) (by rfl) (da_cons (de_var 2) (da_cons (de_ix (de_var 4) de_int) (da_cons (de_ix (de_var 4) de_int) da_nil)))) da_nil)))) dss_nil)
      (dss_one (ds_ret (D_arithmetic.de hg (hr.mono (by omega)) (by rfl) (da_cons (de_var 2) (da_cons (de_ix (de_var 4) de_int) (da_cons (de_ix (de_var 4) de_int) da_nil)))))))))))))))) (pure_evaluate n)
/-! ### names_of -/
abbrev s_names_of : Stmt := topS 2
abbrev N_names_of : List Str := ["program", "variable"]
theorem sc_names_of : FnScope N_names_of ["program"] (defScope s_names_of) := ⟨rfl, rfl, rfl, by decide +kernel, rfl, by decide +kernel, by decide +kernel⟩
def sp_names_of : SpD := fun xs M R => ∃ (g : Pg) (most : Nat), xs = [.d g.d] ∧ g.Ok most ∧ R (.d (.list (g.names.map PyData.str))) M
def t_names_of : TSD := (dRet (dLc (diSeq (dOp ixD (dVar 0) (dC (.d (.int 0))))) (dgName 1) dYes (dOp ixD (dVar 1) (dC (.d (.int 0)))) [1]))

theorem len_names_of : ∀ xs M R, sp_names_of xs M R → xs.length = 1 := by
  rintro xs M R ⟨g, most, rfl, _⟩
  rfl
theorem pure_names_of : ∀ xs M R, sp_names_of xs M R → t_names_of { nx := fun _ M' => R (.d .none) M', rt := R } (startD N_names_of xs) M := by
  rintro xs M R ⟨g, most, rfl, ok, h⟩
  refine i_ret (optP_of (show atI _ ((0 : Nat) : Int) = some _ from atI_nat rfl) ?_)
  refine lc_pure (R := R) (items := (g.vars.map Vr.d).map DV.d) fnm (by rw [List.length_map, List.length_map]; have := ok.few; omega) ?_ ?_
  · intro x hx M' Y Z hY hZ
    obtain ⟨d, hd, rfl⟩ := List.mem_map.mp hx
    obtain ⟨v, hv, rfl⟩ := List.mem_map.mp hd
    exact optP_of (show atI _ ((0 : Nat) : Int) = some _ from atI_nat rfl) (hY _ rfl)
  · rw [fnm_vars]
    exact h
theorem ok_names_of {P : Program} {w : World} {K : PySem.W.Frag} {mg : Str → Option Value} {base : Heap} {dV : Value} {f : Addr} {fd : FuncData} (F : FunA K "names_of" "names_of" s_names_of dV f fd)  : FnG P w K mg base CX0 1 f fd ["program"] (liftSp K sp_names_of) :=
  F.data sc_names_of len_names_of t_names_of (fun cdv A outer s H E hg hr =>
    (dss_one (ds_ret (de_lc (own := [("variable", 1)]) rfl sc_names_of.nd (di_seq (de_ix (de_var 0) de_int)) (blkOk_by (own := [("variable", 1)]) (N := N_names_of) (sc := defScope s_names_of) (by decide +kernel)) (fun _ _ _ _ _ => (dg_name (i := 1) sc_names_of.nd rfl (by first | exact Or.inl rfl | exact Or.inr rfl))) (fun _ _ _ _ _ => dts_nil) (fun _ _ _ _ _ => (de_ix (de_var 1) de_int)) (by decide))))) pure_names_of
/-! ### values_of -/
abbrev s_values_of : Stmt := topS 9
abbrev N_values_of : List Str := ["program", "state", "name", "value"]
theorem sc_values_of : FnScope N_values_of ["program", "state"] (defScope s_values_of) := ⟨rfl, rfl, rfl, by decide +kernel, rfl, by decide +kernel, by decide +kernel⟩
def sp_values_of : SpD := fun xs M R => ∃ (g : Pg) (most : Nat) (s : List Int), xs = [.d g.d, .d (stD s)] ∧ g.Ok most ∧ g.St s ∧ R (.d (envD (g.env s))) M
def t_values_of : TSD := (dRet (dDc (diZip (dCons (dCall sp_names_of (dCons (dVar 0) dNil)) (dCons (dVar 1) dNil))) (dgTup 2 (dgCons (dgName 2) (dgCons (dgName 3) dgNil))) dYes (dVar 2) (dVar 3) [2, 3]))

theorem len_values_of : ∀ xs M R, sp_values_of xs M R → xs.length = 2 := by
  rintro xs M R ⟨g, most, s, rfl, _⟩
  rfl
theorem pure_values_of : ∀ xs M R, sp_values_of xs M R → t_values_of { nx := fun _ M' => R (.d .none) M', rt := R } (startD N_values_of xs) M := by
  rintro xs M R ⟨g, most, s, rfl, ok, hs, h⟩
  refine ⟨g, most, rfl, ok, optP_of rfl (optP_of rfl ?_)⟩
  rw [zipL_env, show g.names.zip s = g.env s from rfl]
  have hfst := g.env_fst hs
  intro q nq
  refine ⟨fun i M' => M' = updM M q (.dk (kvE ((g.env s).take i))), rfl, ?_, ?_⟩
  · rintro i x M' hx rfl
    obtain ⟨p, hp, rfl⟩ := map_get hx
    refine ⟨rfl, optP_of rfl (getD_of updM_same ⟨smallL ?_, ?_⟩)⟩
    · rw [List.length_map, List.length_take]
      have : (g.env s).length ≤ 8 := by
        rw [← List.length_map (f := (·.1)), hfst]
        unfold Pg.names
        rw [List.length_map]
        exact ok.few
      omega
    · show updM (updM M q _) q _ = updM M q (.dk (kvE ((g.env s).take (i + 1))))
      rw [updM_upd, take_snoc hp, putD_new]
      · unfold kvE
        rw [List.map_append]
        rfl
      · intro hm
        have hnd : ((g.env s).map (·.1)).Nodup := by rw [hfst]; exact ok.nd
        have h2 : ((g.env s).take (i + 1)).Sublist (g.env s) := List.take_sublist _ _
        have h3 : (((g.env s).take (i + 1)).map (·.1)).Nodup := List.Nodup.sublist (h2.map _) hnd
        rw [take_snoc hp, List.map_append] at h3
        obtain ⟨y, hy, ey⟩ := List.mem_map.mp hm
        obtain ⟨z, hz, rfl⟩ := List.mem_map.mp hy
        have ez : z.1 = p.1 := Sum.inr.inj ey
        exact (List.nodup_append.mp h3).2.2 _ (List.mem_map.mpr ⟨z, hz, rfl⟩) _ (by simp) ez
  · rintro M' rfl
    refine getD_of updM_same (optP_of (kvE_all _) ?_)
    rw [List.length_map, List.take_length, delM_upd nq]
    exact h
theorem ok_values_of {P : Program} {w : World} {K : PySem.W.Frag} {mg : Str → Option Value} {base : Heap} {dV : Value} {f : Addr} {fd : FuncData} (F : FunA K "values_of" "values_of" s_values_of dV f fd) (D_names_of : Def P w K mg base "names_of" 1 sp_names_of) (b_zip : mg "zip" = none) : FnG P w K mg base CX0 2 f fd ["program", "state"] (liftSp K sp_values_of) :=
  F.data sc_values_of len_values_of t_values_of (fun cdv A outer s H E hg hr =>
    (dss_one (ds_ret (de_dc (own := [("name", 2), ("value", 3)]) rfl sc_values_of.nd (di_zip (by rfl) b_zip (da_cons (D_names_of.de hg (hr.mono (by decide)) (by rfl) (da_cons (de_var 0) da_nil)) (da_cons (de_var 1) da_nil))) (blkOk_by (own := [("name", 2), ("value", 3)]) (N := N_values_of) (sc := defScope s_values_of) (by decide +kernel)) (fun _ _ _ _ _ => (dg_tup rfl (dgs_cons (dg_name (i := 2) sc_values_of.nd rfl (by first | exact Or.inl rfl | exact Or.inr rfl)) (dgs_cons (dg_name (i := 3) sc_values_of.nd rfl (by first | exact Or.inl rfl | exact Or.inr rfl)) dgs_nil)))) (fun _ _ _ _ _ => dts_nil) (fun _ _ _ _ _ => (de_var 2)) (fun _ _ _ _ _ => (de_var 3)) (by decide))))) pure_values_of
/-! ### is_halted -/
abbrev s_is_halted : Stmt := topS 10
abbrev N_is_halted : List Str := ["program", "state"]
theorem sc_is_halted : FnScope N_is_halted ["program", "state"] (defScope s_is_halted) := ⟨rfl, rfl, rfl, by decide +kernel, rfl, by decide +kernel, by decide +kernel⟩
def sp_is_halted : SpD := fun xs M R => ∃ (g : Pg) (most : Nat) (s : List Int), xs = [.d g.d, .d (stD s)] ∧ g.Ok most ∧ g.St s ∧ R (.d (.bool (g.stopped s))) M
def t_is_halted : TSD := (dRet (dAndV (dOp notND (dOp ixD (dVar 0) (dC (.d (.int 1)))) (dC (.d .none))) (dOp (g2 neD) (dCall (sp_evaluate 8) (dCons (dOp ixD (dVar 0) (dC (.d (.int 1)))) (dCons (dCall sp_values_of (dCons (dVar 0) (dCons (dVar 1) dNil))) dNil))) (dC (.d (.int 0))))))

theorem len_is_halted : ∀ xs M R, sp_is_halted xs M R → xs.length = 2 := by
  rintro xs M R ⟨g, most, s, rfl, _⟩
  rfl
theorem pure_is_halted : ∀ xs M R, sp_is_halted xs M R → t_is_halted { nx := fun _ M' => R (.d .none) M', rt := R } (startD N_is_halted xs) M := by
  rintro xs M R ⟨g, most, s, rfl, ok, hs, h⟩
  refine i_ret (optP_of (show atI _ ((1 : Nat) : Int) = some (haltD g.halt) from atI_nat rfl) ?_)
  unfold Pg.stopped at h
  cases e : g.halt with
  | none =>
    rw [e] at h
    exact h
  | some x =>
    rw [e] at h
    obtain ⟨xo, xd⟩ := ok.ht x e
    have xk : haltD (some x) = x.d := rfl
    cases x <;>
    · refine optP_of (show atI _ ((1 : Nat) : Int) = some (haltD g.halt) from atI_nat rfl) ?_
      refine ⟨g, most, s, rfl, ok, hs, ?_⟩
      exact ⟨_, g.env s, by rw [e]; rfl, by omega, by omega, by rw [g.env_fst hs]; exact xo, g.env_small hs, h⟩
theorem ok_is_halted {P : Program} {w : World} {K : PySem.W.Frag} {mg : Str → Option Value} {base : Heap} {dV : Value} {f : Addr} {fd : FuncData} (F : FunA K "is_halted" "is_halted" s_is_halted dV f fd) (D_evaluate : Def P w K mg base "evaluate" 10 (sp_evaluate 8)) (D_values_of : Def P w K mg base "values_of" 2 sp_values_of) : FnG P w K mg base CX0 11 f fd ["program", "state"] (liftSp K sp_is_halted) :=
  F.data sc_is_halted len_is_halted t_is_halted (fun cdv A outer s H E hg hr =>
    (dss_one (ds_ret (de_and (de_cmp od_notN (de_ix (de_var 0) de_int) de_non (nomark _)) (de_one (de_cmp (od_ne hr) (D_evaluate.de hg (hr.mono (by decide)) (by rfl) (da_cons (de_ix (de_var 0) de_int) (da_cons (D_values_of.de hg (hr.mono (by decide)) (by rfl) (da_cons (de_var 0) (da_cons (de_var 1) da_nil))) da_nil))) de_int (nomark _))))))) pure_is_halted
/-! ### _law_next_state -/
abbrev s__law_next_state : Stmt := topS 24
abbrev N__law_next_state : List Str := ["program", "state", "values", "assigned", "found", "name", "low", "high", "start", "rule", "value"]
theorem sc__law_next_state : FnScope N__law_next_state ["program", "state"] (defScope s__law_next_state) := ⟨rfl, rfl, rfl, by decide +kernel, rfl, by decide +kernel, by decide +kernel⟩
def sp__law_next_state : SpD := fun xs M R => ∃ (g : Pg) (most : Nat) (s : List Int), xs = [.d g.d, .d (stD s)] ∧ g.Ok most ∧ In s g.vars ∧ R (.d (stD (g.next s))) M
def t__law_next_state : TSD := (dSeq (dIfS (dB (dCall sp__law_is_stopped (dCons (dVar 0) (dCons (dVar 1) dNil)))) (dRet (dVar 1)) dNext)
  (dSeq (dSet 2 (dCall sp__law_named_values (dCons (dVar 0) (dCons (dVar 1) dNil))))
  (dSeq (dSet 3 (dCall dictPG (dCons (dOp ixD (dVar 0) (dC (.d (.int 2)))) dNil)))
  (dSeq (dSet 4 (dLstO dNil))
  (dSeq (dFor (diSeq (dOp ixD (dVar 0) (dC (.d (.int 0))))) (dgTup 5 (dgCons (dgName 5) (dgCons (dgName 6) (dgCons (dgName 7) (dgCons (dgName 8) (dgCons (dgName 9) dgNil)))))) (dSeq (dSet 10 (dIf (dB (dOp (inK false) (dVar 5) (dVar 3))) (dCall (sp__law_evaluated 8) (dCons (dOp ixK (dVar 3) (dVar 5)) (dCons (dVar 2) dNil))) (dOp ixK (dVar 2) (dVar 5))))
  (dAppend (dVar 4) (dIf (dB (dOp (g2 ltD) (dVar 10) (dVar 6))) (dVar 6) (dIf (dB (dOp (g2 (intCmp fun i j => decide (j < i))) (dVar 10) (dVar 7))) (dVar 7) (dVar 10))))))
  (dFreeze 4 (dRet (dCall tupleG (dCons (dVar 4) dNil)))))))))

theorem len__law_next_state : ∀ xs M R, sp__law_next_state xs M R → xs.length = 2 := by
  rintro xs M R ⟨g, most, s, rfl, _⟩
  rfl
theorem pure__law_next_state : ∀ xs M R, sp__law_next_state xs M R → t__law_next_state { nx := fun _ M' => R (.d .none) M', rt := R } (startD N__law_next_state xs) M := by
  rintro xs M R ⟨g, most, s, rfl, ok, hin, h⟩
  have hs := In.st ok hin
  unfold Pg.next at h
  refine sq ⟨g, most, s, rfl, ok, hs, if_b (fun hb => ?_) fun hb => ?_⟩
  · rw [if_pos hb] at h
    exact h
  rw [if_neg (by rw [hb]; exact Bool.false_ne_true)] at h
  refine sq ⟨g, most, s, rfl, ok, hs, ?_⟩
  refine sq (optP_of (show atI _ ((2 : Nat) : Int) = some _ from atI_nat rfl) (optP_of (asg_pairs _) ⟨?_, ?_⟩))
  · rw [List.map_map]
    have : (g.asg.map ((fun x => x.1) ∘ fun a => ((Sum.inr a.1 : Key), a.2.d))) = (g.asg.map (·.1)).map Sum.inr := by rw [List.map_map]; rfl
    rw [this]
    exact inr_nodup ok.an
  rw [asg_kv]
  refine sq ⟨Nat.zero_le _, fun q nq => ?_⟩
  refine seq_cut (fun sl M2 => ∃ (u_program u_state u_values u_assigned u_name u_low u_high u_start u_rule u_value : Option DV), sl = [u_program, u_state, u_values, u_assigned, some (.raw (.ref q)), u_name, u_low, u_high, u_start, u_rule, u_value] ∧ M2 = updM M q (.lst ((dI (nextTo g s g.vars.length)).map DV.d))) (fun N hN => ?_) ?_
  · refine optP_of (show atI _ ((0 : Nat) : Int) = some _ from atI_nat rfl) ?_
    refine ⟨fun i sl M2 => ∃ (u_state u_name u_low u_high u_start u_rule u_value : Option DV), sl = [some (.d g.d), u_state, some (.d (envD (g.env s))), some (.d (.dict (g.asg.map fun a => (PyData.str a.1, a.2.d)))), some (.raw (.ref q)), u_name, u_low, u_high, u_start, u_rule, u_value] ∧ M2 = updM M q (.lst ((dI (nextTo g s i)).map DV.d)), ⟨_, _, _, _, _, _, _, rfl, rfl⟩, ?_, ?_⟩
    · rintro i x sl M2 hx ⟨u_state, u_name, u_low, u_high, u_start, u_rule, u_value, rfl, rfl⟩
      obtain ⟨d, hd, rfl⟩ := map_get hx
      rw [List.getElem?_map] at hd
      cases e : g.vars[i]? with
      | none => rw [e] at hd; cases hd
      | some v =>
        rw [e] at hd
        cases hd
        have hv := List.mem_of_getElem? e
        have ov := ok.vr v hv
        refine ⟨rfl, ?_⟩
        refine seq_cut (fun sl M3 => M3 = updM M q (.lst ((dI (nextTo g s i)).map DV.d)) ∧ ∃ (u_state u_name u_start u_rule : Option DV), sl = [some (.d g.d), u_state, some (.d (envD (g.env s))), some (.d (.dict (g.asg.map fun a => (PyData.str a.1, a.2.d)))), some (.raw (.ref q)), u_name, some (.d (.int v.lo)), some (.d (.int v.hi)), u_start, u_rule, some (.d (.int (g.nv s v)))]) (fun N2 hN2 => ?_) ?_
        · refine optP_of rfl ?_
          have el := look_gen Ex.d g.asg v.nm
          show if (lookD (g.asg.map fun a => (PyData.str a.1, a.2.d)) (.inr v.nm)).isSome = true then _ else _
          have en : g.nv s v = (match g.asg.lookup v.nm with | some e => e.val (g.env s) | none => ((g.env s).lookup v.nm).getD 0) := rfl
          cases ea : g.asg.lookup v.nm with
          | none =>
            rw [ea] at el en
            rw [el]
            refine if_no rfl (optP_of rfl (optP_of (look_in hs hv) ?_))
            rw [← show g.nv s v = ((g.env s).lookup v.nm).getD 0 from en]
            exact hN2 _ _ ⟨rfl, _, _, _, _, rfl⟩
          | some x =>
            rw [ea] at el en
            rw [el]
            obtain ⟨xo, xd⟩ := ok.as _ (lookup_mem ea)
            refine if_yes rfl (optP_of rfl (optP_of el ⟨x, g.env s, rfl, Nat.lt_of_le_of_lt xd (by decide), by decide, by rw [g.env_fst hs]; exact xo, g.env_small hs, ?_⟩))
            rw [← show g.nv s v = x.val (g.env s) from en]
            exact hN2 _ _ ⟨rfl, _, _, _, _, rfl⟩
        · rintro sl M3 ⟨rfl, u_state, u_name, u_start, u_rule, rfl⟩
          refine getL_of updM_same ?_
          have fin : ∀ (sl : Slots) (r : Int), (∃ (u_state u_name u_low u_high u_start u_rule u_value : Option DV), sl = [some (.d g.d), u_state, some (.d (envD (g.env s))), some (.d (.dict (g.asg.map fun a => (PyData.str a.1, a.2.d)))), some (.raw (.ref q)), u_name, u_low, u_high, u_start, u_rule, u_value]) → r = clip v (g.nv s v) → getL (updM M q (.lst ((dI (nextTo g s i)).map DV.d))) q fun xs => xs.length < sizeLine ∧ ∃ (u_state u_name u_low u_high u_start u_rule u_value : Option DV), sl = [some (.d g.d), u_state, some (.d (envD (g.env s))), some (.d (.dict (g.asg.map fun a => (PyData.str a.1, a.2.d)))), some (.raw (.ref q)), u_name, u_low, u_high, u_start, u_rule, u_value] ∧ updM (updM M q (.lst ((dI (nextTo g s i)).map DV.d))) q (.lst (xs ++ [.d (.int r)])) = updM M q (.lst ((dI (nextTo g s (i + 1))).map DV.d)) := by
            rintro sl r ⟨u_state, u_name, u_low, u_high, u_start, u_rule, u_value, rfl⟩ rfl
            refine getL_of updM_same ⟨smallL ?_, _, _, _, _, _, _, _, rfl, ?_⟩
            · rw [List.length_map, List.length_map]
              have h1 := nextTo_len g s i
              have h2 := ok.few
              omega
            · rw [updM_upd, nextTo_snoc e, show dI (nextTo g s i ++ [clip v (g.nv s v)]) = dI (nextTo g s i) ++ [.int (clip v (g.nv s v))] from List.map_append, List.map_append]
              rfl
          unfold clip at fin
          refine if_dec (fun hc => ?_) (fun hc => if_dec (fun hd => ?_) fun hd => ?_)
          · exact fin _ _ ⟨_, _, _, _, _, _, _, rfl⟩ (if_pos hc).symm
          · exact fin _ _ ⟨_, _, _, _, _, _, _, rfl⟩ (by rw [if_neg hc, if_pos hd])
          · exact fin _ _ ⟨_, _, _, _, _, _, _, rfl⟩ (by rw [if_neg hc, if_neg hd])
    · rintro sl M2 ⟨u_state, u_name, u_low, u_high, u_start, u_rule, u_value, rfl, rfl⟩
      exact hN _ _ ⟨_, _, _, _, _, _, _, _, _, _, rfl, by rw [List.length_map, List.length_map]⟩
  · rintro sl M2 ⟨u_program, u_state, u_values, u_assigned, u_name, u_low, u_high, u_start, u_rule, u_value, rfl, rfl⟩
    refine getL_of updM_same (optP_of (allD_of _) ?_)
    rw [delM_upd nq]
    show R (.d (.tuple (dI (nextTo g s g.vars.length)))) M
    unfold nextTo
    rw [List.take_length]
    exact h
theorem ok__law_next_state {P : Program} {w : World} {K : PySem.W.Frag} {mg : Str → Option Value} {base : Heap} {dV : Value} {f : Addr} {fd : FuncData} (F : FunA K "_law_next_state" "_law_next_state" s__law_next_state dV f fd) (D__law_is_stopped : Def P w K mg base "_law_is_stopped" 10 sp__law_is_stopped) (D__law_named_values : Def P w K mg base "_law_named_values" 1 sp__law_named_values) (D__law_evaluated : Def P w K mg base "_law_evaluated" 9 (sp__law_evaluated 8)) (b_dict : mg "dict" = none) (b_tuple : mg "tuple" = none) : FnG P w K mg base CX0 11 f fd ["program", "state"] (liftSp K sp__law_next_state) :=
  F.data sc__law_next_state len__law_next_state t__law_next_state (fun cdv A outer s H E hg hr =>
    (dss_cons (ds_if (dt_val (D__law_is_stopped.de hg (hr.mono (by decide)) (by rfl) (da_cons (de_var 0) (da_cons (de_var 1) da_nil)))) (dss_one (ds_ret (de_var 1))) dss_nil)
      (dss_cons (ds_set (i := 2) sc__law_next_state.nd rfl (by first | exact Or.inl rfl | exact Or.inr rfl) (D__law_named_values.de hg (hr.mono (by decide)) (by rfl) (da_cons (de_var 0) (da_cons (de_var 1) da_nil))))
      (dss_cons (ds_set (i := 3) sc__law_next_state.nd rfl (by first | exact Or.inl rfl | exact Or.inr rfl) (de_callTy (cd_dictP rfl) (by rfl) b_dict (by decide +kernel) (da_cons (de_ix (de_var 0) de_int) da_nil)))
      (dss_cons (ds_set (i := 4) sc__law_next_state.nd rfl (by first | exact Or.inl rfl | exact Or.inr rfl) (de_lstO da_nil))
      (dss_cons (ds_for PassesOwn.never rfl (di_seq (de_ix (de_var 0) de_int)) (dg_tup rfl (dgs_cons (dg_name (i := 5) sc__law_next_state.nd rfl (by first | exact Or.inl rfl | exact Or.inr rfl)) (dgs_cons (dg_name (i := 6) sc__law_next_state.nd rfl (by first | exact Or.inl rfl | exact Or.inr rfl)) (dgs_cons (dg_name (i := 7) sc__law_next_state.nd rfl (by first | exact Or.inl rfl | exact Or.inr rfl)) (dgs_cons (dg_name (i := 8) sc__law_next_state.nd rfl (by first | exact Or.inl rfl | exact Or.inr rfl)) (dgs_cons (dg_name (i := 9) sc__law_next_state.nd rfl (by first | exact Or.inl rfl | exact Or.inr rfl)) dgs_nil)))))) (dss_cons (ds_set (i := 10) sc__law_next_state.nd rfl (by first | exact Or.inl rfl | exact Or.inr rfl) (de_if (dt_inK hr (de_var 5) (de_var 3)) (D__law_evaluated.de hg (hr.mono (by decide)) (by rfl) (da_cons (de_ixK hr (de_var 3) (de_var 5)) (da_cons (de_var 2) da_nil))) (de_ixK hr (de_var 2) (de_var 5))))
      (dss_one (ds_append (de_var 4) (de_if (dt_cmp (od_lt hr) (de_var 10) (de_var 6) (nomark _)) (de_var 6) (de_if (dt_cmp od_gt (de_var 10) (de_var 7) (nomark _)) (de_var 7) (de_var 10)))))))
      (dss_freeze 4 (dss_one (ds_ret (de_callTy cd_tuple (by rfl) b_tuple (by decide +kernel) (da_cons (de_var 4) da_nil))))))))))) pure__law_next_state
/-! ### successor -/
abbrev s_successor : Stmt := topS 11
abbrev N_successor : List Str := ["program", "state", "values", "assigned", "name", "expression", "fresh", "low", "high", "start", "rule"]
theorem sc_successor : FnScope N_successor ["program", "state"] (defScope s_successor) := ⟨rfl, rfl, rfl, by decide +kernel, rfl, by decide +kernel, by decide +kernel⟩
def sp_successor : SpD := fun xs M R => ∃ (g : Pg) (most : Nat) (s : List Int), xs = [.d g.d, .d (stD s)] ∧ g.Ok most ∧ In s g.vars ∧ R (.d (stD (g.next s))) M
def t_successor : TSD := (dSeq (dIfS (dB (dCall sp_is_halted (dCons (dVar 0) (dCons (dVar 1) dNil)))) (dRet (dVar 1)) dNext)
  (dSeq (dSet 2 (dCall sp_values_of (dCons (dVar 0) (dCons (dVar 1) dNil))))
  (dSeq (dSet 3 (dDc (diSeq (dOp ixD (dVar 0) (dC (.d (.int 2))))) (dgTup 2 (dgCons (dgName 4) (dgCons (dgName 5) dgNil))) dYes (dVar 4) (dCall (sp_evaluate 8) (dCons (dVar 5) (dCons (dVar 2) dNil))) [4, 5]))
  (dSeq (dSet 6 (dLstO dNil))
  (dSeq (dFor (diSeq (dOp ixD (dVar 0) (dC (.d (.int 0))))) (dgTup 5 (dgCons (dgName 4) (dgCons (dgName 7) (dgCons (dgName 8) (dgCons (dgName 9) (dgCons (dgName 10) dgNil)))))) (dAppend (dVar 6) (dCall maxG (dCons (dVar 7) (dCons (dCall minG (dCons (dVar 8) (dCons (dGetK (dVar 3) (dVar 4) (dOp ixK (dVar 2) (dVar 4))) dNil))) dNil)))))
  (dFreeze 6 (dRet (dCall tupleG (dCons (dVar 6) dNil)))))))))

theorem len_successor : ∀ xs M R, sp_successor xs M R → xs.length = 2 := by
  rintro xs M R ⟨g, most, s, rfl, _⟩
  rfl
theorem pure_successor : ∀ xs M R, sp_successor xs M R → t_successor { nx := fun _ M' => R (.d .none) M', rt := R } (startD N_successor xs) M := by
  rintro xs M R ⟨g, most, s, rfl, ok, hin, h⟩
  have hs := In.st ok hin
  unfold Pg.next at h
  refine sq ⟨g, most, s, rfl, ok, hs, if_b (fun hb => ?_) fun hb => ?_⟩
  · rw [if_pos hb] at h
    exact h
  rw [if_neg (by rw [hb]; exact Bool.false_ne_true)] at h
  refine sq ⟨g, most, s, rfl, ok, hs, ?_⟩
  refine seq_cut (fun sl M1 => M1 = M ∧ ∃ (u_state u_name u_expression u_fresh u_low u_high u_start u_rule : Option DV), sl = [some (.d g.d), u_state, some (.d (envD (g.env s))), some (.d (.dict (g.asg.map fun a => (PyData.str a.1, PyData.int (a.2.val (g.env s)))))), u_name, u_expression, u_fresh, u_low, u_high, u_start, u_rule]) (fun N hN => ?_) ?_
  · refine optP_of (show atI _ ((2 : Nat) : Int) = some _ from atI_nat rfl) ?_
    intro q nq
    refine ⟨fun i M' => M' = updM M q (.dk (kvA g s (g.asg.take i))), rfl, ?_, ?_⟩
    · rintro i x M' hx rfl
      obtain ⟨d, hd, rfl⟩ := map_get hx
      rw [List.getElem?_map] at hd
      cases e : g.asg[i]? with
      | none => rw [e] at hd; cases hd
      | some a =>
        rw [e] at hd
        cases hd
        obtain ⟨ao, ad⟩ := ok.as a (List.mem_of_getElem? e)
        have h8 := asg_keys ok ok.ak
        refine ⟨rfl, a.2, g.env s, rfl, by omega, by decide, by rw [g.env_fst hs]; exact ao, g.env_small hs, optP_of rfl (getD_of updM_same ⟨smallL ?_, ?_⟩)⟩
        · rw [List.length_map, List.length_take]
          omega
        · show updM (updM M q _) q _ = updM M q (.dk (kvA g s (g.asg.take (i + 1))))
          rw [updM_upd, take_snoc e, putD_new]
          · unfold kvA
            rw [List.map_append]
            rfl
          · intro hm
            have h3 : (((g.asg.take (i + 1))).map (·.1)).Nodup := List.Nodup.sublist ((List.take_sublist _ _).map _) ok.an
            rw [take_snoc e, List.map_append] at h3
            obtain ⟨y, hy, ey⟩ := List.mem_map.mp hm
            obtain ⟨z, hz, rfl⟩ := List.mem_map.mp hy
            have ez : z.1 = a.1 := Sum.inr.inj ey
            exact (List.nodup_append.mp h3).2.2 _ (List.mem_map.mpr ⟨z, hz, rfl⟩) _ (by simp) ez
    · rintro M' rfl
      refine getD_of updM_same (optP_of (kvA_all _ _ _) ?_)
      rw [List.length_map, List.length_map, List.take_length, delM_upd nq]
      exact hN _ _ ⟨rfl, _, _, _, _, _, _, _, _, rfl⟩
  rintro sl M1 ⟨rfl, u_state, u_name, u_expression, u_fresh, u_low, u_high, u_start, u_rule, rfl⟩
  refine sq ⟨Nat.zero_le _, fun q nq => ?_⟩
  refine seq_cut (fun sl M2 => ∃ (u_program u_state u_values u_assigned u_name u_expression u_low u_high u_start u_rule : Option DV), sl = [u_program, u_state, u_values, u_assigned, u_name, u_expression, some (.raw (.ref q)), u_low, u_high, u_start, u_rule] ∧ M2 = updM M1 q (.lst ((dI (nextTo g s g.vars.length)).map DV.d))) (fun N hN => ?_) ?_
  · refine optP_of (show atI _ ((0 : Nat) : Int) = some _ from atI_nat rfl) ?_
    refine ⟨fun i sl M2 => ∃ (u_state u_name u_expression u_low u_high u_start u_rule : Option DV), sl = [some (.d g.d), u_state, some (.d (envD (g.env s))), some (.d (.dict (g.asg.map fun a => (PyData.str a.1, PyData.int (a.2.val (g.env s)))))), u_name, u_expression, some (.raw (.ref q)), u_low, u_high, u_start, u_rule] ∧ M2 = updM M1 q (.lst ((dI (nextTo g s i)).map DV.d)), ⟨_, _, _, _, _, _, _, rfl, rfl⟩, ?_, ?_⟩
    · rintro i x sl M2 hx ⟨u_state, u_name, u_expression, u_low, u_high, u_start, u_rule, rfl, rfl⟩
      obtain ⟨d, hd, rfl⟩ := map_get hx
      rw [List.getElem?_map] at hd
      cases e : g.vars[i]? with
      | none => rw [e] at hd; cases hd
      | some v =>
        rw [e] at hd
        cases hd
        have hv := List.mem_of_getElem? e
        have ov := ok.vr v hv
        refine ⟨rfl, getL_of updM_same ⟨trivial, optP_of rfl (optP_of (look_in hs hv) (optP_of rfl ?_))⟩⟩
        have ea : lookOr (g.asg.map fun a => (PyData.str a.1, PyData.int (a.2.val (g.env s)))) (.inr v.nm) (DV.d (.int (((g.env s).lookup v.nm).getD 0))) = .d (.int (g.nv s v)) := by
          unfold lookOr
          rw [look_gen (fun e : Ex => PyData.int (e.val (g.env s)))]
          unfold Pg.nv
          cases g.asg.lookup v.nm <;> rfl
        rw [ea]
        refine getL_of updM_same ⟨smallL ?_, _, _, _, _, _, _, _, rfl, ?_⟩
        · rw [List.length_map, List.length_map]
          have h1 := nextTo_len g s i
          have h2 := ok.few
          omega
        · rw [updM_upd, nextTo_snoc e, clip_mm ov, show dI (nextTo g s i ++ [clip v (g.nv s v)]) = dI (nextTo g s i) ++ [.int (clip v (g.nv s v))] from List.map_append, List.map_append]
          rfl
    · rintro sl M2 ⟨u_state, u_name, u_expression, u_low, u_high, u_start, u_rule, rfl, rfl⟩
      exact hN _ _ ⟨_, _, _, _, _, _, _, _, _, _, rfl, by rw [List.length_map, List.length_map]⟩
  · rintro sl M2 ⟨u_program, u_state, u_values, u_assigned, u_name, u_expression, u_low, u_high, u_start, u_rule, rfl, rfl⟩
    refine getL_of updM_same (optP_of (allD_of _) ?_)
    rw [delM_upd nq]
    show R (.d (.tuple (dI (nextTo g s g.vars.length)))) M1
    unfold nextTo
    rw [List.take_length]
    exact h
theorem ok_successor {P : Program} {w : World} {K : PySem.W.Frag} {mg : Str → Option Value} {base : Heap} {dV : Value} {f : Addr} {fd : FuncData} (F : FunA K "successor" "successor" s_successor dV f fd) (D_is_halted : Def P w K mg base "is_halted" 11 sp_is_halted) (D_values_of : Def P w K mg base "values_of" 2 sp_values_of) (D_evaluate : Def P w K mg base "evaluate" 10 (sp_evaluate 8)) (b_max : mg "max" = none) (b_min : mg "min" = none) (b_tuple : mg "tuple" = none) : FnG P w K mg base CX0 12 f fd ["program", "state"] (liftSp K sp_successor) :=
  F.data sc_successor len_successor t_successor (fun cdv A outer s H E hg hr =>
    (dss_cons (ds_if (dt_val (D_is_halted.de hg (hr.mono (by decide)) (by rfl) (da_cons (de_var 0) (da_cons (de_var 1) da_nil)))) (dss_one (ds_ret (de_var 1))) dss_nil)
      (dss_cons (ds_set (i := 2) sc_successor.nd rfl (by first | exact Or.inl rfl | exact Or.inr rfl) (D_values_of.de hg (hr.mono (by decide)) (by rfl) (da_cons (de_var 0) (da_cons (de_var 1) da_nil))))
      (dss_cons (ds_setDc (i := 3) (own := [("name", 4), ("expression", 5)]) rfl sc_successor.nd rfl rfl (sw_dc rfl rfl rfl (by decide +kernel)) (di_seq (de_ix (de_var 0) de_int)) (blkOk_by (own := [("name", 4), ("expression", 5)]) (N := N_successor) (sc := defScope s_successor) (by decide +kernel)) (fun _ _ _ _ _ => (dg_tup rfl (dgs_cons (dg_name (i := 4) sc_successor.nd rfl (by first | exact Or.inl rfl | exact Or.inr rfl)) (dgs_cons (dg_name (i := 5) sc_successor.nd rfl (by first | exact Or.inl rfl | exact Or.inr rfl)) dgs_nil)))) (fun _ _ _ _ _ => dts_nil) (fun _ _ _ _ _ => (de_var 4)) (fun _ _ _ _ _ => (D_evaluate.de hg (hr.mono (by decide)) (by rfl) (da_cons (de_var 5) (da_cons (de_var 2) da_nil)))) (by decide))
      (dss_cons (ds_set (i := 6) sc_successor.nd rfl (by first | exact Or.inl rfl | exact Or.inr rfl) (de_lstO da_nil))
      (dss_cons (ds_for PassesOwn.never rfl (di_seq (de_ix (de_var 0) de_int)) (dg_tup rfl (dgs_cons (dg_name (i := 4) sc_successor.nd rfl (by first | exact Or.inl rfl | exact Or.inr rfl)) (dgs_cons (dg_name (i := 7) sc_successor.nd rfl (by first | exact Or.inl rfl | exact Or.inr rfl)) (dgs_cons (dg_name (i := 8) sc_successor.nd rfl (by first | exact Or.inl rfl | exact Or.inr rfl)) (dgs_cons (dg_name (i := 9) sc_successor.nd rfl (by first | exact Or.inl rfl | exact Or.inr rfl)) (dgs_cons (dg_name (i := 10) sc_successor.nd rfl (by first | exact Or.inl rfl | exact Or.inr rfl)) dgs_nil)))))) (dss_one (ds_append (de_var 6) (de_callB (cd_max rfl) (by rfl) b_max (by decide +kernel) (da_cons (de_var 7) (da_cons (de_callB (cd_min rfl) (by rfl) b_min (by decide +kernel) (da_cons (de_var 8) (da_cons (de_getK hr (de_var 3) (de_var 4) (de_ixK hr (de_var 2) (de_var 4))) da_nil))) da_nil))))))
      (dss_freeze 6 (dss_one (ds_ret (de_callTy cd_tuple (by rfl) b_tuple (by decide +kernel) (da_cons (de_var 6) da_nil))))))))))) pure_successor
/-! ### law -/
abbrev s_law : Stmt := topS 27
abbrev N_law : List Str := ["script", "source", "turn", "program", "before", "states", "variable", "time", "found", "state"]
theorem sc_law : FnScope N_law ["script"] (defScope s_law) := ⟨rfl, rfl, rfl, by decide +kernel, rfl, by decide +kernel, by decide +kernel⟩
def sp_law : SpD := fun xs M R => ∃ ns : List Int, xs = [.scr ns] ∧ ns.length ≤ 63 ∧ ∀ M', R (.d (.bool true)) M'
theorem law_says : ∀ ns M R, ns.length ≤ 63 → (∀ M', R (.d (.bool true)) M') → sp_law [.scr ns] M R := fun ns M R hl h => ⟨ns, rfl, hl, h⟩
def fst4b : DV → Option PyData
  | .d (.tuple ds) => ds[3]?
  | _ => none
theorem fst4b_vars (vs : List Vr) : ((vs.map Vr.d).map DV.d).filterMap fst4b = dI (vs.map (·.st)) := by
  induction vs with
  | nil => rfl
  | cons v r ih =>
    rw [List.map_cons, List.map_cons, List.filterMap_cons_some (show fst4b (DV.d v.d) = some (.int v.st) from rfl), ih]
    rfl
theorem start_st {g : Pg} {most : Nat} (ok : g.Ok most) : g.St (g.vars.map (·.st)) := by
  refine ⟨by rw [List.length_map], fun x hx => ?_⟩
  obtain ⟨v, hv, rfl⟩ := List.mem_map.mp hx
  have o := ok.vr v hv
  have l0 := o.l0
  have h1 := o.h1
  have s0 := o.s0
  have s1 := o.s1
  exact lim1000 (by omega) (by omega)
def t_law : TSD := (dSeq (dSet 1 (dCall sp__law_draws (dCons (dVar 0) dNil)))
  (dSeq (dFor (diRange1 (dCons (dC (.d (.int 6))) dNil)) (dgName 2) (dSeq (dSet 3 (dCall sp__law_random_program (dCons (dVar 1) (dCons (dC (.d (.int 60))) dNil))))
  (dSeq (dSet 4 (dCall reprG (dCons (dVar 3) dNil)))
  (dSeq (dSet 5 (dCall sp__law_every_state (dCons (dVar 3) dNil)))
  (dSeq (dIfS (dNot (dB (dCall sp__law_identical (dCons (dCall sp_start_state (dCons (dVar 3) dNil)) (dCons (dCall tupleG (dCons (dLc (diSeq (dOp ixD (dVar 3) (dC (.d (.int 0))))) (dgName 6) dYes (dOp ixD (dVar 6) (dC (.d (.int 3)))) [6]) dNil)) dNil))))) (dRet (dC (.d (.bool false)))) dNext)
  (dSeq (dFor (diRange1 (dCons (dC (.d (.int 2))) dNil)) (dgName 7) (dSeq (dSet 8 (dCall sp_all_states (dCons (dVar 3) dNil)))
  (dSeq (dIfS (dNot (dB (dCall sp__law_identical (dCons (dVar 8) (dCons (dVar 5) dNil))))) (dRet (dC (.d (.bool false)))) dNext)
  (dClear (dVar 8)))))
  (dSeq (dFor (diSeq (dVar 5)) (dgName 9) (dSeq (dIfS (dNot (dB (dCall sp__law_identical (dCons (dCall sp_is_halted (dCons (dVar 3) (dCons (dVar 9) dNil))) (dCons (dCall sp__law_is_stopped (dCons (dVar 3) (dCons (dVar 9) dNil))) dNil))))) (dRet (dC (.d (.bool false)))) dNext)
  (dIfS (dNot (dB (dCall sp__law_identical (dCons (dCall sp_successor (dCons (dVar 3) (dCons (dVar 9) dNil))) (dCons (dCall sp__law_next_state (dCons (dVar 3) (dCons (dVar 9) dNil))) dNil))))) (dRet (dC (.d (.bool false)))) dNext)))
  (dIfS (dB (dOp (g2 neD) (dCall reprG (dCons (dVar 3) dNil)) (dVar 4))) (dRet (dC (.d (.bool false)))) dNext))))))))
  (dRet (dC (.d (.bool true))))))

theorem len_law : ∀ xs M R, sp_law xs M R → xs.length = 1 := by
  rintro xs M R ⟨ns, rfl, _⟩
  rfl
theorem pure_law : ∀ xs M R, sp_law xs M R → t_law { nx := fun _ M' => R (.d .none) M', rt := R } (startD N_law xs) M := by
  rintro xs M R ⟨ns, rfl, hl, h⟩
  refine sq ⟨ns, rfl, hl, fun p nums np => ?_⟩
  refine sq ⟨⟨by decide, by decide⟩, fun i sl M' => ∃ (u_turn u_program u_before u_states u_variable u_time u_found u_state : Option DV), sl = [some (.scr ns), some (.raw (.ref p)), u_turn, u_program, u_before, u_states, u_variable, u_time, u_found, u_state] ∧ Src M' p, ⟨_, _, _, _, _, _, _, _, rfl, ⟨nums, 0, 0, 0, updM_same⟩⟩, ?_, ?_⟩
  · rintro i x sl M' hx ⟨u_turn, u_program, u_before, u_states, u_variable, u_time, u_found, u_state, rfl, hS⟩
    refine sq ⟨p, 60, rfl, by decide, by decide, hS, fun g M1 ok hv k1 s1 => ?_⟩
    obtain ⟨g1, g2, g3, g4⟩ := (sho_pg ok).ok
    refine sq ⟨g1, g2, g3, g4, ?_⟩
    refine sq ⟨g, 60, rfl, ok, by decide, ?_⟩
    have hin : ∀ s ∈ g.states, In s g.vars := fun s hs => g.states_in hs
    have hst : ∀ s ∈ g.states, g.St s := fun s hs => In.st ok (hin s hs)
    have hsl := g.states_len ok
    refine seq_cut (fun sl M2 => M2 = M1 ∧ ∃ (u_turn u_variable u_time u_found u_state : Option DV), sl = [some (.scr ns), some (.raw (.ref p)), u_turn, some (.d g.d), some (.d (.str g.d.shown)), some (.d (.list (g.states.map stD))), u_variable, u_time, u_found, u_state]) (fun N hN => ?_) ?_
    · refine ⟨g, 60, rfl, ok, ?_⟩
      refine i_cons (i_call (i_cons (e_cut (fun x M3 => M3 = M1 ∧ x = .d (.list (dI (g.vars.map (·.st))))) (fun N2 hN2 => ?_) ?_)))
      · refine optP_of (show atI _ ((0 : Nat) : Int) = some _ from atI_nat rfl) ?_
        refine lc_pure (items := (g.vars.map Vr.d).map DV.d) fst4b (by rw [List.length_map, List.length_map]; have := ok.few; omega) ?_ ?_
        · intro x hx M' Y Z hY hZ
          obtain ⟨d, hd, rfl⟩ := List.mem_map.mp hx
          obtain ⟨v, hv, rfl⟩ := List.mem_map.mp hd
          exact optP_of (show atI _ ((3 : Nat) : Int) = some _ from atI_nat rfl) (hY _ rfl)
        · exact hN2 _ _ ⟨rfl, by rw [fst4b_vars]⟩
      · rintro x M3 ⟨rfl, rfl⟩
        exact ⟨_, _, rfl, .inl rfl, (sho_st ok (start_st ok)).ok, if_no rfl (hN _ _ ⟨rfl, _, _, _, _, _, rfl⟩)⟩
    rintro sl M2 ⟨rfl, u_turn, u_variable, u_time, u_found, u_state, rfl⟩
    refine seq_cut (fun sl M3 => (∃ (u_turn u_variable u_time u_found u_state : Option DV), sl = [some (.scr ns), some (.raw (.ref p)), u_turn, some (.d g.d), some (.d (.str g.d.shown)), some (.d (.list (g.states.map stD))), u_variable, u_time, u_found, u_state]) ∧ Src M3 p) (fun N hN => ?_) ?_
    · refine ⟨⟨by decide, by decide⟩, fun j sl M3 => (∃ (u_turn u_variable u_time u_found u_state : Option DV), sl = [some (.scr ns), some (.raw (.ref p)), u_turn, some (.d g.d), some (.d (.str g.d.shown)), some (.d (.list (g.states.map stD))), u_variable, u_time, u_found, u_state]) ∧ Src M3 p, ⟨⟨_, _, _, _, _, rfl⟩, s1⟩, ?_, ?_⟩
      · rintro j x sl M3 hx ⟨⟨u_turn, u_variable, u_time, u_found, u_state, rfl⟩, s3⟩
        refine sq ⟨g, 60, rfl, ok, by decide, fun q nq => ?_⟩
        refine sq ⟨_, _, rfl, .inr ⟨q, _, rfl, rfl, updM_same⟩, (sho_sts (m := 60) ok hsl hst).ok, if_no rfl ?_⟩
        refine getL_of updM_same ⟨⟨_, _, _, _, _, rfl⟩, ?_⟩
        have pq : p ≠ q := fun e => by
          subst e
          obtain ⟨_, _, _, _, hh⟩ := s3
          rw [hh] at nq
          cases nq
        rw [updM_upd]
        exact (at_src p).loc _ _ (updM_ne pq) s3
      · rintro sl M3 hh
        exact hN _ _ hh
    rintro sl M3 ⟨⟨u_turn, u_variable, u_time, u_found, u_state, rfl⟩, s3⟩
    refine seq_cut (fun sl M4 => M4 = M3 ∧ (∃ (u_turn u_variable u_time u_found u_state : Option DV), sl = [some (.scr ns), some (.raw (.ref p)), u_turn, some (.d g.d), some (.d (.str g.d.shown)), some (.d (.list (g.states.map stD))), u_variable, u_time, u_found, u_state])) (fun N hN => ?_) ?_
    · refine ⟨fun j sl M4 => M4 = M3 ∧ (∃ (u_turn u_variable u_time u_found u_state : Option DV), sl = [some (.scr ns), some (.raw (.ref p)), u_turn, some (.d g.d), some (.d (.str g.d.shown)), some (.d (.list (g.states.map stD))), u_variable, u_time, u_found, u_state]), ⟨rfl, _, _, _, _, _, rfl⟩, ?_, ?_⟩
      · rintro j x sl M4 hx ⟨rfl, u_turn, u_variable, u_time, u_found, u_state, rfl⟩
        obtain ⟨d, hd, rfl⟩ := map_get hx
        have hd := List.mem_of_getElem? hd
        obtain ⟨s, hs, rfl⟩ := List.mem_map.mp hd
        refine sq ⟨g, 60, s, rfl, ok, hst s hs, ?_⟩
        refine ⟨g, 60, s, rfl, ok, hst s hs, ?_⟩
        refine ⟨_, _, rfl, .inl rfl, okShow_bool _, if_no rfl ?_⟩
        refine ⟨g, 60, s, rfl, ok, hin s hs, ?_⟩
        refine ⟨g, 60, s, rfl, ok, hin s hs, ?_⟩
        exact ⟨_, _, rfl, .inl rfl, (sho_st ok (In.st ok (Pg.next_in ok (hin s hs)))).ok, if_no rfl ⟨rfl, _, _, _, _, _, rfl⟩⟩
      · rintro sl M4 hh
        exact hN _ _ hh
    rintro sl M4 ⟨rfl, u_turn, u_variable, u_time, u_found, u_state, rfl⟩
    refine ⟨g1, g2, g3, g4, ?_⟩
    refine i_var rfl (neSame (if_no rfl ?_))
    exact ⟨_, _, _, _, _, _, _, _, rfl, s3⟩
  · rintro sl M' ⟨u_turn, u_program, u_before, u_states, u_variable, u_time, u_found, u_state, rfl, hS⟩
    exact h M'
theorem ok_law {P : Program} {w : World} {K : PySem.W.Frag} {mg : Str → Option Value} {base : Heap} {dV : Value} {f : Addr} {fd : FuncData} (F : FunA K "law" "law" s_law dV f fd) (D__law_draws : Def P w K mg base "_law_draws" 1 sp__law_draws) (D__law_random_program : Def P w K mg base "_law_random_program" 13 sp__law_random_program) (D__law_every_state : Def P w K mg base "_law_every_state" 1 sp__law_every_state) (D__law_identical : Def P w K mg base "_law_identical" 1 sp__law_identical) (D_start_state : Def P w K mg base "start_state" 1 sp_start_state) (D_all_states : Def P w K mg base "all_states" 1 sp_all_states) (D__law_is_stopped : Def P w K mg base "_law_is_stopped" 10 sp__law_is_stopped) (D_is_halted : Def P w K mg base "is_halted" 11 sp_is_halted) (D__law_next_state : Def P w K mg base "_law_next_state" 11 sp__law_next_state) (D_successor : Def P w K mg base "successor" 12 sp_successor) (b_range : mg "range" = none) (b_repr : mg "repr" = none) (b_tuple : mg "tuple" = none) : FnG P w K mg base CX0 14 f fd ["script"] (liftSp K sp_law) :=
  F.data sc_law len_law t_law (fun cdv A outer s H E hg hr =>
    (dss_cons (ds_set (i := 1) sc_law.nd rfl (by first | exact Or.inl rfl | exact Or.inr rfl) (D__law_draws.de hg (hr.mono (by decide)) (by rfl) (da_cons (de_var 0) da_nil)))
      (dss_cons (ds_for PassesOwn.never rfl (di_range1 (by rfl) b_range (da_cons de_int da_nil)) (dg_name (i := 2) sc_law.nd rfl (by first | exact Or.inl rfl | exact Or.inr rfl)) (dss_cons (ds_set (i := 3) sc_law.nd rfl (by first | exact Or.inl rfl | exact Or.inr rfl) (D__law_random_program.de hg (hr.mono (by decide)) (by rfl) (da_cons (de_var 1) (da_cons de_int da_nil))))
      (dss_cons (ds_set (i := 4) sc_law.nd rfl (by first | exact Or.inl rfl | exact Or.inr rfl) (de_callB (cd_reprG hr hg) (by rfl) b_repr (by decide +kernel) (da_cons (de_var 3) da_nil)))
      (dss_cons (ds_set (i := 5) sc_law.nd rfl (by first | exact Or.inl rfl | exact Or.inr rfl) (D__law_every_state.de hg (hr.mono (by decide)) (by rfl) (da_cons (de_var 3) da_nil)))
      (dss_cons (ds_if (dt_not (dt_val (D__law_identical.de hg (hr.mono (by decide)) (by rfl) (da_cons (D_start_state.de hg (hr.mono (by decide)) (by rfl) (da_cons (de_var 3) da_nil)) (da_cons (de_callTy cd_tuple (by rfl) b_tuple (by decide +kernel) (da_cons (de_lc (own := [("variable", 6)]) rfl sc_law.nd (di_seq (de_ix (de_var 3) de_int)) (blkOk_by (own := [("variable", 6)]) (N := N_law) (sc := defScope s_law) (by decide +kernel)) (fun _ _ _ _ _ => (dg_name (i := 6) sc_law.nd rfl (by first | exact Or.inl rfl | exact Or.inr rfl))) (fun _ _ _ _ _ => dts_nil) (fun _ _ _ _ _ => (de_ix (de_var 6) de_int)) (by decide)) da_nil)) da_nil))))) (dss_one (ds_ret de_bl)) dss_nil)
      (dss_cons (ds_for PassesOwn.never rfl (di_range1 (by rfl) b_range (da_cons de_int da_nil)) (dg_name (i := 7) sc_law.nd rfl (by first | exact Or.inl rfl | exact Or.inr rfl)) (dss_cons (ds_set (i := 8) sc_law.nd rfl (by first | exact Or.inl rfl | exact Or.inr rfl) (D_all_states.de hg (hr.mono (by decide)) (by rfl) (da_cons (de_var 3) da_nil)))
      (dss_cons (ds_if (dt_not (dt_val (D__law_identical.de hg (hr.mono (by decide)) (by rfl) (da_cons (de_var 8) (da_cons (de_var 5) da_nil))))) (dss_one (ds_ret de_bl)) dss_nil)
      (dss_one (ds_clear (de_var 8))))))
      (dss_cons (ds_for PassesOwn.never rfl (di_seq (de_var 5)) (dg_name (i := 9) sc_law.nd rfl (by first | exact Or.inl rfl | exact Or.inr rfl)) (dss_cons (ds_if (dt_not (dt_val (D__law_identical.de hg (hr.mono (by decide)) (by rfl) (da_cons (D_is_halted.de hg (hr.mono (by decide)) (by rfl) (da_cons (de_var 3) (da_cons (de_var 9) da_nil))) (da_cons (D__law_is_stopped.de hg (hr.mono (by decide)) (by rfl) (da_cons (de_var 3) (da_cons (de_var 9) da_nil))) da_nil))))) (dss_one (ds_ret de_bl)) dss_nil)
      (dss_one (ds_if (dt_not (dt_val (D__law_identical.de hg (hr.mono (by decide)) (by rfl) (da_cons (D_successor.de hg (hr.mono (by decide)) (by rfl) (da_cons (de_var 3) (da_cons (de_var 9) da_nil))) (da_cons (D__law_next_state.de hg (hr.mono (by decide)) (by rfl) (da_cons (de_var 3) (da_cons (de_var 9) da_nil))) da_nil))))) (dss_one (ds_ret de_bl)) dss_nil))))
      (dss_one (ds_if (dt_cmp (od_ne hr) (de_callB (cd_reprG hr hg) (by rfl) b_repr (by decide +kernel) (da_cons (de_var 3) da_nil)) (de_var 4) (nomark _)) (dss_one (ds_ret de_bl)) dss_nil)))))))))
      (dss_one (ds_ret de_bl))))) pure_law
theorem all_mk {P : Program} {w : World} {K : PySem.W.Frag} {h : Heap} {mg : Str → Option Value} {fa : Addr} (X : K.In h) (G : h.Ns mainGlobals mg) (hfa : mg "law" = some (.ref fa))
    {f0 : Addr} {od0 an0 : Option Addr} {sl0 : Array (Option Value)} {oc0 kV0 dc0 pm0 cd0 ct0 : Value}
    {f1 : Addr} {od1 an1 : Option Addr} {sl1 : Array (Option Value)} {oc1 kV1 dc1 pm1 cd1 ct1 : Value}
    {f2 : Addr} {od2 an2 : Option Addr} {sl2 : Array (Option Value)} {oc2 kV2 dc2 pm2 cd2 ct2 : Value}
    {f3 : Addr} {od3 an3 : Option Addr} {sl3 : Array (Option Value)} {oc3 kV3 dc3 pm3 cd3 ct3 : Value}
    {f4 : Addr} {od4 an4 : Option Addr} {sl4 : Array (Option Value)} {oc4 kV4 dc4 pm4 cd4 ct4 : Value}
    {f5 : Addr} {od5 an5 : Option Addr} {sl5 : Array (Option Value)} {oc5 kV5 dc5 pm5 cd5 ct5 : Value}
    {f6 : Addr} {od6 an6 : Option Addr} {sl6 : Array (Option Value)} {oc6 kV6 dc6 pm6 cd6 ct6 : Value}
    {f7 : Addr} {od7 an7 : Option Addr} {sl7 : Array (Option Value)} {oc7 kV7 dc7 pm7 cd7 ct7 : Value}
    {f8 : Addr} {od8 an8 : Option Addr} {sl8 : Array (Option Value)} {oc8 kV8 dc8 pm8 cd8 ct8 : Value}
    {f9 : Addr} {od9 an9 : Option Addr} {sl9 : Array (Option Value)} {oc9 kV9 dc9 pm9 cd9 ct9 : Value}
    {f10 : Addr} {od10 an10 : Option Addr} {sl10 : Array (Option Value)} {oc10 kV10 dc10 pm10 cd10 ct10 : Value}
    {f11 : Addr} {od11 an11 : Option Addr} {sl11 : Array (Option Value)} {oc11 kV11 dc11 pm11 cd11 ct11 : Value}
    {f12 : Addr} {od12 an12 : Option Addr} {sl12 : Array (Option Value)} {oc12 kV12 dc12 pm12 cd12 ct12 : Value}
    {f13 : Addr} {od13 an13 : Option Addr} {sl13 : Array (Option Value)} {oc13 kV13 dc13 pm13 cd13 ct13 : Value}
    {f14 : Addr} {od14 an14 : Option Addr} {sl14 : Array (Option Value)} {oc14 kV14 dc14 pm14 cd14 ct14 : Value}
    {f15 : Addr} {od15 an15 : Option Addr} {sl15 : Array (Option Value)} {oc15 kV15 dc15 pm15 cd15 ct15 : Value}
    {f16 : Addr} {od16 an16 : Option Addr} {sl16 : Array (Option Value)} {oc16 kV16 dc16 pm16 cd16 ct16 : Value}
    {f17 : Addr} {od17 an17 : Option Addr} {sl17 : Array (Option Value)} {oc17 kV17 dc17 pm17 cd17 ct17 : Value}
    {f18 : Addr} {od18 an18 : Option Addr} {sl18 : Array (Option Value)} {oc18 kV18 dc18 pm18 cd18 ct18 : Value}
    {f19 : Addr} {od19 an19 : Option Addr} {sl19 : Array (Option Value)} {oc19 kV19 dc19 pm19 cd19 ct19 : Value}
    {f20 : Addr} {od20 an20 : Option Addr} {sl20 : Array (Option Value)} {oc20 kV20 dc20 pm20 cd20 ct20 : Value}
    {f21 : Addr} {od21 an21 : Option Addr} {sl21 : Array (Option Value)} {oc21 kV21 dc21 pm21 cd21 ct21 : Value}
    {f22 : Addr} {od22 an22 : Option Addr} {sl22 : Array (Option Value)} {oc22 kV22 dc22 pm22 cd22 ct22 : Value}
    {y_COMPARISONS_p : Addr} {y_COMPARISONS_n : Nat} {y_COMPARISONS_s : Array (Option Value)} {y_COMPARISONS_t0 y_COMPARISONS_t1 y_COMPARISONS_t2 y_COMPARISONS_t3 y_COMPARISONS_t4 y_COMPARISONS_t5 : Tok}
    (a0 : PySem.W.nsIn K mainGlobals "_law_draws" = some (some (.ref f0)))
    (l0 : K.lookup f0 = some ⟨oc0, od0, .func (PySem.W.fnOf "_law_draws" "_law_draws" (defArgs s__law_draws) (defBody s__law_draws) (defScope s__law_draws) .none kV0 dc0 pm0 an0 cd0 ct0), sl0⟩)
    (c0 : PySem.W.codeIn K cd0 "_law_draws" = true)
    (k0 : PySem.W.keepIn K (.ref f0) = true)
    (a1 : PySem.W.nsIn K mainGlobals "_law_scramble" = some (some (.ref f1)))
    (l1 : K.lookup f1 = some ⟨oc1, od1, .func (PySem.W.fnOf "_law_scramble" "_law_scramble" (defArgs s__law_scramble) (defBody s__law_scramble) (defScope s__law_scramble) .none kV1 dc1 pm1 an1 cd1 ct1), sl1⟩)
    (c1 : PySem.W.codeIn K cd1 "_law_scramble" = true)
    (k1 : PySem.W.keepIn K (.ref f1) = true)
    (a2 : PySem.W.nsIn K mainGlobals "_law_next" = some (some (.ref f2)))
    (l2 : K.lookup f2 = some ⟨oc2, od2, .func (PySem.W.fnOf "_law_next" "_law_next" (defArgs s__law_next) (defBody s__law_next) (defScope s__law_next) .none kV2 dc2 pm2 an2 cd2 ct2), sl2⟩)
    (c2 : PySem.W.codeIn K cd2 "_law_next" = true)
    (k2 : PySem.W.keepIn K (.ref f2) = true)
    (a3 : PySem.W.nsIn K mainGlobals "_law_choose" = some (some (.ref f3)))
    (l3 : K.lookup f3 = some ⟨oc3, od3, .func (PySem.W.fnOf "_law_choose" "_law_choose" (defArgs s__law_choose) (defBody s__law_choose) (defScope s__law_choose) .none kV3 dc3 pm3 an3 cd3 ct3), sl3⟩)
    (c3 : PySem.W.codeIn K cd3 "_law_choose" = true)
    (k3 : PySem.W.keepIn K (.ref f3) = true)
    (a4 : PySem.W.nsIn K mainGlobals "_law_random_rule" = some (some (.ref f4)))
    (l4 : K.lookup f4 = some ⟨oc4, od4, .func (PySem.W.fnOf "_law_random_rule" "_law_random_rule" (defArgs s__law_random_rule) (defBody s__law_random_rule) (defScope s__law_random_rule) .none kV4 dc4 pm4 an4 cd4 ct4), sl4⟩)
    (c4 : PySem.W.codeIn K cd4 "_law_random_rule" = true)
    (k4 : PySem.W.keepIn K (.ref f4) = true)
    (a5 : PySem.W.nsIn K mainGlobals "_law_random_expression" = some (some (.ref f5)))
    (l5 : K.lookup f5 = some ⟨oc5, od5, .func (PySem.W.fnOf "_law_random_expression" "_law_random_expression" (defArgs s__law_random_expression) (defBody s__law_random_expression) (defScope s__law_random_expression) .none kV5 dc5 pm5 an5 cd5 ct5), sl5⟩)
    (c5 : PySem.W.codeIn K cd5 "_law_random_expression" = true)
    (k5 : PySem.W.keepIn K (.ref f5) = true)
    (a6 : PySem.W.nsIn K mainGlobals "_law_random_program" = some (some (.ref f6)))
    (l6 : K.lookup f6 = some ⟨oc6, od6, .func (PySem.W.fnOf "_law_random_program" "_law_random_program" (defArgs s__law_random_program) (defBody s__law_random_program) (defScope s__law_random_program) .none kV6 dc6 pm6 an6 cd6 ct6), sl6⟩)
    (c6 : PySem.W.codeIn K cd6 "_law_random_program" = true)
    (k6 : PySem.W.keepIn K (.ref f6) = true)
    (a7 : PySem.W.nsIn K mainGlobals "_law_every_state" = some (some (.ref f7)))
    (l7 : K.lookup f7 = some ⟨oc7, od7, .func (PySem.W.fnOf "_law_every_state" "_law_every_state" (defArgs s__law_every_state) (defBody s__law_every_state) (defScope s__law_every_state) .none kV7 dc7 pm7 an7 cd7 ct7), sl7⟩)
    (c7 : PySem.W.codeIn K cd7 "_law_every_state" = true)
    (k7 : PySem.W.keepIn K (.ref f7) = true)
    (a8 : PySem.W.nsIn K mainGlobals "_law_identical" = some (some (.ref f8)))
    (l8 : K.lookup f8 = some ⟨oc8, od8, .func (PySem.W.fnOf "_law_identical" "_law_identical" (defArgs s__law_identical) (defBody s__law_identical) (defScope s__law_identical) .none kV8 dc8 pm8 an8 cd8 ct8), sl8⟩)
    (c8 : PySem.W.codeIn K cd8 "_law_identical" = true)
    (k8 : PySem.W.keepIn K (.ref f8) = true)
    (a9 : PySem.W.nsIn K mainGlobals "start_state" = some (some (.ref f9)))
    (l9 : K.lookup f9 = some ⟨oc9, od9, .func (PySem.W.fnOf "start_state" "start_state" (defArgs s_start_state) (defBody s_start_state) (defScope s_start_state) .none kV9 dc9 pm9 an9 cd9 ct9), sl9⟩)
    (c9 : PySem.W.codeIn K cd9 "start_state" = true)
    (k9 : PySem.W.keepIn K (.ref f9) = true)
    (a10 : PySem.W.nsIn K mainGlobals "all_states" = some (some (.ref f10)))
    (l10 : K.lookup f10 = some ⟨oc10, od10, .func (PySem.W.fnOf "all_states" "all_states" (defArgs s_all_states) (defBody s_all_states) (defScope s_all_states) .none kV10 dc10 pm10 an10 cd10 ct10), sl10⟩)
    (c10 : PySem.W.codeIn K cd10 "all_states" = true)
    (k10 : PySem.W.keepIn K (.ref f10) = true)
    (a11 : PySem.W.nsIn K mainGlobals "_law_evaluated" = some (some (.ref f11)))
    (l11 : K.lookup f11 = some ⟨oc11, od11, .func (PySem.W.fnOf "_law_evaluated" "_law_evaluated" (defArgs s__law_evaluated) (defBody s__law_evaluated) (defScope s__law_evaluated) .none kV11 dc11 pm11 an11 cd11 ct11), sl11⟩)
    (c11 : PySem.W.codeIn K cd11 "_law_evaluated" = true)
    (k11 : PySem.W.keepIn K (.ref f11) = true)
    (a12 : PySem.W.nsIn K mainGlobals "_law_named_values" = some (some (.ref f12)))
    (l12 : K.lookup f12 = some ⟨oc12, od12, .func (PySem.W.fnOf "_law_named_values" "_law_named_values" (defArgs s__law_named_values) (defBody s__law_named_values) (defScope s__law_named_values) .none kV12 dc12 pm12 an12 cd12 ct12), sl12⟩)
    (c12 : PySem.W.codeIn K cd12 "_law_named_values" = true)
    (k12 : PySem.W.keepIn K (.ref f12) = true)
    (a13 : PySem.W.nsIn K mainGlobals "_law_is_stopped" = some (some (.ref f13)))
    (l13 : K.lookup f13 = some ⟨oc13, od13, .func (PySem.W.fnOf "_law_is_stopped" "_law_is_stopped" (defArgs s__law_is_stopped) (defBody s__law_is_stopped) (defScope s__law_is_stopped) .none kV13 dc13 pm13 an13 cd13 ct13), sl13⟩)
    (c13 : PySem.W.codeIn K cd13 "_law_is_stopped" = true)
    (k13 : PySem.W.keepIn K (.ref f13) = true)
    (a14 : PySem.W.nsIn K mainGlobals "compare_values" = some (some (.ref f14)))
    (l14 : K.lookup f14 = some ⟨oc14, od14, .func (PySem.W.fnOf "compare_values" "compare_values" (defArgs s_compare_values) (defBody s_compare_values) (defScope s_compare_values) .none kV14 dc14 pm14 an14 cd14 ct14), sl14⟩)
    (c14 : PySem.W.codeIn K cd14 "compare_values" = true)
    (k14 : PySem.W.keepIn K (.ref f14) = true)
    (a15 : PySem.W.nsIn K mainGlobals "arithmetic" = some (some (.ref f15)))
    (l15 : K.lookup f15 = some ⟨oc15, od15, .func (PySem.W.fnOf "arithmetic" "arithmetic" (defArgs s_arithmetic) (defBody s_arithmetic) (defScope s_arithmetic) .none kV15 dc15 pm15 an15 cd15 ct15), sl15⟩)
    (c15 : PySem.W.codeIn K cd15 "arithmetic" = true)
    (k15 : PySem.W.keepIn K (.ref f15) = true)
    (a16 : PySem.W.nsIn K mainGlobals "evaluate" = some (some (.ref f16)))
    (l16 : K.lookup f16 = some ⟨oc16, od16, .func (PySem.W.fnOf "evaluate" "evaluate" (defArgs s_evaluate) (defBody s_evaluate) (defScope s_evaluate) .none kV16 dc16 pm16 an16 cd16 ct16), sl16⟩)
    (c16 : PySem.W.codeIn K cd16 "evaluate" = true)
    (k16 : PySem.W.keepIn K (.ref f16) = true)
    (a17 : PySem.W.nsIn K mainGlobals "names_of" = some (some (.ref f17)))
    (l17 : K.lookup f17 = some ⟨oc17, od17, .func (PySem.W.fnOf "names_of" "names_of" (defArgs s_names_of) (defBody s_names_of) (defScope s_names_of) .none kV17 dc17 pm17 an17 cd17 ct17), sl17⟩)
    (c17 : PySem.W.codeIn K cd17 "names_of" = true)
    (k17 : PySem.W.keepIn K (.ref f17) = true)
    (a18 : PySem.W.nsIn K mainGlobals "values_of" = some (some (.ref f18)))
    (l18 : K.lookup f18 = some ⟨oc18, od18, .func (PySem.W.fnOf "values_of" "values_of" (defArgs s_values_of) (defBody s_values_of) (defScope s_values_of) .none kV18 dc18 pm18 an18 cd18 ct18), sl18⟩)
    (c18 : PySem.W.codeIn K cd18 "values_of" = true)
    (k18 : PySem.W.keepIn K (.ref f18) = true)
    (a19 : PySem.W.nsIn K mainGlobals "is_halted" = some (some (.ref f19)))
    (l19 : K.lookup f19 = some ⟨oc19, od19, .func (PySem.W.fnOf "is_halted" "is_halted" (defArgs s_is_halted) (defBody s_is_halted) (defScope s_is_halted) .none kV19 dc19 pm19 an19 cd19 ct19), sl19⟩)
    (c19 : PySem.W.codeIn K cd19 "is_halted" = true)
    (k19 : PySem.W.keepIn K (.ref f19) = true)
    (a20 : PySem.W.nsIn K mainGlobals "_law_next_state" = some (some (.ref f20)))
    (l20 : K.lookup f20 = some ⟨oc20, od20, .func (PySem.W.fnOf "_law_next_state" "_law_next_state" (defArgs s__law_next_state) (defBody s__law_next_state) (defScope s__law_next_state) .none kV20 dc20 pm20 an20 cd20 ct20), sl20⟩)
    (c20 : PySem.W.codeIn K cd20 "_law_next_state" = true)
    (k20 : PySem.W.keepIn K (.ref f20) = true)
    (a21 : PySem.W.nsIn K mainGlobals "successor" = some (some (.ref f21)))
    (l21 : K.lookup f21 = some ⟨oc21, od21, .func (PySem.W.fnOf "successor" "successor" (defArgs s_successor) (defBody s_successor) (defScope s_successor) .none kV21 dc21 pm21 an21 cd21 ct21), sl21⟩)
    (c21 : PySem.W.codeIn K cd21 "successor" = true)
    (k21 : PySem.W.keepIn K (.ref f21) = true)
    (a22 : PySem.W.nsIn K mainGlobals "law" = some (some (.ref f22)))
    (l22 : K.lookup f22 = some ⟨oc22, od22, .func (PySem.W.fnOf "law" "law" (defArgs s_law) (defBody s_law) (defScope s_law) .none kV22 dc22 pm22 an22 cd22 ct22), sl22⟩)
    (c22 : PySem.W.codeIn K cd22 "law" = true)
    (k22 : PySem.W.keepIn K (.ref f22) = true)
    (z_abs : PySem.W.nsIn K mainGlobals "abs" = some none)
    (z_enumerate : PySem.W.nsIn K mainGlobals "enumerate" = some none)
    (z_range : PySem.W.nsIn K mainGlobals "range" = some none)
    (z_len : PySem.W.nsIn K mainGlobals "len" = some none)
    (z_min : PySem.W.nsIn K mainGlobals "min" = some none)
    (z_tuple : PySem.W.nsIn K mainGlobals "tuple" = some none)
    (z_repr : PySem.W.nsIn K mainGlobals "repr" = some none)
    (z_int : PySem.W.nsIn K mainGlobals "int" = some none)
    (z_max : PySem.W.nsIn K mainGlobals "max" = some none)
    (z_dict : PySem.W.nsIn K mainGlobals "dict" = some none)
    (z_zip : PySem.W.nsIn K mainGlobals "zip" = some none)
    (z_all : PySem.W.nsIn K mainGlobals "all" = some none)
    (z_any : PySem.W.nsIn K mainGlobals "any" = some none)
    (y_COMPARISONS_a : PySem.W.nsIn K mainGlobals "COMPARISONS" = some (some (.ref y_COMPARISONS_p))) (y_COMPARISONS_l : K.lookup y_COMPARISONS_p = some ⟨.type "tuple", none, .seq #[.str "=" y_COMPARISONS_t0, .str "!=" y_COMPARISONS_t1, .str "<" y_COMPARISONS_t2, .str "<=" y_COMPARISONS_t3, .str ">" y_COMPARISONS_t4, .str ">=" y_COMPARISONS_t5] y_COMPARISONS_n, y_COMPARISONS_s⟩)
    : ∃ fd : FuncData, (∀ (s : Shared) (u : Value), BindsTo s fd ⟨[u], []⟩ [("script", u)]) ∧ ∀ base : Heap, K.In base → base.Ns mainGlobals mg → FnG P w K mg base CX0 14 fa fd ["script"] (liftSp K sp_law) := by
  have e := hfa.symm.trans (PySem.W.mg_of X G a22)
  cases e
  have b_abs := PySem.W.mg_none_of X G z_abs
  have b_enumerate := PySem.W.mg_none_of X G z_enumerate
  have b_range := PySem.W.mg_none_of X G z_range
  have b_len := PySem.W.mg_none_of X G z_len
  have b_min := PySem.W.mg_none_of X G z_min
  have b_tuple := PySem.W.mg_none_of X G z_tuple
  have b_repr := PySem.W.mg_none_of X G z_repr
  have b_int := PySem.W.mg_none_of X G z_int
  have b_max := PySem.W.mg_none_of X G z_max
  have b_dict := PySem.W.mg_none_of X G z_dict
  have b_zip := PySem.W.mg_none_of X G z_zip
  have b_all := PySem.W.mg_none_of X G z_all
  have b_any := PySem.W.mg_none_of X G z_any
  have g_COMPARISONS : Glb K mg "COMPARISONS" c_COMPARISONS := ⟨⟨.ref y_COMPARISONS_p, .ref y_COMPARISONS_p, PySem.W.mg_of X G y_COMPARISONS_a, rfl, fun _ => .tup (xs := [.str "=", .str "!=", .str "<", .str "<=", .str ">", .str ">="]) (.inr ⟨_, _, _, y_COMPARISONS_l, rfl, rfl, rfl, by show 6 ≤ sizeLine; decide, (.cons ⟨_, rfl⟩ (.cons ⟨_, rfl⟩ (.cons ⟨_, rfl⟩ (.cons ⟨_, rfl⟩ (.cons ⟨_, rfl⟩ (.cons ⟨_, rfl⟩ .nil))))))⟩) (.cons (.str _) (.cons (.str _) (.cons (.str _) (.cons (.str _) (.cons (.str _) (.cons (.str _) .nil))))))⟩⟩
  have F0 := funA_mk (st := s__law_draws) l0 c0 k0
  have F1 := funA_mk (st := s__law_scramble) l1 c1 k1
  have F2 := funA_mk (st := s__law_next) l2 c2 k2
  have F3 := funA_mk (st := s__law_choose) l3 c3 k3
  have F4 := funA_mk (st := s__law_random_rule) l4 c4 k4
  have F5 := funA_mk (st := s__law_random_expression) l5 c5 k5
  have F6 := funA_mk (st := s__law_random_program) l6 c6 k6
  have F7 := funA_mk (st := s__law_every_state) l7 c7 k7
  have F8 := funA_mk (st := s__law_identical) l8 c8 k8
  have F9 := funA_mk (st := s_start_state) l9 c9 k9
  have F10 := funA_mk (st := s_all_states) l10 c10 k10
  have F11 := funA_mk (st := s__law_evaluated) l11 c11 k11
  have F12 := funA_mk (st := s__law_named_values) l12 c12 k12
  have F13 := funA_mk (st := s__law_is_stopped) l13 c13 k13
  have F14 := funA_mk (st := s_compare_values) l14 c14 k14
  have F15 := funA_mk (st := s_arithmetic) l15 c15 k15
  have F16 := funA_mk (st := s_evaluate) l16 c16 k16
  have F17 := funA_mk (st := s_names_of) l17 c17 k17
  have F18 := funA_mk (st := s_values_of) l18 c18 k18
  have F19 := funA_mk (st := s_is_halted) l19 c19 k19
  have F20 := funA_mk (st := s__law_next_state) l20 c20 k20
  have F21 := funA_mk (st := s_successor) l21 c21 k21
  have F22 := funA_mk (st := s_law) l22 c22 k22
  refine ⟨PySem.W.fnOf "law" "law" (defArgs s_law) (defBody s_law) (defScope s_law) .none kV22 dc22 pm22 an22 cd22 ct22, fun s u => .of_eq rfl, fun base _ _ => ?_⟩
  have G__law_draws := ok__law_draws (P := P) (w := w) (mg := mg) (base := base) F0 b_abs b_enumerate
  have D__law_draws : Def P w K mg base "_law_draws" 1 sp__law_draws := .of G__law_draws (PySem.W.mg_of X G a0) F0.kp (F0.binds fun _ _ _ _ _ _ us hl => match us, hl with | [_], _ => rfl)
  have G__law_scramble := ok__law_scramble (P := P) (w := w) (mg := mg) (base := base) F1 b_range
  have D__law_scramble : Def P w K mg base "_law_scramble" 1 sp__law_scramble := .of G__law_scramble (PySem.W.mg_of X G a1) F1.kp (F1.binds fun _ _ _ _ _ _ us hl => match us, hl with | [_, _], _ => rfl)
  have G__law_next := ok__law_next (P := P) (w := w) (mg := mg) (base := base) F2 D__law_scramble b_len
  have D__law_next : Def P w K mg base "_law_next" 2 sp__law_next := .of G__law_next (PySem.W.mg_of X G a2) F2.kp (F2.binds fun _ _ _ _ _ _ us hl => match us, hl with | [_, _], _ => rfl)
  have G__law_choose := ok__law_choose (P := P) (w := w) (mg := mg) (base := base) F3 D__law_next b_len
  have D__law_choose : Def P w K mg base "_law_choose" 3 sp__law_choose := .of G__law_choose (PySem.W.mg_of X G a3) F3.kp (F3.binds fun _ _ _ _ _ _ us hl => match us, hl with | [_, _], _ => rfl)
  have G__law_random_rule := ok__law_random_rule (P := P) (w := w) (mg := mg) (base := base) F4 D__law_choose D__law_next
  have D__law_random_rule : Def P w K mg base "_law_random_rule" 4 sp__law_random_rule := .of G__law_random_rule (PySem.W.mg_of X G a4) F4.kp (F4.binds fun _ _ _ _ _ _ us hl => match us, hl with | [_, _, _], _ => rfl)
  have G__law_random_expression : ∀ n, FnG P w K mg base CX0 (4 + n) f5 (PySem.W.fnOf "_law_random_expression" "_law_random_expression" (defArgs s__law_random_expression) (defBody s__law_random_expression) (defScope s__law_random_expression) .none kV5 dc5 pm5 an5 cd5 ct5) ["source", "names", "depth"] (liftSp K (sp__law_random_expression n)) := by
    intro n
    induction n with
    | zero => exact fnG_none fun vs H Q E h => (by obtain ⟨xs, M, R, _, _, h, _⟩ := h; exact none__law_random_expression xs M R h)
    | succ n ih => exact ok__law_random_expression n (P := P) (w := w) (mg := mg) (base := base) F5 D__law_next D__law_choose (.of ih (PySem.W.mg_of X G a5) F5.kp (F5.binds fun _ _ _ _ _ _ us hl => match us, hl with | [_, _, _], _ => rfl))
  have D__law_random_expression : Def P w K mg base "_law_random_expression" 12 (sp__law_random_expression 8) := .of (G__law_random_expression 8) (PySem.W.mg_of X G a5) F5.kp (F5.binds fun _ _ _ _ _ _ us hl => match us, hl with | [_, _, _], _ => rfl)
  have G__law_random_program := ok__law_random_program (P := P) (w := w) (mg := mg) (base := base) F6 D__law_next D__law_choose D__law_random_rule D__law_random_expression b_min b_tuple
  have D__law_random_program : Def P w K mg base "_law_random_program" 13 sp__law_random_program := .of G__law_random_program (PySem.W.mg_of X G a6) F6.kp (F6.binds fun _ _ _ _ _ _ us hl => match us, hl with | [_, _], _ => rfl)
  have G__law_every_state := ok__law_every_state (P := P) (w := w) (mg := mg) (base := base) F7 b_range
  have D__law_every_state : Def P w K mg base "_law_every_state" 1 sp__law_every_state := .of G__law_every_state (PySem.W.mg_of X G a7) F7.kp (F7.binds fun _ _ _ _ _ _ us hl => match us, hl with | [_], _ => rfl)
  have G__law_identical := ok__law_identical (P := P) (w := w) (mg := mg) (base := base) F8 b_repr
  have D__law_identical : Def P w K mg base "_law_identical" 1 sp__law_identical := .of G__law_identical (PySem.W.mg_of X G a8) F8.kp (F8.binds fun _ _ _ _ _ _ us hl => match us, hl with | [_, _], _ => rfl)
  have G_start_state := ok_start_state (P := P) (w := w) (mg := mg) (base := base) F9 b_tuple
  have D_start_state : Def P w K mg base "start_state" 1 sp_start_state := .of G_start_state (PySem.W.mg_of X G a9) F9.kp (F9.binds fun _ _ _ _ _ _ us hl => match us, hl with | [_], _ => rfl)
  have G_all_states := ok_all_states (P := P) (w := w) (mg := mg) (base := base) F10 b_range
  have D_all_states : Def P w K mg base "all_states" 1 sp_all_states := .of G_all_states (PySem.W.mg_of X G a10) F10.kp (F10.binds fun _ _ _ _ _ _ us hl => match us, hl with | [_], _ => rfl)
  have G__law_evaluated : ∀ n, FnG P w K mg base CX0 (1 + n) f11 (PySem.W.fnOf "_law_evaluated" "_law_evaluated" (defArgs s__law_evaluated) (defBody s__law_evaluated) (defScope s__law_evaluated) .none kV11 dc11 pm11 an11 cd11 ct11) ["expression", "values"] (liftSp K (sp__law_evaluated n)) := by
    intro n
    induction n with
    | zero => exact fnG_none fun vs H Q E h => (by obtain ⟨xs, M, R, _, _, h, _⟩ := h; exact none__law_evaluated xs M R h)
    | succ n ih => exact ok__law_evaluated n (P := P) (w := w) (mg := mg) (base := base) F11 (.of ih (PySem.W.mg_of X G a11) F11.kp (F11.binds fun _ _ _ _ _ _ us hl => match us, hl with | [_, _], _ => rfl)) b_int b_min b_max
  have D__law_evaluated : Def P w K mg base "_law_evaluated" 9 (sp__law_evaluated 8) := .of (G__law_evaluated 8) (PySem.W.mg_of X G a11) F11.kp (F11.binds fun _ _ _ _ _ _ us hl => match us, hl with | [_, _], _ => rfl)
  have G__law_named_values := ok__law_named_values (P := P) (w := w) (mg := mg) (base := base) F12 b_dict b_zip
  have D__law_named_values : Def P w K mg base "_law_named_values" 1 sp__law_named_values := .of G__law_named_values (PySem.W.mg_of X G a12) F12.kp (F12.binds fun _ _ _ _ _ _ us hl => match us, hl with | [_, _], _ => rfl)
  have G__law_is_stopped := ok__law_is_stopped (P := P) (w := w) (mg := mg) (base := base) F13 D__law_evaluated D__law_named_values
  have D__law_is_stopped : Def P w K mg base "_law_is_stopped" 10 sp__law_is_stopped := .of G__law_is_stopped (PySem.W.mg_of X G a13) F13.kp (F13.binds fun _ _ _ _ _ _ us hl => match us, hl with | [_, _], _ => rfl)
  have G_compare_values := ok_compare_values (P := P) (w := w) (mg := mg) (base := base) F14 
  have D_compare_values : Def P w K mg base "compare_values" 1 sp_compare_values := .of G_compare_values (PySem.W.mg_of X G a14) F14.kp (F14.binds fun _ _ _ _ _ _ us hl => match us, hl with | [_, _, _], _ => rfl)
  have G_arithmetic := ok_arithmetic (P := P) (w := w) (mg := mg) (base := base) F15 b_min b_max
  have D_arithmetic : Def P w K mg base "arithmetic" 1 sp_arithmetic := .of G_arithmetic (PySem.W.mg_of X G a15) F15.kp (F15.binds fun _ _ _ _ _ _ us hl => match us, hl with | [_, _, _], _ => rfl)
  have G_evaluate : ∀ n, FnG P w K mg base CX0 (2 + n) f16 (PySem.W.fnOf "evaluate" "evaluate" (defArgs s_evaluate) (defBody s_evaluate) (defScope s_evaluate) .none kV16 dc16 pm16 an16 cd16 ct16) ["expression", "values"] (liftSp K (sp_evaluate n)) := by
    intro n
    induction n with
    | zero => exact fnG_none fun vs H Q E h => (by obtain ⟨xs, M, R, _, _, h, _⟩ := h; exact none_evaluate xs M R h)
    | succ n ih => exact ok_evaluate n (P := P) (w := w) (mg := mg) (base := base) F16 (.of ih (PySem.W.mg_of X G a16) F16.kp (F16.binds fun _ _ _ _ _ _ us hl => match us, hl with | [_, _], _ => rfl)) D_compare_values D_arithmetic b_int b_all b_any g_COMPARISONS
  have D_evaluate : Def P w K mg base "evaluate" 10 (sp_evaluate 8) := .of (G_evaluate 8) (PySem.W.mg_of X G a16) F16.kp (F16.binds fun _ _ _ _ _ _ us hl => match us, hl with | [_, _], _ => rfl)
  have G_names_of := ok_names_of (P := P) (w := w) (mg := mg) (base := base) F17 
  have D_names_of : Def P w K mg base "names_of" 1 sp_names_of := .of G_names_of (PySem.W.mg_of X G a17) F17.kp (F17.binds fun _ _ _ _ _ _ us hl => match us, hl with | [_], _ => rfl)
  have G_values_of := ok_values_of (P := P) (w := w) (mg := mg) (base := base) F18 D_names_of b_zip
  have D_values_of : Def P w K mg base "values_of" 2 sp_values_of := .of G_values_of (PySem.W.mg_of X G a18) F18.kp (F18.binds fun _ _ _ _ _ _ us hl => match us, hl with | [_, _], _ => rfl)
  have G_is_halted := ok_is_halted (P := P) (w := w) (mg := mg) (base := base) F19 D_evaluate D_values_of
  have D_is_halted : Def P w K mg base "is_halted" 11 sp_is_halted := .of G_is_halted (PySem.W.mg_of X G a19) F19.kp (F19.binds fun _ _ _ _ _ _ us hl => match us, hl with | [_, _], _ => rfl)
  have G__law_next_state := ok__law_next_state (P := P) (w := w) (mg := mg) (base := base) F20 D__law_is_stopped D__law_named_values D__law_evaluated b_dict b_tuple
  have D__law_next_state : Def P w K mg base "_law_next_state" 11 sp__law_next_state := .of G__law_next_state (PySem.W.mg_of X G a20) F20.kp (F20.binds fun _ _ _ _ _ _ us hl => match us, hl with | [_, _], _ => rfl)
  have G_successor := ok_successor (P := P) (w := w) (mg := mg) (base := base) F21 D_is_halted D_values_of D_evaluate b_max b_min b_tuple
  have D_successor : Def P w K mg base "successor" 12 sp_successor := .of G_successor (PySem.W.mg_of X G a21) F21.kp (F21.binds fun _ _ _ _ _ _ us hl => match us, hl with | [_, _], _ => rfl)
  exact ok_law F22 D__law_draws D__law_random_program D__law_every_state D__law_identical D_start_state D_all_states D__law_is_stopped D_is_halted D__law_next_state D_successor b_range b_repr b_tuple
end Law
open PySem PySem.W PyProof.Rows
set_option maxHeartbeats 0 in
theorem PySem.Challenge.cw_limitrun_k16_states_and_steps_holds : PySem.Challenge.rw_limitrun_k16_states_and_steps.Holds := by
  w_on; o_law; k_head; (case hw => w_witness2)
  k_fill
  refine DL.walk_data (l := PySem.Challenge.rw_limitrun_k16_states_and_steps) (n := 63) (k := 14) (x := "script") (CX := L2.CX0) (sp := fun K => DL.liftSp K Law.sp_law) rfl (by decide) rfl ⟨rfl, by decide, by decide⟩ (fun w h Y => PySem.W.kIn_of Y) ?F (fun K H a ns hl hS => DL.law_start Law.law_says hl hS) (fun _ _ _ _ h => h)
  case F =>
    intro w mg fa h KX G hmg
    refine' Law.all_mk KX G hmg ?a0 ?l0 ?c0 ?k0 ?a1 ?l1 ?c1 ?k1 ?a2 ?l2 ?c2 ?k2 ?a3 ?l3 ?c3 ?k3 ?a4 ?l4 ?c4 ?k4 ?a5 ?l5 ?c5 ?k5 ?a6 ?l6 ?c6 ?k6 ?a7 ?l7 ?c7 ?k7 ?a8 ?l8 ?c8 ?k8 ?a9 ?l9 ?c9 ?k9 ?a10 ?l10 ?c10 ?k10 ?a11 ?l11 ?c11 ?k11 ?a12 ?l12 ?c12 ?k12 ?a13 ?l13 ?c13 ?k13 ?a14 ?l14 ?c14 ?k14 ?a15 ?l15 ?c15 ?k15 ?a16 ?l16 ?c16 ?k16 ?a17 ?l17 ?c17 ?k17 ?a18 ?l18 ?c18 ?k18 ?a19 ?l19 ?c19 ?k19 ?a20 ?l20 ?c20 ?k20 ?a21 ?l21 ?c21 ?k21 ?a22 ?l22 ?c22 ?k22 ?z_abs ?z_enumerate ?z_range ?z_len ?z_min ?z_tuple ?z_repr ?z_int ?z_max ?z_dict ?z_zip ?z_all ?z_any ?y_COMPARISONS_a ?y_COMPARISONS_l
    (case a0 => k_is)
    (case l0 => k_is)
    (case c0 => k_is)
    (case k0 => k_is)
    (case a1 => k_is)
    (case l1 => k_is)
    (case c1 => k_is)
    (case k1 => k_is)
    (case a2 => k_is)
    (case l2 => k_is)
    (case c2 => k_is)
    (case k2 => k_is)
    (case a3 => k_is)
    (case l3 => k_is)
    (case c3 => k_is)
    (case k3 => k_is)
    (case a4 => k_is)
    (case l4 => k_is)
    (case c4 => k_is)
    (case k4 => k_is)
    (case a5 => k_is)
    (case l5 => k_is)
    (case c5 => k_is)
    (case k5 => k_is)
    (case a6 => k_is)
    (case l6 => k_is)
    (case c6 => k_is)
    (case k6 => k_is)
    (case a7 => k_is)
    (case l7 => k_is)
    (case c7 => k_is)
    (case k7 => k_is)
    (case a8 => k_is)
    (case l8 => k_is)
    (case c8 => k_is)
    (case k8 => k_is)
    (case a9 => k_is)
    (case l9 => k_is)
    (case c9 => k_is)
    (case k9 => k_is)
    (case a10 => k_is)
    (case l10 => k_is)
    (case c10 => k_is)
    (case k10 => k_is)
    (case a11 => k_is)
    (case l11 => k_is)
    (case c11 => k_is)
    (case k11 => k_is)
    (case a12 => k_is)
    (case l12 => k_is)
    (case c12 => k_is)
    (case k12 => k_is)
    (case a13 => k_is)
    (case l13 => k_is)
    (case c13 => k_is)
    (case k13 => k_is)
    (case a14 => k_is)
    (case l14 => k_is)
    (case c14 => k_is)
    (case k14 => k_is)
    (case a15 => k_is)
    (case l15 => k_is)
    (case c15 => k_is)
    (case k15 => k_is)
    (case a16 => k_is)
    (case l16 => k_is)
    (case c16 => k_is)
    (case k16 => k_is)
    (case a17 => k_is)
    (case l17 => k_is)
    (case c17 => k_is)
    (case k17 => k_is)
    (case a18 => k_is)
    (case l18 => k_is)
    (case c18 => k_is)
    (case k18 => k_is)
    (case a19 => k_is)
    (case l19 => k_is)
    (case c19 => k_is)
    (case k19 => k_is)
    (case a20 => k_is)
    (case l20 => k_is)
    (case c20 => k_is)
    (case k20 => k_is)
    (case a21 => k_is)
    (case l21 => k_is)
    (case c21 => k_is)
    (case k21 => k_is)
    (case a22 => k_is)
    (case l22 => k_is)
    (case c22 => k_is)
    (case k22 => k_is)
    (case z_abs => k_is)
    (case z_enumerate => k_is)
    (case z_range => k_is)
    (case z_len => k_is)
    (case z_min => k_is)
    (case z_tuple => k_is)
    (case z_repr => k_is)
    (case z_int => k_is)
    (case z_max => k_is)
    (case z_dict => k_is)
    (case z_zip => k_is)
    (case z_all => k_is)
    (case z_any => k_is)
    (case y_COMPARISONS_a => k_is)
    (case y_COMPARISONS_l => k_is)
#print axioms PySem.Challenge.cw_limitrun_k16_states_and_steps_holds
