import PyProof.Rows.All
import Wide.All
import OpenK.AllK
import Wide.FinOn
import HandS.ForMost
import HandS.ForExc
import HandS.TupAny
import HandS.Style
import HandS.Flow
import HandS.Deep
import PyProof.NeKinds
import HandS.Defaults
import HandS.WordsDict
import HandS.IsInst
import HandS.Conv
import KE.SortKeyHeap
import HandS.MakeKwOnly
import HandS.More
import HandS.ListItems
import HandS.Zip
import KE.GoesEnumKw
import HandS.Head0
import HandS.Head1
import HandS.Head2
import HandS.HeadEnd
import HandS.HeadHook1
import HandS.HeadHook2
import HandS.HeadHook3
import HandS.HeadHook4
import HandS.NamedTupGet
import PyProof.FactsLen
import HandS.TupMul
import KE.GoesEnum
import HandS.Zip0
import HandS.SetFor
import HandS.Strs
import KE.DataAny
import KE.KDictPairs
import HandS.DictComp
import HandS.NoneIn
import KE.KEqDict
import HandS.TupLe
import KE.KAssignIn
import HandS.Finally
import HandS.SlotsOwn
import PyProof.InstNe
import HandS.Dict
import HandS.Iter
import KE.KDictCopyH
import KE.DataMinMax
import KE.SortData
import PyProof.Rows.RowBridgeK
import HandS.Exc
import HandS.ExcInit
import HandS.ExcField
import HandS.ClsMeth
import HandS.Text
import HandS.TryMany
import HandS.ExcIs
import HandS.RaiseMore
import HandS.DictTup
import PyProof.ExcBaseAll.IndexError
import HandS.ExcBuiltin
import KE.KExcInit
import KE.SortUse
import HandS.SortKw
import HandS.TupLen
import PyProof.Rows.IntBool
import HandS.FStr
import KE.KCallOwn
import PyProof.Walks
import HandS.HotCalls
import PyProof.ListMulRight
import PyProof.EqKinds
import PyProof.MeetsIn
import HandS.Ends
import PySem.Challenge.RW_onemaster_k02_plans_equal_and_counted
import KE.KStateDown
import PyProof.Rows.ReprOcc
noncomputable section
set_option linter.all false
def ab := @if_false
def ae := @if_true
def ag := @Nat.le_of_ble_eq_true
def ah := @Option.some.injEq
def aj := @List.getElem?_eq_some_iff
def ak := @Bool.and_eq_true
def aq := @decide_eq_true_eq
def au := @Option.map_eq_some_iff
def av := @List.getElem?_append_left
def ax := @Bool.false_eq_true
def ay := @List.length_map
def az := @List.getElem?_set_ne
def bc := @List.mem_cons_self
def bf := @Bool.not_true
def bg := @List.all_eq_true
def bh := @List.getElem?_set_self
def bj := @exists_eq_left'
def bp := @List.cons_append
def bq := @Nat.le_refl
def br := @List.mem_cons_of_mem
def bu := @List.mem_cons
def bw := @List.getElem?_append_right
def bz := @List.getElem?_eq_getElem
def cb := @List.mem_map
def cc := @Bool.not_false
def cf := @List.mem_of_getElem?
def cg := @List.map_cons
def cj := @List.not_mem_nil
def ck := @List.length_cons
def cq := @List.nil_append
def cu := @List.getElem?_map
def cv := @List.append_assoc
def cw := @List.length_append
def cy := @List.map_map
def cz := @or_false
def da := @List.mem_singleton
def dc := @List.length_nil
def de := @List.length_set
def dh := @List.mem_append
def di := @Nat.le_trans
def dm := @List.getElem?_cons_zero
def dn := @List.getElem?_cons_succ
def dq := @List.getD_eq_getElem?_getD
def dt := @List.exists_cons_of_ne_nil
def du := @List.map_append
def dv := @Nat.lt_of_lt_of_le
def dz := @Option.bind_eq_some_iff
set_option Elab.async false
set_option linter.all false
set_option maxRecDepth 100000
set_option maxHeartbeats 4000000
set_option autoImplicit false
namespace Pc
open PySem PySem.Spec PyProof.Rows L2
inductive D where
 | non | bl (b : Bool) | int (i : Int) | str (x : Str) | ty (n : String) | con (a : Addr)
 | tup (xs : List D) | lst (xs : List D) | pR (xs : List D) | gY (xs : List D) | xO (ks vs : List D) | ref (i : Nat)
inductive MO where
 | lst (xs : List D) | dK (kvs : List (Key × D)) | dT (kvs : List (List Key × D)) | dF (kvs : List (Key × D)) | dG (kvs : List (List Key × D)) | ins (C : Addr) (fs : List (Str × D))
def MO.fz : MO → Bool
 | .dF _ => true
 | .dG _ => true
 | _ => false
abbrev W := List MO
structure XD where
 cls : Value
 fs : Option (List (Str × D))
inductive Res (α : Type) where
 | ok (a : α) (w : W)
 | HW (x : XD) (w : W)
 | bad
def Res.bind {α β : Type} (r : Res α) (f : α → W → Res β) : Res β := match r with
 | .ok a w => f a w
 | .HW x w => .HW x w
 | .bad => .bad
@[simp] theorem Res.BG {α β : Type} (a : α) (w : W) (f : α → W → Res β) : (Res.ok a w).bind f = f a w := rfl
@[simp] theorem Res.aHs {α β : Type} (x : XD) (w : W) (f : α → W → Res β) : (Res.HW x w : Res α).bind f = .HW x w := rfl
@[simp] theorem Res.aHx {α β : Type} (f : α → W → Res β) : (Res.bad : Res α).bind f = .bad := rfl
theorem Res.bind_assoc {α β γ : Type} (r : Res α) (f : α → W → Res β) (g : β → W → Res γ) : (r.bind f).bind g = r.bind fun a w => (f a w).bind g := by
 cases r <;> rfl
mutual
def aI (K : PySem.W.Frag) (I : List Addr) (F : Hp) : D → V → Prop
 | .non, v => v = .non
 | .bl b, v => v = .bl b
 | .int i, v => v = .int i
 | .str x, v => v = .str x
 | .ty n, v => v = .ty n
 | .con a, v => v = .ref a
 | .tup xs, v => ∃ a vs, v = .ref a ∧ F a = some (.tup vs) ∧ RepL K I F xs vs
 | .lst xs, v => ∃ a vs, v = .ref a ∧ F a = some (.lst vs) ∧ RepL K I F xs vs
 | .pR xs, v => ∃ a vs, v = .ref a ∧ SqL K F a vs ∧ RepL K I F xs vs
 | .gY xs, v => ∃ a vs, v = .ref a ∧ SqT K F a vs ∧ RepL K I F xs vs
 | .xO ks xs, v => ∃ a kvs, v = .ref a ∧ Rd F a (.dK kvs) ∧ RepL K I F ks (kvs.map fun p => kV p.1) ∧ RepL K I F xs (kvs.map fun p => p.2)
 | .ref i, v => ∃ a, v = .ref a ∧ I[i]? = some a
def RepL (K : PySem.W.Frag) (I : List Addr) (F : Hp) : List D → List V → Prop
 | [], vs => vs = []
 | d :: ds, vs => ∃ v r, vs = v :: r ∧ aI K I F d v ∧ RepL K I F ds r
end
def aR {κ : Type} (K : PySem.W.Frag) (I : List Addr) (F : Hp) : List (κ × D) → List (κ × V) → Prop
 | [], vs => vs = []
 | (k, d) :: ds, vs => ∃ v r, vs = (k, v) :: r ∧ aI K I F d v ∧ aR K I F ds r
def lN (K : PySem.W.Frag) (I : List Addr) (F : Hp) : MO → HO → Prop
 | .lst xs, u => ∃ vs, u = .lst vs ∧ RepL K I F xs vs
 | .dK kvs, u => ∃ r, u = .dK r ∧ aR K I F kvs r
 | .dT kvs, u => ∃ r, u = .dT r ∧ aR K I F kvs r
 | .dF kvs, u => ∃ o r, u = .frz o (.dK r) ∧ aR K I F kvs r
 | .dG kvs, u => ∃ o r, u = .frz o (.dT r) ∧ aR K I F kvs r
 | .ins C fs, u => ∃ dx r, u = .ins C dx r ∧ aR K I F fs r
structure Rel (K : PySem.W.Frag) (I : List Addr) (F : Hp) (G : Hp) (w : W) (H : Hp) : Prop where
 len : I.length = w.length
 nd : I.Nodup
 ob : ∀ (i : Nat) (a : Addr) (o : MO), I[i]? = some a → w[i]? = some o → ∃ u, H a = some u ∧ lN K I F o u
 fz : ∀ a u, F a = some u → H a = some u
 ap : ∀ (i : Nat) (a : Addr) (o : MO), I[i]? = some a → w[i]? = some o → o.fz = false → F a = none
 gz : ∀ a u, G a = some u → H a = some u
 gf : ∀ a u, G a = some u → F a = none ∧ a ∉ I
 gt : ∀ a xs, ¬ G a = some (.tup xs)
structure Ext (I : List Addr) (F : Hp) (I' : List Addr) (F' : Hp) : Prop where
 i : I <+: I'
 f : ∀ a u, F a = some u → F' a = some u
theorem Ext.refl {I : List Addr} {F : Hp} : Ext I F I F := ⟨List.prefix_refl _, fun _ _ h => h⟩
theorem Ext.trans {I I1 I2 : List Addr} {F F1 F2 : Hp} (a : Ext I F I1 F1) (b : Ext I1 F1 I2 F2) : Ext I F I2 F2 := ⟨a.i.trans b.i, fun x u h => b.f x u (a.f x u h)⟩
theorem Ext.get {I I1 : List Addr} {F F1 : Hp} (e : Ext I F I1 F1) {i : Nat} {a : Addr} (h : I[i]? = some a) : I1[i]? = some a := by
 obtain ⟨t, rfl⟩ := e.i
 have hi : i < I.length := (aj.mp h).1
 rw [av hi]; exact h
section
variable {K : PySem.W.Frag} {I I1 I2 : List Addr} {F F1 F2 : Hp}
theorem UX (e : Ext I F I1 F1) {a : Addr} {u : HO} (h : Rd F a u) : Rd F1 a u := by
 rcases h with h | ⟨o, h⟩
 ·exact .inl (e.f _ _ h)
 ·exact .inr ⟨o, e.f _ _ h⟩
theorem EL (e : Ext I F I1 F1) {a : Addr} {vs : List V} (h : SqT K F a vs) : SqT K F1 a vs := by
 rcases h with h | h
 ·exact .inl (UX e h)
 ·exact .inr h
theorem XW (e : Ext I F I1 F1) {a : Addr} {vs : List V} (h : SqL K F a vs) : SqL K F1 a vs := by
 rcases h with h | h
 ·exact .inl (UX e h)
 ·exact .inr h
mutual
theorem aI.ext (e : Ext I F I1 F1) : ∀ (d : D) (v : V), aI K I F d v → aI K I1 F1 d v
 | .non, _, h => h
 | .bl _, _, h => h
 | .int _, _, h => h
 | .str _, _, h => h
 | .ty _, _, h => h
 | .con _, _, h => h
 | .tup xs, v, h => by
  simp only [aI] at h ⊢
  obtain ⟨a, vs, h1, h2, h3⟩ := h
  exact ⟨a, vs, h1, e.f _ _ h2, RepL.ext e xs vs h3⟩
 | .gY xs, v, h => by
  simp only [aI] at h ⊢
  obtain ⟨a, vs, h1, h2, h3⟩ := h
  exact ⟨a, vs, h1, EL e h2, RepL.ext e xs vs h3⟩
 | .lst xs, v, h => by
  simp only [aI] at h ⊢
  obtain ⟨a, vs, h1, h2, h3⟩ := h
  exact ⟨a, vs, h1, e.f _ _ h2, RepL.ext e xs vs h3⟩
 | .pR xs, v, h => by
  simp only [aI] at h ⊢
  obtain ⟨a, vs, h1, h2, h3⟩ := h
  exact ⟨a, vs, h1, XW e h2, RepL.ext e xs vs h3⟩
 | .xO ks xs, v, h => by
  simp only [aI] at h ⊢
  obtain ⟨a, kvs, h1, h2, h3, h4⟩ := h
  exact ⟨a, kvs, h1, UX e h2, RepL.ext e ks _ h3, RepL.ext e xs _ h4⟩
 | .ref i, v, h => by
  simp only [aI] at h ⊢
  obtain ⟨a, h1, h2⟩ := h
  exact ⟨a, h1, e.get h2⟩
theorem RepL.ext (e : Ext I F I1 F1) : ∀ (ds : List D) (vs : List V), RepL K I F ds vs → RepL K I1 F1 ds vs
 | [], _, h => h
 | d :: ds, vs, h => by
  simp only [RepL] at h ⊢
  obtain ⟨v, r, h1, h2, h3⟩ := h
  exact ⟨v, r, h1, aI.ext e d v h2, RepL.ext e ds r h3⟩
end
theorem aR.ext {κ : Type} (e : Ext I F I1 F1) : ∀ (ds : List (κ × D)) (vs : List (κ × V)), aR K I F ds vs → aR K I1 F1 ds vs
 | [], _, h => h
 | (k, d) :: ds, vs, h => by
  simp only [aR] at h ⊢
  obtain ⟨v, r, h1, h2, h3⟩ := h
  exact ⟨v, r, h1, aI.ext e d v h2, aR.ext e ds r h3⟩
theorem lN.ext (e : Ext I F I1 F1) {o : MO} {u : HO} (h : lN K I F o u) : lN K I1 F1 o u := by
 cases o with
 | lst xs => obtain ⟨vs, h1, h2⟩ := h; exact ⟨vs, h1, RepL.ext e _ _ h2⟩
 | dK xs => obtain ⟨vs, h1, h2⟩ := h; exact ⟨vs, h1, aR.ext e _ _ h2⟩
 | dT xs => obtain ⟨vs, h1, h2⟩ := h; exact ⟨vs, h1, aR.ext e _ _ h2⟩
 | dF xs => obtain ⟨o, vs, h1, h2⟩ := h; exact ⟨o, vs, h1, aR.ext e _ _ h2⟩
 | dG xs => obtain ⟨o, vs, h1, h2⟩ := h; exact ⟨o, vs, h1, aR.ext e _ _ h2⟩
 | ins C xs => obtain ⟨dx, vs, h1, h2⟩ := h; exact ⟨dx, vs, h1, aR.ext e _ _ h2⟩
theorem RepL.length : ∀ {ds : List D} {vs : List V}, RepL K I F ds vs → ds.length = vs.length
 | [], vs, h => by simp only [RepL] at h; subst h; rfl
 | d :: ds, vs, h => by
  simp only [RepL] at h
  obtain ⟨v, r, rfl, _, h3⟩ := h
  simp [RepL.length h3]
theorem RepL.cons {d : D} {ds : List D} {v : V} {vs : List V} (h : aI K I F d v) (t : RepL K I F ds vs) : RepL K I F (d :: ds) (v :: vs) := by
 simp only [RepL]; exact ⟨v, vs, rfl, h, t⟩
theorem RepL.append : ∀ {ds es : List D} {vs us : List V}, RepL K I F ds vs → RepL K I F es us → RepL K I F (ds ++ es) (vs ++ us)
 | [], _, _, _, h, t => by simp only [RepL] at h; subst h; exact t
 | d :: ds, es, vs, us, h, t => by
  simp only [RepL] at h
  obtain ⟨v, r, rfl, h2, h3⟩ := h
  exact RepL.cons h2 (RepL.append h3 t)
theorem RepL.get : ∀ {ds : List D} {vs : List V} {i : Nat} {d : D}, RepL K I F ds vs → ds[i]? = some d → ∃ v, vs[i]? = some v ∧ aI K I F d v
 | [], _, _, _, _, e => by simp at e
 | d :: ds, vs, 0, x, h, e => by
  simp only [RepL] at h
  obtain ⟨v, r, rfl, h2, _⟩ := h
  simp at e; subst e
  exact ⟨v, rfl, h2⟩
 | d :: ds, vs, i + 1, x, h, e => by
  simp only [RepL] at h
  obtain ⟨v, r, rfl, _, h3⟩ := h
  obtain ⟨u, h4, h5⟩ := RepL.get (i := i) h3 (by simpa using e)
  exact ⟨u, by simpa using h4, h5⟩
theorem RepL.set : ∀ {ds : List D} {vs : List V} (i : Nat) {d : D} {v : V}, RepL K I F ds vs → aI K I F d v → RepL K I F (ds.set i d) (vs.set i v)
 | [], vs, _, _, _, h, _ => by simp only [RepL] at h; subst h; simp [RepL]
 | d :: ds, vs, 0, x, u, h, hv => by
  simp only [RepL] at h
  obtain ⟨v, r, rfl, _, h3⟩ := h
  exact RepL.cons hv h3
 | d :: ds, vs, i + 1, x, u, h, hv => by
  simp only [RepL] at h
  obtain ⟨v, r, rfl, h2, h3⟩ := h
  exact RepL.cons h2 (RepL.set i h3 hv)
theorem RepL.take : ∀ {ds : List D} {vs : List V} (n : Nat), RepL K I F ds vs → RepL K I F (ds.take n) (vs.take n)
 | _, _, 0, _ => by simp [RepL]
 | [], vs, n + 1, h => by simp only [RepL] at h; subst h; simp [RepL]
 | d :: ds, vs, n + 1, h => by
  simp only [RepL] at h
  obtain ⟨v, r, rfl, h2, h3⟩ := h
  exact RepL.cons h2 (RepL.take n h3)
theorem RepL.drop : ∀ {ds : List D} {vs : List V} (n : Nat), RepL K I F ds vs → RepL K I F (ds.drop n) (vs.drop n)
 | _, _, 0, h => h
 | [], vs, n + 1, h => by simp only [RepL] at h; subst h; simp [RepL]
 | d :: ds, vs, n + 1, h => by
  simp only [RepL] at h
  obtain ⟨v, r, rfl, h2, h3⟩ := h
  exact RepL.drop n h3
theorem RepL.ints (ns : List Int) : RepL K I F (ns.map D.int) (ns.map V.int) := by
 induction ns with
 | nil => simp [RepL]
 | cons n ns ih => exact RepL.cons (by simp [aI]) ih
end
abbrev Sg := List (Option D)
def gF (K : PySem.W.Frag) (I : List Addr) (F : Hp) (ds : Sg) (s : L2.St) : Prop := ds.length = s.length ∧ ∀ (i : Nat) (d : D), ds[i]? = some (some d) → ∃ v, s[i]? = some (some v) ∧ aI K I F d v
theorem gF.ext {K : PySem.W.Frag} {I I1 : List Addr} {F F1 : Hp} {ds : Sg} {s : L2.St} (h : gF K I F ds s) (e : Ext I F I1 F1) : gF K I1 F1 ds s :=
 ⟨h.1, fun i d q => let ⟨v, h1, h2⟩ := h.2 i d q; ⟨v, h1, aI.ext e d v h2⟩⟩
theorem gF.set {K : PySem.W.Frag} {I : List Addr} {F : Hp} {ds : Sg} {s : L2.St} (h : gF K I F ds s) (i : Nat) {d : D} {v : V} (hv : aI K I F d v) : gF K I F (ds.set i (some d)) (s.set i (some v)) := by
 refine ⟨by simp [h.1], fun j e q => ?_⟩
 by_cases hj : i = j
 ·subst hj
  by_cases hl : i < ds.length
  ·rw [bh hl] at q
   cases q
   exact ⟨v, bh (by rw [← h.1]; exact hl), hv⟩
  ·rw [List.getElem?_eq_none (by simpa using hl)] at q; cases q
 ·rw [az hj] at q
  rw [az hj]
  exact h.2 j e q
theorem gF.unset {K : PySem.W.Frag} {I : List Addr} {F : Hp} {ds : Sg} {s : L2.St} (h : gF K I F ds s) (i : Nat) (x : Option V) : gF K I F (ds.set i none) (s.set i x) := by
 refine ⟨by simp [h.1], fun j e q => ?_⟩
 by_cases hj : i = j
 ·subst hj
  by_cases hl : i < ds.length
  ·rw [bh hl] at q; cases q
  ·rw [List.getElem?_eq_none (by simpa using hl)] at q; cases q
 ·rw [az hj] at q
  rw [az hj]
  exact h.2 j e q
def E1 (K : PySem.W.Frag) (I : List Addr) (F H : Hp) (x : XD) (c : Value) (d : Option Addr) : Prop :=
 c = x.cls ∧ match x.fs with
  | none => d = none
  | some fs => ∃ a r, d = some a ∧ H a = some (.xd r) ∧ aR K I F fs r
def aY {α : Type} (K : PySem.W.Frag) (I : List Addr) (F G : Hp) (E : XK) (R : List Addr → Hp → Hp → α → W → Prop) : Res α → Prop
 | .ok a w => ∀ I' F' H', Ext I F I' F' → Rel K I' F' G w H' → R I' F' H' a w
 | .HW x w => ∀ I' F' H' c d, Ext I F I' F' → Rel K I' F' G w H' → E1 K I' F' H' x c d → E c d H'
 | .bad => False
section
variable {α β : Type} {K : PySem.W.Frag} {I I1 : List Addr} {F F1 G : Hp} {E : XK} {R R' : List Addr → Hp → Hp → α → W → Prop} {r : Res α}
theorem aY.ext (h : aY K I F G E R r) (e : Ext I F I1 F1) : aY K I1 F1 G E R r := by
 cases r with
 | ok a w => exact fun I' F' H' e' q => h I' F' H' (e.trans e') q
 | HW x w => exact fun I' F' H' c d e' q y => h I' F' H' c d (e.trans e') q y
 | bad => exact h
theorem aY.mono (h : aY K I F G E R r) (k : ∀ I' F' H' a w, r = .ok a w → Ext I F I' F' → Rel K I' F' G w H' → R I' F' H' a w → R' I' F' H' a w) : aY K I F G E R' r := by
 cases r with
 | ok a w => exact fun I' F' H' e' q => k I' F' H' a w rfl e' q (h I' F' H' e' q)
 | HW x w => exact h
 | bad => exact h
theorem aY.bind {f : α → W → Res β} {R2 : List Addr → Hp → Hp → β → W → Prop} (h : aY K I F G E R2 (r.bind f)) : aY K I F G E (fun I' F' _ a w => aY K I' F' G E R2 (f a w)) r := by
 cases r with
 | ok a w => exact fun I' F' H' e' q => aY.ext (K := K) (R := R2) h e'
 | HW x w => exact h
 | bad => exact h
end
def RV (K : PySem.W.Frag) (Q : VK) : List Addr → Hp → Hp → D → W → Prop := fun I' F' H' d _ => ∀ v, aI K I' F' d v → Q v H'
structure aP where
 P : Program
 w : World
 K : PySem.W.Frag
 mg : Str → Option Value
 base : Heap
 k : Nat
 N : List Str
 sc : Scope
 fn : Str → Bool
structure Ctx (S : aP) (X : Cx) : Prop where
 P : X.prog = S.P
 w : X.w = S.w
 K : X.K = S.K
 mg : X.mg = S.mg
 base : X.base = S.base
 N : X.N = S.N
 sc : X.env.scope = S.sc
 fn : ∀ x, S.fn x = true → X.fn x = true
 calm : X.calm = true
 room : Room S.k X.A
 OQ : X.A.guards = some []
 nd : X.N.Nodup
structure pI (X : Cx) (E : XK) : Prop where
 tk : Takes X (fun cls d _ H => E cls d H)
 own : PassesOwn (model X.prog X.w) X.A X.env X.xe
abbrev ME := Sg → W → Res D
abbrev MT := Sg → W → Res Bool
abbrev MA := Sg → W → Res (List D)
inductive Fl where
 | nx (s : Sg) | rt (d : D) | bk (s : Sg) | ct (s : Sg)
abbrev MS := Sg → W → Res Fl
def RL (K : PySem.W.Frag) (Q : List V → Hp → Prop) : List Addr → Hp → Hp → List D → W → Prop := fun I' F' H' ds _ => ∀ vs, RepL K I' F' ds vs → Q vs H'
def RB (Q : Bool → Hp → Prop) : List Addr → Hp → Hp → Bool → W → Prop := fun _ _ H' b _ => Q b H'
def RFl (K : PySem.W.Frag) (Z : Ends) : List Addr → Hp → Hp → Fl → W → Prop := fun I' F' H' f _ => match f with
 | .nx s => ∀ s', gF K I' F' s s' → Z.nx s' H'
 | .rt d => ∀ v, aI K I' F' d v → Z.rt v H'
 | .bk s => ∀ s', gF K I' F' s s' → Z.bk s' H'
 | .ct s => ∀ s', gF K I' F' s s' → Z.ct s' H'
def sQ (K : PySem.W.Frag) (E : XK) (m : ME) : TE := fun σ H Q => ∃ I F G ds w, Rel K I F G w H ∧ gF K I F ds σ ∧ aY K I F G E (RV K Q) (m ds w)
def U9 (K : PySem.W.Frag) (E : XK) (m : MT) : TT := fun σ H Q => ∃ I F G ds w, Rel K I F G w H ∧ gF K I F ds σ ∧ aY K I F G E (RB Q) (m ds w)
def aD5 (K : PySem.W.Frag) (E : XK) (m : MA) : TA := fun σ H Q => ∃ I F G ds w, Rel K I F G w H ∧ gF K I F ds σ ∧ aY K I F G E (RL K Q) (m ds w)
def IS (K : PySem.W.Frag) (E : XK) (m : MS) : TS := fun Z σ H => ∃ I F G ds w, Rel K I F G w H ∧ gF K I F ds σ ∧ aY K I F G E (RFl K Z) (m ds w)
def JE (S : aP) (e : Expr) (m : ME) : Prop := ∀ X E, Ctx S X → pI X E → PE X e (sQ X.K E m)
def JT (S : aP) (e : Expr) (m : MT) : Prop := ∀ X E, Ctx S X → pI X E → PT X e (U9 X.K E m)
def JW (S : aP) (e : Expr) (m : MT) : Prop := ∀ X E, Ctx S X → pI X E → PW X e (U9 X.K E m)
def JA (S : aP) (es : List Expr) (m : MA) : Prop := ∀ X E, Ctx S X → pI X E → PA X es (aD5 X.K E m)
def JS (S : aP) (st : Stmt) (m : MS) : Prop := ∀ X E, Ctx S X → pI X E → PS X st (IS X.K E m)
def rR (S : aP) (st : List Stmt) (m : MS) : Prop := ∀ X E, Ctx S X → pI X E → PSs X st (IS X.K E m)
section
variable {X : Cx} {e : Expr} {es : List Expr} {st : Stmt} {sts : List Stmt}
theorem cR {t t' : TE} (h : PE X e t) (k : ∀ σ H Q, t' σ H Q → t σ H Q) : PE X e t' := ⟨fun pins s σ H Q I q => h.run pins s σ H Q I (k σ H Q q)⟩
theorem EW {t t' : TT} (h : PT X e t) (k : ∀ σ H Q, t' σ H Q → t σ H Q) : PT X e t' := ⟨fun pins s σ H Q I q => h.run pins s σ H Q I (k σ H Q q)⟩
theorem WM {t t' : TT} (h : PW X e t) (k : ∀ σ H Q, t' σ H Q → t σ H Q) : PW X e t' := ⟨fun wh pins s σ H Q I q => h.run wh pins s σ H Q I (k σ H Q q)⟩
theorem X7 {t t' : TA} (h : PA X es t) (k : ∀ σ H Q, t' σ H Q → t σ H Q) : PA X es t' := ⟨fun pos pins s σ H Q I q => h.run pos pins s σ H Q I (k σ H Q q)⟩
theorem kQ {t t' : TS} (h : PS X st t) (k : ∀ D σ H, t' D σ H → t D σ H) : PS X st t' := ⟨fun pins s σ H D I q => h.run pins s σ H D I (k D σ H q)⟩
theorem PQ {t t' : TS} (h : PSs X sts t) (k : ∀ D σ H, t' D σ H → t D σ H) : PSs X sts t' := ⟨fun pins s σ H D I q => h.run pins s σ H D I (k D σ H q)⟩
end
def aB (i : Nat) : ME := fun σ w => match σ[i]? with
 | some (some d) => .ok d w
 | _ => .bad
def eC (d : D) : ME := fun _ w => .ok d w
section
variable {S : aP} {pos : Pos}
theorem aFK (i : Nat) {x : Str} (hN : S.N[i]? = some x) (hv : Vis S.sc x) (hd : (x == ("__debug__" : Str)) = false := by decide) (hcd : (x == ("__classdict__" : Str)) = false := by decide) : JE S (.Name x pos) (aB i) := by
 intro X E c xo
 refine cR (pe_var (i := i) (by rw [c.N]; exact hN) (by rw [c.sc]; exact hv) hd hcd) fun σ H Q h => ?_
 obtain ⟨I, F, G, ds, w, rel, rs, p⟩ := h
 unfold aB at p
 split at p
 ·rename_i d hi
  obtain ⟨v, hv, hr⟩ := rs.2 i d hi
  exact ⟨v, hv, p I F H .refl rel v hr⟩
 ·exact p.elim
theorem aD7 {e : Expr} {d : D} {v : V} (h : ∀ X, PE X e (tC v)) (hr : ∀ K I F, aI K I F d v) : JE S e (eC d) := by
 intro X E c xo
 refine cR (h X) fun σ H Q h => ?_
 obtain ⟨I, F, G, ds, w, rel, rs, p⟩ := h
 exact p I F H .refl rel v (hr _ _ _)
theorem aG {i : Int} {j : Nat} : JE S (.Constant (.int i) j pos) (eC (.int i)) := aD7 (fun _ => pe_int) fun _ _ _ => by simp [aI]
theorem hV {b : Bool} {j : Nat} : JE S (.Constant (.bool b) j pos) (eC (.bl b)) := aD7 (fun _ => pe_bl) fun _ _ _ => by simp [aI]
theorem sG {j : Nat} : JE S (.Constant .none j pos) (eC .non) := aD7 (fun _ => pe_non) fun _ _ _ => by simp [aI]
theorem cM {x : Str} {j : Nat} : JE S (.Constant (.str x) j pos) (eC (.str x)) := aD7 (fun _ => pe_str) fun _ _ _ => by simp [aI]
theorem aCM {x : Str} {d : D} {v : V} {u : Value} (hg : S.sc.names.lookup x = some .globalImplicit) (hm : S.mg x = some u) (r : RelV v u) (hr : ∀ I F, aI S.K I F d v) (hd : (x == ("__debug__" : Str)) = false := by decide) : JE S (.Name x pos) (eC d) := by
 intro X E c xo
 refine cR (pe_glob (x := x) (v := v) (u := u) (by show X.env.scope.names.lookup x = _; rw [c.sc]; exact hg) (by rw [c.mg]; exact hm) r hd) fun σ H Q h => ?_
 obtain ⟨I, F, G, ds, w, rel, rs, p⟩ := h
 exact p I F H .refl rel v (by rw [c.K]; exact hr _ _)
end
def aD (f : D → D → W → Res D) (a b : ME) : ME := fun σ w => (a σ w).bind fun x w1 => (b σ w1).bind fun y w2 => f x y w2
def A6 (f : D → W → Res D) (a : ME) : ME := fun σ w => (a σ w).bind fun x w1 => f x w1
def aB6 (K : PySem.W.Frag) (E : XK) (f : D → D → W → Res D) : R2 := fun x y H Q => ∃ I F G d e w, Rel K I F G w H ∧ aI K I F d x ∧ aI K I F e y ∧ aY K I F G E (RV K Q) (f d e w)
def aHW (K : PySem.W.Frag) (E : XK) (f : D → W → Res D) : V → Hp → VK → Prop := fun x H Q => ∃ I F G d w, Rel K I F G w H ∧ aI K I F d x ∧ aY K I F G E (RV K Q) (f d w)
def O2 (S : aP) (o : Value → Value → Sem Value) (f : D → D → W → Res D) : Prop := ∀ X E, Ctx S X → pI X E → OpR X o (aB6 X.K E f)
def O1 (S : aP) (o : Value → Sem Value) (f : D → W → Res D) : Prop := ∀ X E, Ctx S X → pI X E → UnR X o (aHW X.K E f)
section
variable {S : aP} {pos : Pos} {a b : Expr} {ma mb : ME}
theorem zO {K : PySem.W.Frag} {E : XK} {f : D → D → W → Res D} {σ : L2.St} {H : Hp} {Q : VK} (h : sQ K E (aD f ma mb) σ H Q) : tOp (aB6 K E f) (sQ K E ma) (sQ K E mb) σ H Q := by
 obtain ⟨I, F, G, ds, w, rel, rs, p⟩ := h
 refine ⟨I, F, G, ds, w, rel, rs, (aY.bind p).mono fun I1 F1 H1 x w1 _ e1 rel1 p1 v rv => ?_⟩
 refine ⟨I1, F1, G, ds, w1, rel1, rs.ext e1, (aY.bind p1).mono fun I2 F2 H2 y w2 _ e2 rel2 p2 u ru => ?_⟩
 exact ⟨I2, F2, G, x, y, w2, rel2, aI.ext e2 _ _ rv, ru, p2⟩
theorem bA {op : Operator} {f : D → D → W → Res D} (ho : O2 S (binaryOp op) f) (ha : JE S a ma) (hb : JE S b mb) : JE S (.BinOp a op b pos) (aD f ma mb) := fun X E c xo =>
 cR (pe_op (ho X E c xo) (ha X E c xo) (hb X E c xo)) fun _ _ _ h => zO h
theorem i6 {op : CmpOp} {f : D → D → W → Res D} (ho : O2 S (compareOp op) f) (ha : JE S a ma) (hb : JE S b mb) (hm : behindInMarks op b = false := by first | exact nobehind _ (by decide) (by decide) | rfl) : JE S (.Compare a [op] [b] pos) (aD f ma mb) := fun X E c xo =>
 cR (pe_cmpR (ho X E c xo) (ha X E c xo) (hb X E c xo) hm) fun _ _ _ h => zO h
theorem aBu {op : UnaryOp} {f : D → W → Res D} (ho : O1 S (unaryOp op) f) (ha : JE S a ma) : JE S (.UnaryOp op a pos) (A6 f ma) := fun X E c xo =>
 cR (pe_un (ho X E c xo) (ha X E c xo)) fun σ H Q h => by
  obtain ⟨I, F, G, ds, w, rel, rs, p⟩ := h
  refine ⟨I, F, G, ds, w, rel, rs, (aY.bind p).mono fun I1 F1 H1 x w1 _ e1 rel1 p1 v rv => ?_⟩
  exact ⟨I1, F1, G, x, w1, rel1, rv, p1⟩
def aHw (d : D) (w : W) : Res Bool := match d with
 | .bl b => .ok b w
 | _ => .bad
def bC (m : ME) : MT := fun σ w => (m σ w).bind aHw
theorem eU {op : CmpOp} {f : D → D → W → Res D} (ho : O2 S (compareOp op) f) (ha : JE S a ma) (hb : JE S b mb) (hm : behindInMarks op b = false := by first | exact nobehind _ (by decide) (by decide) | rfl) : JT S (.Compare a [op] [b] pos) (bC (aD f ma mb)) := fun X E c xo =>
 EW (pt_cmpR (ho X E c xo) (ha X E c xo) (hb X E c xo) hm) fun σ H Q h => by
  obtain ⟨I, F, G, ds, w, rel, rs, p⟩ := h
  show tOp _ _ _ σ H fun x H' => ∃ k, x = .bl k ∧ Q k H'
  refine zO ⟨I, F, G, ds, w, rel, rs, (aY.bind p).mono fun I1 F1 H1 x w1 _ e1 rel1 p1 v rv => ?_⟩
  cases x <;> first | exact p1.elim | skip
  simp only [aI] at rv
  exact ⟨_, rv, p1 I1 F1 H1 .refl rel1⟩
end
mutual
def D.eP (f : Nat → Option PyData) : D → Option PyData
 | .non => some .none
 | .bl b => some (.bool b)
 | .int i => some (.int i)
 | .str x => some (.str x)
 | .ty _ => none
 | .con _ => none
 | .tup xs => (D.pysR f xs).map .tuple
 | .lst xs => (D.pysR f xs).map .list
 | .pR xs => (D.pysR f xs).map .list
 | .gY xs => (D.pysR f xs).map .tuple
 | .xO _ _ => none
 | .ref i => f i
def D.pysR (f : Nat → Option PyData) : List D → Option (List PyData)
 | [] => some []
 | d :: ds => match D.eP f d, D.pysR f ds with
  | some p, some ps => some (p :: ps)
  | _, _ => none
end
def IE : Nat → W → Nat → Option PyData
 | 0, _, _ => none
 | n + 1, w, i => match w[i]? with
  | some (.lst xs) => (D.pysR (IE n w) xs).map .list
  | _ => none
def D.py (w : W) (d : D) : Option PyData := d.eP (IE 8 w)
section
variable {K : PySem.W.Frag} {I : List Addr} {F G H : Hp} {w : W}
theorem Rel.sqL (rel : Rel K I F G w H) {a : Addr} {vs : List V} (h : SqL K F a vs) : SqL K H a vs := by
 rcases h with (h | ⟨o, h⟩) | h
 ·exact .inl (.inl (rel.fz _ _ h))
 ·exact .inl (.inr ⟨o, rel.fz _ _ h⟩)
 ·exact .inr h
theorem Rel.Q8 (rel : Rel K I F G w H) {a : Addr} {vs : List V} (h : SqT K F a vs) : SqT K H a vs := by
 rcases h with (h | ⟨o, h⟩) | h
 ·exact .inl (.inl (rel.fz _ _ h))
 ·exact .inl (.inr ⟨o, rel.fz _ _ h⟩)
 ·exact .inr h
mutual
theorem aAi (rel : Rel K I F G w H) {f : Nat → Option PyData} (hf : ∀ i a p, I[i]? = some a → f i = some p → Dp K H (.ref a) p) : ∀ (d : D) (v : V) (p : PyData), aI K I F d v → d.eP f = some p → Dp K H v p
 | .non, v, p, h, e => by simp only [aI] at h; simp only [D.eP, ah] at e; subst h; subst e; exact .non
 | .bl b, v, p, h, e => by simp only [aI] at h; simp only [D.eP, ah] at e; subst h; subst e; exact .bl b
 | .int i, v, p, h, e => by simp only [aI] at h; simp only [D.eP, ah] at e; subst h; subst e; exact .int i
 | .str x, v, p, h, e => by simp only [aI] at h; simp only [D.eP, ah] at e; subst h; subst e; exact .str x
 | .ty _, v, p, h, e => by simp [D.eP] at e
 | .con _, v, p, h, e => by simp [D.eP] at e
 | .xO _ _, v, p, h, e => by simp [D.eP] at e
 | .tup xs, v, p, h, e => by
  simp only [aI] at h
  obtain ⟨a, vs, rfl, h2, h3⟩ := h
  simp only [D.eP, au] at e
  obtain ⟨ps, e1, rfl⟩ := e
  exact .tup (.of (rel.fz _ _ h2)) (dp_pysR rel hf xs vs ps h3 e1)
 | .gY xs, v, p, h, e => by
  simp only [aI] at h
  obtain ⟨a, vs, rfl, h2, h3⟩ := h
  simp only [D.eP, au] at e
  obtain ⟨ps, e1, rfl⟩ := e
  exact .tup (rel.Q8 h2) (dp_pysR rel hf xs vs ps h3 e1)
 | .lst xs, v, p, h, e => by
  simp only [aI] at h
  obtain ⟨a, vs, rfl, h2, h3⟩ := h
  simp only [D.eP, au] at e
  obtain ⟨ps, e1, rfl⟩ := e
  exact .lst (.of (rel.fz _ _ h2)) (dp_pysR rel hf xs vs ps h3 e1)
 | .pR xs, v, p, h, e => by
  simp only [aI] at h
  obtain ⟨a, vs, rfl, h2, h3⟩ := h
  simp only [D.eP, au] at e
  obtain ⟨ps, e1, rfl⟩ := e
  exact .lst (rel.sqL h2) (dp_pysR rel hf xs vs ps h3 e1)
 | .ref i, v, p, h, e => by
  simp only [aI] at h
  obtain ⟨a, rfl, h2⟩ := h
  simp only [D.eP] at e
  exact hf i a p h2 e
theorem dp_pysR (rel : Rel K I F G w H) {f : Nat → Option PyData} (hf : ∀ i a p, I[i]? = some a → f i = some p → Dp K H (.ref a) p) : ∀ (ds : List D) (vs : List V) (ps : List PyData), RepL K I F ds vs → D.pysR f ds = some ps → DpAll K H vs ps
 | [], vs, ps, h, e => by simp only [RepL] at h; simp only [D.pysR, ah] at e; subst h; subst e; exact .nil
 | d :: ds, vs, ps, h, e => by
  simp only [RepL] at h
  obtain ⟨v, r, rfl, h2, h3⟩ := h
  simp only [D.pysR] at e
  split at e
  ·rename_i p ps' e1 e2
   cases e
   exact .cons (aAi rel hf d v p h2 e1) (dp_pysR rel hf ds r ps' h3 e2)
  ·cases e
end
theorem aEu (rel : Rel K I F G w H) : ∀ (n : Nat) (i : Nat) (a : Addr) (p : PyData), I[i]? = some a → IE n w i = some p → Dp K H (.ref a) p
 | 0, i, a, p, _, e => by simp [IE] at e
 | n + 1, i, a, p, h, e => by
  simp only [IE] at e
  split at e
  ·rename_i xs hw
   simp only [au] at e
   obtain ⟨ps, e1, rfl⟩ := e
   obtain ⟨u, hu, ho⟩ := rel.ob i a _ h hw
   obtain ⟨vs, rfl, h3⟩ := ho
   exact .lst (.of hu) (dp_pysR rel (fun i a p => aEu rel n i a p) xs vs ps h3 e1)
  ·cases e
theorem KS (rel : Rel K I F G w H) {d : D} {v : V} {p : PyData} (h : aI K I F d v) (e : d.py w = some p) : Dp K H v p :=
 aAi rel (fun i a p => aEu rel 8 i a p) d v p h e
end
def bJ (x y : D) (w : W) : Res D := match x, y with
 | .int a, .int b => .ok (.int (a + b)) w
 | .str a, .str b => if a.length + b.length ≤ sizeLine then .ok (.str (a ++ b)) w else .bad
 | .tup a, .tup b => if a.length + b.length ≤ sizeLine then .ok (.tup (a ++ b)) w else .bad
 | .lst a, .lst b => if a.length + b.length ≤ sizeLine then .ok (.lst (a ++ b)) w else .bad
 | _, _ => .bad
def kX (x y : D) (w : W) : Res D := match x, y with
 | .int a, .int b => .ok (.int (a - b)) w
 | _, _ => .bad
def GF (a b : Int) : Bool := (decide (-(2 ^ 64) < a) && decide (a < 2 ^ 64)) || (decide (-(2 ^ 64) < b) && decide (b < 2 ^ 64))
def mulM (x y : D) (w : W) : Res D := match x, y with
 | .int a, .int b => if GF a b then .ok (.int (a * b)) w else .bad
 | .lst a, .int k => if -(2 ^ 63) ≤ k ∧ k < 2 ^ 63 ∧ a.length * k.toNat ≤ sizeLine then .ok (.lst (List.replicate k.toNat a).flatten) w else .bad
 | _, _ => .bad
def xJ (x y : D) (w : W) : Res D := match x, y with
 | .int a, .int b => if 0 < b ∧ b < 1073741824 then .ok (.int (a / b)) w else .bad
 | _, _ => .bad
def gP (x y : D) (w : W) : Res D := match x, y with
 | .int a, .int b => if 0 < b then .ok (.int (a % b)) w else .bad
 | _, _ => .bad
def U4 (x y : D) (w : W) : Res D := match x, y with
 | .int a, .int b => if 0 ≤ b ∧ b ≤ 1000000 ∧ a.natAbs < 2 ^ 64 then .ok (.int (a ^ b.toNat)) w else .bad
 | _, _ => .bad
def yR (x : D) (w : W) : Res D := match x with
 | .int a => .ok (.int (-a)) w
 | _ => .bad
def xF (x y : D) (w : W) : Option Bool := match x.py w, y.py w with
 | some p, some q => if SeqAt.shaped p = true ∧ SeqAt.shaped q = true then some (PyData.eqv p q) else none
 | _, _ => none
def aGv (x y : D) (w : W) : Res D := match xF x y w with
 | some b => .ok (.bl b) w
 | none => .bad
def aFD (x y : D) (w : W) : Res D := match xF x y w with
 | some b => .ok (.bl (!b)) w
 | none => .bad
def aAy : D → D → Option Bool
 | .tup xs, .tup [] => some xs.isEmpty
 | .lst xs, .lst [] => some xs.isEmpty
 | _, _ => none
def tU (x y : D) (w : W) : Option Bool := match xF x y w with
 | some b => some b
 | none => aAy x y
def gO (x y : D) (w : W) : Res D := match tU x y w with
 | some b => .ok (.bl b) w
 | none => .bad
def pT (x y : D) (w : W) : Res D := match tU x y w with
 | some b => .ok (.bl (!b)) w
 | none => .bad
def GU (x y : D) (w : W) : Res D := match x, y with
 | .int a, .int b => .ok (.bl (decide (a ≤ b))) w
 | _, _ => .bad
def NP (x y : D) (w : W) : Res D := match x, y with
 | .int a, .int b => .ok (.bl (decide (b < a))) w
 | _, _ => .bad
def geM (x y : D) (w : W) : Res D := match x, y with
 | .int a, .int b => .ok (.bl (decide (b ≤ a))) w
 | _, _ => .bad
def D.isNon : D → Bool
 | .non => true
 | _ => false
def isM (x y : D) (w : W) : Res D := match x, y with
 | x, .non => .ok (.bl x.isNon) w
 | .bl a, .bl b => .ok (.bl (decide (a = b))) w
 | _, _ => .bad
def sL (x y : D) (w : W) : Res D := match x, y with
 | x, .non => .ok (.bl (!x.isNon)) w
 | .bl a, .bl b => .ok (.bl (!decide (a = b))) w
 | _, _ => .bad
def D.items (w : W) : D → Option (List D)
 | .tup xs => some xs
 | .lst xs => some xs
 | .pR xs => some xs
 | .gY xs => some xs
 | .ref i => match w[i]? with
  | some (.lst xs) => some xs
  | _ => none
 | _ => none
section
variable {S : aP}
theorem jE {o : Value → Value → Sem Value} {f : D → D → W → Res D}
  (h : ∀ (X : Cx) (E : XK), Ctx S X → pI X E → ∀ (I : List Addr) (F G : Hp) (d e : D) (w : W) (H : Hp) (x y : V) (Q : VK), Rel X.K I F G w H → aI X.K I F d x → aI X.K I F e y → aY X.K I F G E (RV X.K Q) (f d e w) →
   ∃ r : R2, OpR X o r ∧ r x y H Q) : O2 S o f := fun X E c xo pins s σ H x y v u Q I rx ry ⟨J, F, G, d, e, w, rel, rd, re, p⟩ => by
 obtain ⟨r, ho, hr⟩ := h X E c xo J F G d e w H x y Q rel rd re p
 exact ho pins s σ H x y v u Q I rx ry hr
theorem y7 {o : Value → Value → Sem Value} {f : D → D → W → Res D} {C : Int → Int → Prop} {g : Int → Int → V} {gd : Int → Int → D} (ho : ∀ X : Cx, OpR X o (rI C g))
  (hg : ∀ K I F a b, aI K I F (gd a b) (g a b)) (hf : ∀ d e w r, f d e w = r → r = .bad ∨ ∃ a b, d = .int a ∧ e = .int b ∧ C a b ∧ r = .ok (gd a b) w) : O2 S o f :=
 jE fun X E c xo I F G d e w H x y Q rel rd re p => by
  rcases hf d e w _ rfl with h | ⟨a, b, rfl, rfl, hc, h⟩
  ·rw [h] at p; exact p.elim
  ·rw [h] at p
   simp only [aI] at rd re
   exact ⟨_, ho X, a, b, rd, re, hc, p I F H .refl rel _ (hg _ _ _ _ _)⟩
theorem RW {o : Value → Value → Sem Value} {X : Cx} {g : Int → Int → V} (h : OpR X o (rI0 g)) : OpR X o (rI (fun _ _ => True) g) := fun pins s σ H x y v u Q I rx ry ⟨i, j, e1, e2, _, q⟩ => h pins s σ H x y v u Q I rx ry ⟨i, j, e1, e2, q⟩
theorem UC : O2 S (binaryOp .Sub) kX := y7 (gd := fun a b => .int (a - b)) (fun _ => RW op_sub) (fun _ _ _ _ _ => by simp [aI]) fun d e w r h => by
 subst h; cases d <;> cases e <;> simp [kX]
theorem vC : O2 S (compareOp .LtE) GU := y7 (gd := fun a b => .bl (decide (a ≤ b))) (fun _ => RW op_le) (fun _ _ _ _ _ => by simp [aI]) fun d e w r h => by
 subst h; cases d <;> cases e <;> simp [GU]
theorem aEv : O2 S (compareOp .Gt) NP := y7 (gd := fun a b => .bl (decide (b < a))) (fun _ => RW op_gt) (fun _ _ _ _ _ => by simp [aI]) fun d e w r h => by
 subst h; cases d <;> cases e <;> simp [NP]
theorem aHJ : O2 S (compareOp .GtE) geM := y7 (gd := fun a b => .bl (decide (b ≤ a))) (fun _ => RW op_ge) (fun _ _ _ _ _ => by simp [aI]) fun d e w r h => by
 subst h; cases d <;> cases e <;> simp [geM]
theorem WZ : O2 S (binaryOp .FloorDiv) xJ := y7 (gd := fun a b => .int (a / b)) (fun _ => op_fdiv) (fun _ _ _ _ _ => by simp [aI]) fun d e w r h => by
 subst h; cases d <;> cases e <;> simp only [xJ, true_or, reduceCtorEq, false_and, and_false, exists_const, cz]
 rename_i a b
 by_cases hc : 0 < b ∧ b < 1073741824
 ·rw [if_pos hc]; exact .inr ⟨a, b, rfl, rfl, hc, rfl⟩
 ·rw [if_neg hc]; exact .inl rfl
theorem jN : O2 S (binaryOp .Mod) gP := y7 (gd := fun a b => .int (a % b)) (fun _ => op_mod) (fun _ _ _ _ _ => by simp [aI]) fun d e w r h => by
 subst h; cases d <;> cases e <;> simp only [gP, true_or, reduceCtorEq, false_and, and_false, exists_const, cz]
 rename_i a b
 by_cases hc : 0 < b
 ·rw [if_pos hc]; exact .inr ⟨a, b, rfl, rfl, hc, rfl⟩
 ·rw [if_neg hc]; exact .inl rfl
theorem aGP : O2 S (binaryOp .Pow) U4 := y7 (gd := fun a b => .int (a ^ b.toNat)) (fun _ => op_pow) (fun _ _ _ _ _ => by simp [aI]) fun d e w r h => by
 subst h; cases d <;> cases e <;> simp only [U4, true_or, reduceCtorEq, false_and, and_false, exists_const, cz]
 rename_i a b
 by_cases hc : 0 ≤ b ∧ b ≤ 1000000 ∧ a.natAbs < 2 ^ 64
 ·rw [if_pos hc]; exact .inr ⟨a, b, rfl, rfl, hc, rfl⟩
 ·rw [if_neg hc]; exact .inl rfl
theorem oI {K : PySem.W.Frag} {I : List Addr} {F G H : Hp} {E : XK} {w : W} {ds : List D} {vs : List V} {Q : VK} (rel : Rel K I F G w H) (r : RepL K I F ds vs) (p : aY K I F G E (RV K Q) (.ok (.lst ds) w)) : ∀ q, H q = none → Q (.ref q) (upd H q (.lst vs)) := fun q hq => by
 have hF : F q = none := by
  cases h : F q with
  | none => rfl
  | some u => rw [rel.fz _ _ h] at hq; cases hq
 have e : Ext I F I (upd F q (.lst vs)) := ⟨List.prefix_refl _, fun a u h => by rw [upd_ne (ne_of_none h hF)]; exact h⟩
 refine p I (upd F q (.lst vs)) (upd H q (.lst vs)) e ⟨rel.len, rel.nd, fun i a o h1 h2 => ?_, fun a u h => ?_, fun i a o h h0 hf => ?_, fun a u h => ?_, fun a u h => ?_, rel.gt⟩ _ ?_
 ·obtain ⟨u, h3, h4⟩ := rel.ob i a o h1 h2
  exact ⟨u, by rw [upd_ne (ne_of_none h3 hq)]; exact h3, lN.ext e h4⟩
 ·by_cases ha : a = q
  ·subst ha; rw [upd_same] at h ⊢; exact h
  ·rw [upd_ne ha] at h ⊢; exact rel.fz a u h
 ·obtain ⟨u, h3, _⟩ := rel.ob i a o h h0
  rw [upd_ne (ne_of_none h3 hq)]; exact rel.ap i a o h h0 hf
 ·rw [upd_ne (ne_of_none (rel.gz a u h) hq)]; exact rel.gz a u h
 ·rw [upd_ne (ne_of_none (rel.gz a u h) hq)]; exact rel.gf a u h
 ·simp only [aI]
  exact ⟨q, vs, rfl, upd_same, RepL.ext e _ _ r⟩
theorem BK {K : PySem.W.Frag} {I : List Addr} {F G H : Hp} {E : XK} {w : W} {ds : List D} {vs : List V} {Q : VK} (rel : Rel K I F G w H) (r : RepL K I F ds vs) (p : aY K I F G E (RV K Q) (.ok (.tup ds) w)) : ∀ q, H q = none → Q (.ref q) (upd H q (.tup vs)) := fun q hq => by
 have hF : F q = none := by
  cases h : F q with
  | none => rfl
  | some u => rw [rel.fz _ _ h] at hq; cases hq
 have e : Ext I F I (upd F q (.tup vs)) := ⟨List.prefix_refl _, fun a u h => by rw [upd_ne (ne_of_none h hF)]; exact h⟩
 refine p I (upd F q (.tup vs)) (upd H q (.tup vs)) e ⟨rel.len, rel.nd, fun i a o h1 h2 => ?_, fun a u h => ?_, fun i a o h h0 hf => ?_, fun a u h => ?_, fun a u h => ?_, rel.gt⟩ _ ?_
 ·obtain ⟨u, h3, h4⟩ := rel.ob i a o h1 h2
  exact ⟨u, by rw [upd_ne (ne_of_none h3 hq)]; exact h3, lN.ext e h4⟩
 ·by_cases ha : a = q
  ·subst ha; rw [upd_same] at h ⊢; exact h
  ·rw [upd_ne ha] at h ⊢; exact rel.fz a u h
 ·obtain ⟨u, h3, _⟩ := rel.ob i a o h h0
  rw [upd_ne (ne_of_none h3 hq)]; exact rel.ap i a o h h0 hf
 ·rw [upd_ne (ne_of_none (rel.gz a u h) hq)]; exact rel.gz a u h
 ·rw [upd_ne (ne_of_none (rel.gz a u h) hq)]; exact rel.gf a u h
 ·simp only [aI]
  exact ⟨q, vs, rfl, upd_same, RepL.ext e _ _ r⟩
theorem RepL.eq_nil {K : PySem.W.Frag} {I : List Addr} {F : Hp} {ds : List D} (r : RepL K I F ds []) : ds = [] := by
 have := r.length
 exact List.eq_nil_of_length_eq_zero (by simpa using this)
theorem cH : O2 S (binaryOp .Add) bJ := jE fun X E c xo I F G d e w H x y Q rel rd re p => by
 cases d <;> cases e <;> first | exact p.elim | skip
 ·simp only [aI] at rd re
  exact ⟨_, op_add, _, _, rd, re, p I F H .refl rel _ (by simp [aI])⟩
 ·rename_i a b
  simp only [aI] at rd re
  simp only [bJ] at p
  split at p
  ·rename_i hl
   exact ⟨_, op_add_str, _, _, rd, re, hl, p I F H .refl rel _ (by simp [aI])⟩
  ·exact p.elim
 ·rename_i a b
  simp only [aI] at rd re
  obtain ⟨q, vs, rfl, h1, h2⟩ := rd
  obtain ⟨q', vs', rfl, h1', h2'⟩ := re
  simp only [bJ] at p
  split at p
  ·rename_i hl
   refine ⟨_, op_catA, q, q', vs, vs', rfl, rfl, .of (rel.fz _ _ h1), .of (rel.fz _ _ h1'), by rw [← h2.length, ← h2'.length]; exact hl, fun hn => ?_, fun _ hn => ?_, fun _ _ => ?_⟩
   ·subst hn
    obtain rfl := h2.eq_nil
    exact p I F H .refl rel _ (by simp only [aI, cq]; exact ⟨_, _, rfl, h1', h2'⟩)
   ·subst hn
    obtain rfl := h2'.eq_nil
    exact p I F H .refl rel _ (by simp only [aI, List.append_nil]; exact ⟨_, _, rfl, h1, h2⟩)
   ·exact BK rel (h2.append h2') p
  ·exact p.elim
 ·rename_i a b
  simp only [aI] at rd re
  obtain ⟨q, vs, rfl, h1, h2⟩ := rd
  obtain ⟨q', vs', rfl, h1', h2'⟩ := re
  simp only [bJ] at p
  split at p
  ·rename_i hl
   exact ⟨_, op_cat, q, q', vs, vs', rfl, rfl, rel.fz _ _ h1, rel.fz _ _ h1', by rw [← h2.length, ← h2'.length]; exact hl, oI rel (h2.append h2') p⟩
  ·exact p.elim
theorem RepL.rep {K : PySem.W.Frag} {I : List Addr} {F : Hp} {ds : List D} {vs : List V} (r : RepL K I F ds vs) : ∀ n : Nat, RepL K I F (List.replicate n ds).flatten (List.replicate n vs).flatten
 | 0 => by simp [RepL]
 | n + 1 => by
  rw [List.replicate_succ, List.replicate_succ, List.flatten_cons, List.flatten_cons]
  exact r.append (r.rep n)
theorem yD : O2 S (binaryOp .Mult) mulM := jE fun X E c xo I F G d e w H x y Q rel rd re p => by
 cases d <;> cases e <;> first | exact p.elim | skip
 ·rename_i a b
  simp only [aI] at rd re
  simp only [mulM] at p
  split at p
  ·rename_i hl
   refine ⟨_, op_mul, _, _, rd, re, ?_, p I F H .refl rel _ (by simp [aI])⟩
   simpa [GF, CMul] using hl
  ·exact p.elim
 ·rename_i a b
  simp only [aI] at rd re
  obtain ⟨q, vs, rfl, h1, h2⟩ := rd
  simp only [mulM] at p
  split at p
  ·rename_i hl
   exact ⟨_, op_rep, q, b, vs, rfl, re, rel.fz _ _ h1, hl.1, hl.2.1, by rw [← h2.length]; exact hl.2.2, oI rel (h2.rep _) p⟩
  ·exact p.elim
theorem aE3 : O2 S (compareOp .Eq) aGv := jE fun X E c xo I F G d e w H x y Q rel rd re p => by
 unfold aGv xF at p
 split at p
 ·rename_i b hb
  split at hb
  ·rename_i p1 q1 e1 e2
   split at hb
   ·rename_i hs
    cases hb
    exact ⟨_, op_eqD c.room.units, p1, q1, KS rel rd e1, KS rel re e2, hs.1, hs.2, p I F H .refl rel _ (by simp [aI])⟩
   ·cases hb
  ·cases hb
 ·exact p.elim
theorem aFC : O2 S (compareOp .NotEq) aFD := jE fun X E c xo I F G d e w H x y Q rel rd re p => by
 unfold aFD xF at p
 split at p
 ·rename_i b hb
  split at hb
  ·rename_i p1 q1 e1 e2
   split at hb
   ·rename_i hs
    cases hb
    exact ⟨_, op_neD c.room.units, p1, q1, KS rel rd e1, KS rel re e2, hs.1, hs.2, p I F H .refl rel _ (by simp [aI])⟩
   ·cases hb
  ·cases hb
 ·exact p.elim
theorem K0 {K : PySem.W.Frag} {I : List Addr} {F : Hp} {d : D} {v : V} (h : aI K I F d v) : decide (v = .non) = d.isNon := by
 cases d <;> simp only [aI] at h
 case non => subst h; rfl
 case bl => subst h; rfl
 case int => subst h; rfl
 case str => subst h; rfl
 case ty => subst h; rfl
 case con => subst h; rfl
 case tup => obtain ⟨a, vs, rfl, _⟩ := h; rfl
 case lst => obtain ⟨a, vs, rfl, _⟩ := h; rfl
 case pR => obtain ⟨a, vs, rfl, _⟩ := h; rfl
 case gY => obtain ⟨a, vs, rfl, _⟩ := h; rfl
 case xO => obtain ⟨a, vs, rfl, _⟩ := h; rfl
 case ref => obtain ⟨a, rfl, _⟩ := h; rfl
theorem aCR {x : D} {w : W} : isM x .non w = .ok (.bl x.isNon) w := by cases x <;> rfl
theorem UT {x : D} {w : W} : sL x .non w = .ok (.bl (!x.isNon)) w := by cases x <;> rfl
theorem G8 {n : Nat} {xs : List D} (h : n = xs.length) : ((List.range (min n 0)).all (fun _ => true) && n == 0) = xs.isEmpty := by
 subst h
 cases xs <;> simp
theorem EN {X : Cx} {pins : List (Addr × Obj)} {σ : L2.St} {H : Hp} {s : Shared} (J : Inv X pins σ H s) {a : Addr} {vs : List V} (h : H a = some (.tup vs)) : ∃ its : Array Value, s.heap.IsTuple a its ∧ its.size = vs.length := by
 obtain ⟨its, rv, ht, _⟩ := J.tuple (show SqT X.K H a vs from .of h)
 refine ⟨its.toArray, ht, ?_⟩
 rw [List.size_toArray]
 exact (Vals.length rv).symm
theorem EO {X : Cx} {pins : List (Addr × Obj)} {σ : L2.St} {H : Hp} {s : Shared} (J : Inv X pins σ H s) {a : Addr} {vs : List V} (h : H a = some (.lst vs)) : ∃ its : Array Value, s.heap.IsList a its ∧ its.size = vs.length := by
 obtain ⟨its, rv, ⟨o, n, ho, hc, _, hd⟩, _⟩ := J.list (show SqL X.K H a vs from .of h)
 refine ⟨its.toArray, ⟨o, ho, hc, n, hd⟩, ?_⟩
 rw [List.size_toArray]
 exact (Vals.length rv).symm
theorem vM : O2 S (compareOp .Eq) gO := fun X E c xo pins s σ H x y v u Q J rx ry ⟨I, F, G, d, e, w, rel, rd, re, p⟩ => by
 unfold gO tU at p
 cases h0 : xF d e w with
 | some b =>
  rw [h0] at p
  exact aE3 X E c xo pins s σ H x y v u Q J rx ry ⟨I, F, G, d, e, w, rel, rd, re, by unfold aGv; rw [h0]; exact p⟩
 | none =>
  rw [h0] at p
  simp only at p
  have hu : X.A.units < cLine := by have := c.room.units; omega
  unfold aAy at p
  split at p
  ·rename_i b hb
   split at hb
   ·rename_i xs
    cases hb
    simp only [aI, RepL] at rd re
    obtain ⟨a, vs, rfl, h2, h3⟩ := rd
    obtain ⟨b, us, rfl, h4, rfl⟩ := re
    obtain rfl : v = Value.ref a := rx
    obtain rfl : u = Value.ref b := ry
    obtain ⟨i1, t1, l1⟩ := EN J (rel.fz _ _ h2)
    obtain ⟨i2, t2, l2⟩ := EN J (rel.fz _ _ h4)
    have z : i2.size = 0 := l2
    refine SeqAt.eq_tupleAt (e := fun _ => true) t1 t2 hu (fun j h1 h2 => absurd h2 (by omega)) ?_
    rw [z, G8 (l1.trans h3.length.symm)]
    exact ⟨.bl xs.isEmpty, H, J, rfl, p I F H .refl rel _ (by simp [aI])⟩
   ·rename_i xs
    cases hb
    simp only [aI, RepL] at rd re
    obtain ⟨a, vs, rfl, h2, h3⟩ := rd
    obtain ⟨b, us, rfl, h4, rfl⟩ := re
    obtain rfl : v = Value.ref a := rx
    obtain rfl : u = Value.ref b := ry
    obtain ⟨i1, t1, l1⟩ := EO J (rel.fz _ _ h2)
    obtain ⟨i2, t2, l2⟩ := EO J (rel.fz _ _ h4)
    have z : i2.size = 0 := l2
    have lx : i1.size = xs.length := l1.trans h3.length.symm
    cases xs with
    | nil =>
     refine SeqAt.eq_listAt (e := fun _ => true) t1 t2 (lx.trans z.symm) hu (fun j h1 h2 => absurd h2 (by omega)) ?_
     have : (List.range i1.size).all (fun _ => true) = true := by simp
     rw [this]
     exact ⟨.bl true, H, J, rfl, p I F H .refl rel _ (by simp [aI])⟩
    | cons x xs =>
     refine SeqAt.eq_list_lengthsAt t1 t2 (by rw [lx, z]; rfl) hu ?_
     exact ⟨.bl false, H, J, rfl, p I F H .refl rel _ (by simp [aI])⟩
   ·cases hb
  ·exact p.elim
theorem tK : O2 S (compareOp .NotEq) pT := fun X E c xo pins s σ H x y v u Q J rx ry ⟨I, F, G, d, e, w, rel, rd, re, p⟩ => by
 unfold pT tU at p
 cases h0 : xF d e w with
 | some b =>
  rw [h0] at p
  exact aFC X E c xo pins s σ H x y v u Q J rx ry ⟨I, F, G, d, e, w, rel, rd, re, by unfold aFD; rw [h0]; exact p⟩
 | none =>
  rw [h0] at p
  simp only at p
  have hu : X.A.units < cLine := by have := c.room.units; omega
  unfold aAy at p
  split at p
  ·rename_i b hb
   split at hb
   ·rename_i xs
    cases hb
    simp only [aI, RepL] at rd re
    obtain ⟨a, vs, rfl, h2, h3⟩ := rd
    obtain ⟨b, us, rfl, h4, rfl⟩ := re
    obtain rfl : v = Value.ref a := rx
    obtain rfl : u = Value.ref b := ry
    obtain ⟨i1, t1, l1⟩ := EN J (rel.fz _ _ h2)
    obtain ⟨i2, t2, l2⟩ := EN J (rel.fz _ _ h4)
    have z : i2.size = 0 := l2
    refine SeqAt.RcNeAt.tuples (e := fun _ => true) t1 t2 hu (fun j h1 h2 => absurd h2 (by omega)) _ _ _ _ ?_
    rw [z, G8 (l1.trans h3.length.symm)]
    exact ⟨.bl (!xs.isEmpty), H, J, rfl, p I F H .refl rel _ (by simp [aI])⟩
   ·rename_i xs
    cases hb
    simp only [aI, RepL] at rd re
    obtain ⟨a, vs, rfl, h2, h3⟩ := rd
    obtain ⟨b, us, rfl, h4, rfl⟩ := re
    obtain rfl : v = Value.ref a := rx
    obtain rfl : u = Value.ref b := ry
    obtain ⟨i1, t1, l1⟩ := EO J (rel.fz _ _ h2)
    obtain ⟨i2, t2, l2⟩ := EO J (rel.fz _ _ h4)
    have z : i2.size = 0 := l2
    have lx : i1.size = xs.length := l1.trans h3.length.symm
    cases xs with
    | nil =>
     refine SeqAt.RcNeAt.lists (e := fun _ => true) t1 t2 (lx.trans z.symm) hu (fun j h1 h2 => absurd h2 (by omega)) _ _ _ _ ?_
     have : (List.range i1.size).all (fun _ => true) = true := by simp
     rw [this]
     exact ⟨.bl false, H, J, rfl, p I F H .refl rel _ (by simp [aI])⟩
    | cons x xs =>
     refine SeqAt.RcNeAt.lists_lengths t1 t2 (by rw [lx, z]; rfl) hu _ _ _ _ ?_
     exact ⟨.bl true, H, J, rfl, p I F H .refl rel _ (by simp [aI])⟩
   ·cases hb
  ·exact p.elim
theorem YM : O2 S (compareOp .Is) isM := jE fun X E c xo I F G d e w H x y Q rel rd re p => by
 cases e
 case non =>
  simp only [aCR] at p
  simp only [aI] at re
  exact ⟨_, op_isN, re, p I F H .refl rel _ (by simp [aI, K0 rd])⟩
 case bl b =>
  cases d <;> first | exact p.elim | skip
  simp only [aI] at rd re
  exact ⟨_, op_isBl, _, _, rd, re, p I F H .refl rel _ (by simp [aI])⟩
 all_goals (cases d <;> exact p.elim)
theorem RH : O2 S (compareOp .IsNot) sL := jE fun X E c xo I F G d e w H x y Q rel rd re p => by
 cases e
 case non =>
  simp only [UT] at p
  simp only [aI] at re
  exact ⟨_, op_notN, re, p I F H .refl rel _ (by simp [aI, K0 rd])⟩
 case bl b =>
  cases d <;> first | exact p.elim | skip
  simp only [aI] at rd re
  exact ⟨_, op_notBl, _, _, rd, re, p I F H .refl rel _ (by simp [aI])⟩
 all_goals (cases d <;> exact p.elim)
theorem UW : O1 S (unaryOp .USub) yR := fun X E c xo pins s σ H x v Q I rx ⟨J, F, G, d, w, rel, rd, p⟩ => by
 cases d <;> first | exact p.elim | skip
 simp only [aI] at rd
 exact un_neg pins s σ H x v Q I rx ⟨_, rd, p J F H .refl rel _ (by simp [aI])⟩
end
def oV (d : D) (w : W) : Option Bool := match d with
 | .non => some false
 | .bl b => some b
 | .int i => some (i != 0)
 | .str x => if x.length ≤ sizeLine then some ((x.length : Int) != 0) else none
 | .tup xs => some (!xs.isEmpty)
 | .lst xs => some (!xs.isEmpty)
 | .pR xs => some (!xs.isEmpty)
 | .gY xs => some (!xs.isEmpty)
 | .ref i => (match w[i]? with
  | some (.lst xs) => some (!xs.isEmpty)
  | some (.dK kvs) => some (!kvs.isEmpty)
  | _ => none)
 | _ => none
theorem RepL.isEmpty {K : PySem.W.Frag} {I : List Addr} {F : Hp} {ds : List D} {vs : List V} (r : RepL K I F ds vs) : vs.isEmpty = ds.isEmpty := by
 cases ds with
 | nil => simp only [RepL] at r; subst r; rfl
 | cons d ds => simp only [RepL] at r; obtain ⟨v, t, rfl, _⟩ := r; rfl
theorem aR.isEmpty {κ : Type} {K : PySem.W.Frag} {I : List Addr} {F : Hp} {ds : List (κ × D)} {vs : List (κ × V)} (r : aR K I F ds vs) : vs.isEmpty = ds.isEmpty := by
 cases ds with
 | nil => simp only [aR] at r; subst r; rfl
 | cons d ds => obtain ⟨k, d⟩ := d; simp only [aR] at r; obtain ⟨v, t, rfl, _⟩ := r; rfl
theorem aD8 {K : PySem.W.Frag} {I : List Addr} {F G H : Hp} {w : W} (rel : Rel K I F G w H) {d : D} {v : V} (h : aI K I F d v) {b : Bool} (e : oV d w = some b) : TruV K v H b := by
 cases d <;> simp only [aI] at h
 case non => subst h; simp only [oV, ah] at e; exact e.symm
 case bl => subst h; simp only [oV, ah] at e; exact e.symm
 case int => subst h; simp only [oV, ah] at e; exact e.symm
 case str x =>
  subst h
  simp only [oV] at e
  split at e
  ·rename_i hl
   cases e; exact ⟨hl, rfl⟩
  ·cases e
 case ty => cases e
 case con => cases e
 case xO => cases e
 case tup xs =>
  obtain ⟨a, vs, rfl, h1, h2⟩ := h
  simp only [oV, ah] at e
  exact .inr (.inl ⟨vs, .of (rel.fz _ _ h1), by rw [h2.isEmpty]; exact e.symm⟩)
 case gY xs =>
  obtain ⟨a, vs, rfl, h1, h2⟩ := h
  simp only [oV, ah] at e
  exact .inr (.inl ⟨vs, rel.Q8 h1, by rw [h2.isEmpty]; exact e.symm⟩)
 case lst xs =>
  obtain ⟨a, vs, rfl, h1, h2⟩ := h
  simp only [oV, ah] at e
  exact .inl ⟨vs, .of (rel.fz _ _ h1), by rw [h2.isEmpty]; exact e.symm⟩
 case pR xs =>
  obtain ⟨a, vs, rfl, h1, h2⟩ := h
  simp only [oV, ah] at e
  exact .inl ⟨vs, rel.sqL h1, by rw [h2.isEmpty]; exact e.symm⟩
 case ref i =>
  obtain ⟨a, rfl, h1⟩ := h
  simp only [oV] at e
  split at e
  ·rename_i xs hw
   cases e
   obtain ⟨u, hu, vs, rfl, h2⟩ := rel.ob i a _ h1 hw
   exact .inl ⟨vs, .of hu, by rw [h2.isEmpty]⟩
  ·rename_i kvs hw
   cases e
   obtain ⟨u, hu, vs, rfl, h2⟩ := rel.ob i a _ h1 hw
   exact .inr (.inr ⟨vs, hu, by rw [h2.isEmpty]⟩)
  ·cases e
def iO (d : D) (w : W) : Res Bool := match oV d w with
 | some b => .ok b w
 | none => .bad
def cU (m : ME) : MT := fun σ w => (m σ w).bind iO
def i4 (a b : MT) : MT := fun σ w => (a σ w).bind fun c w1 => if c = true then b σ w1 else .ok false w1
def fE (a b : MT) : MT := fun σ w => (a σ w).bind fun c w1 => if c = true then .ok true w1 else b σ w1
def bT (a : MT) : MT := fun σ w => (a σ w).bind fun c w1 => .ok (!c) w1
def jS (a b : ME) : ME := fun σ w => (a σ w).bind fun x w1 => (iO x w1).bind fun c _ => if c = true then b σ w1 else .ok x w1
def eOr (a b : ME) : ME := fun σ w => (a σ w).bind fun x w1 => (iO x w1).bind fun c _ => if c = true then .ok x w1 else b σ w1
def notM (x : D) (w : W) : Res D := (iO x w).bind fun c _ => .ok (.bl (!c)) w
def QD (t : MT) (a b : ME) : ME := fun σ w => (t σ w).bind fun c w1 => if c = true then a σ w1 else b σ w1
section
variable {S : aP} {pos : Pos} {a b c : Expr} {ma mb : ME} {ta tb : MT} {rest : List Expr}
theorem bY {α : Type} {K : PySem.W.Frag} {E : XK} {m : ME} {f : Sg → D → W → Res α} {I : List Addr} {F G H : Hp} {ds : Sg} {w : W} {σ : L2.St} {R : List Addr → Hp → Hp → α → W → Prop} (rel : Rel K I F G w H) (rs : gF K I F ds σ)
  (p : aY K I F G E R ((m ds w).bind (f ds))) {Q : VK} (k : ∀ I1 F1 H1 x w1 v, Ext I F I1 F1 → Rel K I1 F1 G w1 H1 → gF K I1 F1 ds σ → aI K I1 F1 x v → aY K I1 F1 G E R (f ds x w1) → Q v H1) : sQ K E m σ H Q :=
 ⟨I, F, G, ds, w, rel, rs, (aY.bind p).mono fun I1 F1 H1 x w1 _ e1 rel1 p1 v rv => k I1 F1 H1 x w1 v e1 rel1 (rs.ext e1) rv p1⟩
theorem rC {α : Type} {K : PySem.W.Frag} {E : XK} {m : MT} {f : Sg → Bool → W → Res α} {I : List Addr} {F G H : Hp} {ds : Sg} {w : W} {σ : L2.St} {R : List Addr → Hp → Hp → α → W → Prop} (rel : Rel K I F G w H) (rs : gF K I F ds σ)
  (p : aY K I F G E R ((m ds w).bind (f ds))) {Q : Bool → Hp → Prop} (k : ∀ I1 F1 H1 c w1, Ext I F I1 F1 → Rel K I1 F1 G w1 H1 → gF K I1 F1 ds σ → aY K I1 F1 G E R (f ds c w1) → Q c H1) : U9 K E m σ H Q :=
 ⟨I, F, G, ds, w, rel, rs, (aY.bind p).mono fun I1 F1 H1 x w1 _ e1 rel1 p1 => k I1 F1 H1 x w1 e1 rel1 (rs.ext e1) p1⟩
theorem fB {α : Type} {K : PySem.W.Frag} {E : XK} {m : MA} {f : Sg → List D → W → Res α} {I : List Addr} {F G H : Hp} {ds : Sg} {w : W} {σ : L2.St} {R : List Addr → Hp → Hp → α → W → Prop} (rel : Rel K I F G w H) (rs : gF K I F ds σ)
  (p : aY K I F G E R ((m ds w).bind (f ds))) {Q : List V → Hp → Prop} (k : ∀ I1 F1 H1 xs w1 vs, Ext I F I1 F1 → Rel K I1 F1 G w1 H1 → gF K I1 F1 ds σ → RepL K I1 F1 xs vs → aY K I1 F1 G E R (f ds xs w1) → Q vs H1) : aD5 K E m σ H Q :=
 ⟨I, F, G, ds, w, rel, rs, (aY.bind p).mono fun I1 F1 H1 x w1 _ e1 rel1 p1 v rv => k I1 F1 H1 x w1 v e1 rel1 (rs.ext e1) rv p1⟩
theorem aY.n5 {K : PySem.W.Frag} {I : List Addr} {F G H : Hp} {E : XK} {Q : VK} {d : D} {w : W} (p : aY K I F G E (RV K Q) (.ok d w)) (rel : Rel K I F G w H) {v : V} (h : aI K I F d v) : Q v H := p I F H .refl rel v h
theorem aY.okB {K : PySem.W.Frag} {I : List Addr} {F G H : Hp} {E : XK} {Q : Bool → Hp → Prop} {b : Bool} {w : W} (p : aY K I F G E (RB Q) (.ok b w)) (rel : Rel K I F G w H) : Q b H := p I F H .refl rel
theorem aY.truth {α : Type} {K : PySem.W.Frag} {I : List Addr} {F G H : Hp} {E : XK} {R : List Addr → Hp → Hp → α → W → Prop} {d : D} {w : W} {v : V} {f : Bool → W → Res α} (p : aY K I F G E R ((iO d w).bind f)) (rel : Rel K I F G w H) (h : aI K I F d v) :
  ∃ b, TruV K v H b ∧ aY K I F G E R (f b w) := by
 unfold iO at p
 split at p
 ·rename_i b e
  exact ⟨b, aD8 rel h e, p⟩
 ·exact p.elim
theorem cI (ha : JE S a ma) (he : ∀ (env : Env) (whole : Sem Value), isTrue a env whole = (do let v ← whole; standAt a.pos; holding [v] (truthy v)) := by intro _ _; rfl) : JT S a (cU ma) := fun X E cx xo =>
 EW (pt_truth (ha X E cx xo) (he X.env)) fun σ H Q ⟨I, F, G, ds, w, rel, rs, p⟩ => bY (f := fun _ => iO) rel rs p fun I1 F1 H1 x w1 v e1 rel1 rs1 rv p1 => by
  have p2 : aY X.K I1 F1 G E (RB Q) ((iO x w1).bind fun b w => .ok b w) := by
   cases h : iO x w1 <;> rw [h] at p1 <;> exact p1
  obtain ⟨b, hb, p3⟩ := p2.truth rel1 rv
  exact ⟨b, hb, p3.okB rel1⟩
theorem zN (h : JW S a ta) : JT S a ta := fun X E cx xo => (h X E cx xo).pt
theorem aEc (ha : JT S a ta) : JW S (.BoolOp .And [a] pos) ta := fun X E cx xo => pw_and1 (ha X E cx xo)
theorem lO (ha : JT S a ta) : JW S (.BoolOp .Or [a] pos) ta := fun X E cx xo => pw_or1 (ha X E cx xo)
theorem aFe (ha : JT S a ta) (hb : JW S (.BoolOp .And (b :: rest) pos) tb) : JW S (.BoolOp .And (a :: b :: rest) pos) (i4 ta tb) := fun X E cx xo =>
 WM (pw_and (ha X E cx xo) (hb X E cx xo)) fun σ H Q ⟨I, F, G, ds, w, rel, rs, p⟩ => rC (f := fun ds c w1 => if c = true then tb ds w1 else .ok false w1) rel rs p fun I1 F1 H1 c w1 e1 rel1 rs1 p1 => by
  cases c with
  | true => exact ⟨I1, F1, G, ds, w1, rel1, rs1, p1⟩
  | false => exact p1.okB rel1
theorem mQ (ha : JT S a ta) (hb : JW S (.BoolOp .Or (b :: rest) pos) tb) : JW S (.BoolOp .Or (a :: b :: rest) pos) (fE ta tb) := fun X E cx xo =>
 WM (pw_or (ha X E cx xo) (hb X E cx xo)) fun σ H Q ⟨I, F, G, ds, w, rel, rs, p⟩ => rC (f := fun ds c w1 => if c = true then .ok true w1 else tb ds w1) rel rs p fun I1 F1 H1 c w1 e1 rel1 rs1 p1 => by
  cases c with
  | true => exact p1.okB rel1
  | false => exact ⟨I1, F1, G, ds, w1, rel1, rs1, p1⟩
theorem eB (ha : JT S a ta) : JT S (.UnaryOp .Not a pos) (bT ta) := fun X E cx xo =>
 EW (pt_not (ha X E cx xo)) fun σ H Q ⟨I, F, G, ds, w, rel, rs, p⟩ => rC (f := fun _ c w1 => .ok (!c) w1) rel rs p fun I1 F1 H1 c w1 e1 rel1 rs1 p1 => p1.okB rel1
theorem yA {op : BoolOp} (h : JE S a ma) : JE S (.BoolOp op [a] pos) ma := fun X E cx xo => pe_one (h X E cx xo)
theorem sR (ha : JE S a ma) (hb : JE S (.BoolOp .And (b :: rest) pos) mb) : JE S (.BoolOp .And (a :: b :: rest) pos) (jS ma mb) := fun X E cx xo =>
 cR (pe_andT (ha X E cx xo) (hb X E cx xo)) fun σ H Q ⟨I, F, G, ds, w, rel, rs, p⟩ => bY (f := fun ds x w1 => (iO x w1).bind fun c _ => if c = true then mb ds w1 else .ok x w1) rel rs p fun I1 F1 H1 x w1 v e1 rel1 rs1 rv p1 => by
  obtain ⟨k, hk, p2⟩ := p1.truth rel1 rv
  refine ⟨k, hk, ?_⟩
  cases k with
  | true => exact ⟨I1, F1, G, ds, w1, rel1, rs1, p2⟩
  | false => exact p2.n5 rel1 rv
theorem GZ (ha : JE S a ma) : JE S (.UnaryOp .Not a pos) (A6 notM ma) := fun X E cx xo =>
 cR (pe_notT (ha X E cx xo)) fun σ H Q ⟨I, F, G, ds, w, rel, rs, p⟩ => bY (f := fun _ => notM) rel rs p fun I1 F1 H1 x w1 v e1 rel1 rs1 rv p1 => by
  obtain ⟨k, hk, p2⟩ := aY.truth p1 rel1 rv
  exact ⟨k, hk, p2.n5 rel1 (by simp [aI])⟩
theorem HA (ht : JT S c ta) (ha : JE S a ma) (hb : JE S b mb) : JE S (.IfExp c a b pos) (QD ta ma mb) := fun X E cx xo =>
 cR (pe_ifExp (ht X E cx xo) (ha X E cx xo) (hb X E cx xo)) fun σ H Q ⟨I, F, G, ds, w, rel, rs, p⟩ => rC (f := fun ds c w1 => if c = true then ma ds w1 else mb ds w1) rel rs p fun I1 F1 H1 c w1 e1 rel1 rs1 p1 => by
  cases c with
  | true => exact ⟨I1, F1, G, ds, w1, rel1, rs1, p1⟩
  | false => exact ⟨I1, F1, G, ds, w1, rel1, rs1, p1⟩
end
def aE : MA := fun _ w => .ok [] w
def aA (a : ME) (r : MA) : MA := fun σ w => (a σ w).bind fun x w1 => (r σ w1).bind fun xs w2 => .ok (x :: xs) w2
def bM (a : MA) : ME := fun σ w => (a σ w).bind fun xs w1 => if xs.length ≤ sizeLine then .ok (.tup xs) w1 else .bad
def eV (a : MA) : ME := fun σ w => (a σ w).bind fun xs w1 => if xs.length ≤ sizeLine then .ok (.lst xs) w1 else .bad
def eNew (a : MA) : ME := fun σ w => (a σ w).bind fun xs w1 => if xs.length ≤ sizeLine then .ok (.ref w1.length) (w1 ++ [.lst xs]) else .bad
theorem z9 {K : PySem.W.Frag} {I : List Addr} {F G H : Hp} {E : XK} {w : W} {o : MO} {u : HO} {Q : VK} (rel : Rel K I F G w H) (r : lN K I F o u) (p : aY K I F G E (RV K Q) (.ok (.ref w.length) (w ++ [o]))) : ∀ q, H q = none → Q (.ref q) (upd H q u) := fun q hq => by
 have hF : F q = none := by
  cases h : F q with
  | none => rfl
  | some u => rw [rel.fz _ _ h] at hq; cases hq
 have hI : q ∉ I := fun z => by
  obtain ⟨i, hi⟩ := List.mem_iff_getElem?.mp z
  have hl : i < w.length := by rw [← rel.len]; exact (aj.mp hi).1
  obtain ⟨u, h3, _⟩ := rel.ob i q _ hi (bz hl)
  rw [h3] at hq; cases hq
 have e : Ext I F (I ++ [q]) F := ⟨List.prefix_append _ _, fun _ _ h => h⟩
 refine p (I ++ [q]) F (upd H q u) e ⟨by simp [rel.len], ?_, fun i a o' h1 h2 => ?_, fun a u' h => ?_, fun i a o' h h0 hf => ?_, fun a u' h => ?_, fun a u' h => ?_, rel.gt⟩ _ ?_
 ·rw [List.nodup_append]
  exact ⟨rel.nd, by simp, fun a ha b hb => by simp at hb; subst hb; exact fun z => hI (z ▸ ha)⟩
 ·by_cases hi : i < I.length
  ·rw [av hi] at h1
   rw [av (by rw [← rel.len]; exact hi)] at h2
   obtain ⟨u', h3, h4⟩ := rel.ob i a o' h1 h2
   exact ⟨u', by rw [upd_ne (ne_of_none h3 hq)]; exact h3, lN.ext e h4⟩
  ·have hi2 : i = I.length := by
    have := (aj.mp h1).1
    simp at this; omega
   subst hi2
   rw [bw (bq _)] at h1
   simp at h1
   rw [rel.len, bw (bq _)] at h2
   simp at h2
   subst h1 h2
   exact ⟨u, upd_same, lN.ext e r⟩
 ·rw [upd_ne (ne_of_none h hF)]; exact rel.fz a u' h
 ·by_cases hi : i < I.length
  ·rw [av hi] at h
   rw [av (by rw [← rel.len]; exact hi)] at h0
   exact rel.ap i a o' h h0 hf
  ·have hi2 : i = I.length := by
    have := (aj.mp h).1
    simp at this; omega
   subst hi2
   rw [bw (bq _)] at h
   simp at h
   subst h; exact hF
 ·rw [upd_ne (ne_of_none (rel.gz a u' h) hq)]; exact rel.gz a u' h
 ·refine ⟨(rel.gf a u' h).1, fun z => ?_⟩
  rcases dh.mp z with z | z
  ·exact (rel.gf a u' h).2 z
  ·simp at z; subst z; rw [rel.gz a u' h] at hq; cases hq
 ·simp only [aI]
  refine ⟨q, rfl, ?_⟩
  rw [← rel.len, bw (bq _)]
  simp
section
variable {S : aP} {pos : Pos} {e : Expr} {es : List Expr} {m : ME} {ma : MA}
theorem aH : JA S [] aE := fun X E cx xo => X7 pa_nil fun σ H Q ⟨I, F, G, ds, w, rel, rs, p⟩ => p I F H .refl rel [] (by simp [RepL])
theorem aC (he : JE S e m) (hr : JA S es ma) (hs : ∀ env : Env, starEach (e :: es) env = (false, eval e env) :: starEach es env := by intro _; rfl) : JA S (e :: es) (aA m ma) := fun X E cx xo =>
 X7 (pa_cons (he X E cx xo) (hr X E cx xo) (hs X.env)) fun σ H Q ⟨I, F, G, ds, w, rel, rs, p⟩ =>
  bY (f := fun ds x w1 => (ma ds w1).bind fun xs w2 => .ok (x :: xs) w2) rel rs p fun I1 F1 H1 x w1 v e1 rel1 rs1 rv p1 =>
   fB (f := fun _ xs w2 => .ok (x :: xs) w2) rel1 rs1 p1 fun I2 F2 H2 xs w2 vs e2 rel2 rs2 rvs p2 => p2 I2 F2 H2 .refl rel2 _ (RepL.cons (aI.ext e2 _ _ rv) rvs)
theorem dC {k : Nat} (h : JA S es ma) : JE S (.Tuple es k pos) (bM ma) := fun X E cx xo =>
 cR (pe_tup (h X E cx xo)) fun σ H Q ⟨I, F, G, ds, w, rel, rs, p⟩ =>
  fB (f := fun _ xs w1 => if xs.length ≤ sizeLine then Res.ok (D.tup xs) w1 else .bad) rel rs p fun I1 F1 H1 xs w1 vs e1 rel1 rs1 rvs p1 => by
   split at p1
   ·rename_i hl
    exact ⟨by rw [← rvs.length]; exact hl, BK rel1 rvs p1⟩
   ·exact p1.elim
theorem dA (h : JA S es ma) : JE S (.List es pos) (eV ma) := fun X E cx xo =>
 cR (pe_lst (h X E cx xo)) fun σ H Q ⟨I, F, G, ds, w, rel, rs, p⟩ =>
  fB (f := fun _ xs w1 => if xs.length ≤ sizeLine then Res.ok (D.lst xs) w1 else .bad) rel rs p fun I1 F1 H1 xs w1 vs e1 rel1 rs1 rvs p1 => by
   split at p1
   ·rename_i hl
    exact ⟨by rw [← rvs.length]; exact hl, oI rel1 rvs p1⟩
   ·exact p1.elim
theorem UK (h : JA S es ma) : JE S (.List es pos) (eNew ma) := fun X E cx xo =>
 cR (pe_lst (h X E cx xo)) fun σ H Q ⟨I, F, G, ds, w, rel, rs, p⟩ =>
  fB (f := fun _ xs w1 => if xs.length ≤ sizeLine then Res.ok (D.ref w1.length) (w1 ++ [.lst xs]) else .bad) rel rs p fun I1 F1 H1 xs w1 vs e1 rel1 rs1 rvs p1 => by
   split at p1
   ·rename_i hl
    exact ⟨by rw [← rvs.length]; exact hl, z9 (o := .lst xs) rel1 ⟨vs, rfl, rvs⟩ p1⟩
   ·exact p1.elim
end
def aX : MS := fun σ w => .ok (.nx σ) w
def aK (a b : MS) : MS := fun σ w => (a σ w).bind fun f w1 => match f with
 | .nx σ1 => b σ1 w1
 | f => .ok f w1
def a7 (e : ME) : MS := fun σ w => (e σ w).bind fun d w1 => .ok (.rt d) w1
def cV (e : ME) : MS := fun σ w => (e σ w).bind fun _ w1 => .ok (.nx σ) w1
def dX (t : MT) (a b : MS) : MS := fun σ w => (t σ w).bind fun c w1 => if c = true then a σ w1 else b σ w1
abbrev MG := D → Sg → W → Res Sg
def aU (i : Nat) : MG := fun d σ w => .ok (σ.set i (some d)) w
def aT (e : ME) (g : MG) : MS := fun σ w => (e σ w).bind fun d w1 => (g d σ w1).bind fun σ2 w2 => .ok (.nx σ2) w2
def N7 : MS := fun _ _ => .bad
def RSg (K : PySem.W.Frag) (Q : L2.St → Hp → Prop) : List Addr → Hp → Hp → Sg → W → Prop := fun I' F' H' s _ => ∀ s', gF K I' F' s s' → Q s' H'
def lowG (K : PySem.W.Frag) (E : XK) (g : MG) : TG := fun v σ H Q => ∃ I F G d ds w, Rel K I F G w H ∧ gF K I F ds σ ∧ aI K I F d v ∧ aY K I F G E (RSg K Q) (g d ds w)
def JG (S : aP) (t : Expr) (g : MG) : Prop := ∀ X E, Ctx S X → pI X E → PG X t (lowG X.K E g)
theorem BH {X : Cx} {e : Expr} {t t' : TG} (h : PG X e t) (k : ∀ v σ H Q, t' v σ H Q → t v σ H Q) : PG X e t' := ⟨fun pins s σ H v u Q I r q => h.run pins s σ H v u Q I r (k v σ H Q q)⟩
section
variable {S : aP} {pos pos' : Pos} {e : Expr} {st : Stmt} {sts : List Stmt} {m : ME} {a b : MS} {g : MG} {t : MT}
theorem cZ : rR S [] aX := fun X E cx xo => PQ pss_nil fun Z σ H ⟨I, F, G, ds, w, rel, rs, p⟩ => p I F H .refl rel _ rs
theorem aBm {K : PySem.W.Frag} {E : XK} {Z : Ends} {σ : L2.St} {H : Hp} (h : IS K E (aK a b) Z σ H) : IS K E a { Z with nx := IS K E b Z } σ H := by
 obtain ⟨I, F, G, ds, w, rel, rs, p⟩ := h
 refine ⟨I, F, G, ds, w, rel, rs, (aY.bind p).mono fun I1 F1 H1 f w1 _ e1 rel1 p1 => ?_⟩
 cases f with
 | nx s => exact fun s' rs' => ⟨I1, F1, G, s, w1, rel1, rs', p1⟩
 | rt d => exact fun v rv => p1 I1 F1 H1 .refl rel1 v rv
 | bk s => exact fun s' rs' => p1 I1 F1 H1 .refl rel1 s' rs'
 | ct s => exact fun s' rs' => p1 I1 F1 H1 .refl rel1 s' rs'
theorem aO (h1 : JS S st a) (h2 : rR S sts b) : rR S (st :: sts) (aK a b) := fun X E cx xo =>
 PQ (pss_cons (h1 X E cx xo) (h2 X E cx xo)) fun Z σ H h => aBm h
theorem aZ (h1 : JS S st a) : rR S [st] a := fun X E cx xo => pss_one (h1 X E cx xo)
theorem bQ (he : JE S e m) : JS S (.Return (some e) pos) (a7 m) := fun X E cx xo =>
 kQ (ps_ret (he X E cx xo)) fun Z σ H ⟨I, F, G, ds, w, rel, rs, p⟩ => bY (f := fun _ d w1 => Res.ok (Fl.rt d) w1) rel rs p fun I1 F1 H1 x w1 v e1 rel1 rs1 rv p1 => p1 I1 F1 H1 .refl rel1 v rv
theorem sV (he : JE S e m) (hs : ∀ env : Env, swapsWith e none pos.line env = pure false := by intro _; rfl) : JS S (.Expr e pos) (cV m) := fun X E cx xo =>
 kQ (ps_expr (he X E cx xo) (hs X.env)) fun Z σ H ⟨I, F, G, ds, w, rel, rs, p⟩ => bY (f := fun ds _ w1 => Res.ok (Fl.nx ds) w1) rel rs p fun I1 F1 H1 x w1 v e1 rel1 rs1 rv p1 => p1 I1 F1 H1 .refl rel1 σ rs1
theorem gH {x : Expr} {sa sb : List Stmt} (ht : JT S x t) (ha : rR S sa a) (hb : rR S sb b) : JS S (.If x sa sb pos) (dX t a b) := fun X E cx xo =>
 kQ (ps_if (ht X E cx xo) (ha X E cx xo) (hb X E cx xo)) fun Z σ H ⟨I, F, G, ds, w, rel, rs, p⟩ => rC (f := fun ds c w1 => if c = true then a ds w1 else b ds w1) rel rs p fun I1 F1 H1 c w1 e1 rel1 rs1 p1 => by
  cases c with
  | true => exact ⟨I1, F1, G, ds, w1, rel1, rs1, p1⟩
  | false => exact ⟨I1, F1, G, ds, w1, rel1, rs1, p1⟩
theorem aCg : JS S st N7 := fun X E cx xo => kQ ps_never fun Z σ H ⟨I, F, G, ds, w, rel, rs, p⟩ => p.elim
def Sto (S : aP) (x : Str) : Prop := Loc S.sc x ∧ (S.fn x = true ∨ S.sc.names.lookup x = some .local)
theorem aDU {i : Nat} {x : Str} (hi : S.N[i]? = some x) (hx : Sto S x) : JG S (.Name x pos) (aU i) := fun X E cx xo =>
 BH (pg_name (i := i) (x := x) cx.nd (by rw [cx.N]; exact hi) (by rw [cx.sc]; exact hx.1) (by rw [cx.sc]; exact hx.2.imp (cx.fn x) id)) fun v σ H Q ⟨I, F, G, d, ds, w, rel, rs, rv, p⟩ => p I F H .refl rel _ (rs.set i rv)
theorem XY {K : PySem.W.Frag} {E : XK} {Z : Ends} {σ : L2.St} {H : Hp} (h : IS K E (aT m g) Z σ H) : sQ K E m σ H fun v H1 => lowG K E g v σ H1 Z.nx := by
 obtain ⟨I, F, G, ds, w, rel, rs, p⟩ := h
 exact bY (f := fun ds d w1 => (g d ds w1).bind fun σ2 w2 => Res.ok (Fl.nx σ2) w2) rel rs p fun I1 F1 H1 x w1 v e1 rel1 rs1 rv p1 =>
  ⟨I1, F1, G, x, ds, w1, rel1, rs1, rv, (aY.bind p1).mono fun I2 F2 H2 s w2 _ e2 rel2 p2 s' rs2 => p2 I2 F2 H2 .refl rel2 s' rs2⟩
theorem aFE {i : Nat} {x : Str} (hi : S.N[i]? = some x) (hx : Sto S x) (he : JE S e m) (hs : ∀ env : Env, swapsWith e (some (.Name x pos')) pos.line env = pure false := by intro _; rfl) : JS S (.Assign [.Name x pos'] e pos) (aT m (aU i)) := fun X E cx xo =>
 kQ (ps_set (i := i) (x := x) cx.nd (by rw [cx.N]; exact hi) (by rw [cx.sc]; exact hx.1) (he X E cx xo) (hs X.env) (by rw [cx.sc]; exact hx.2.imp (cx.fn x) id)) fun Z σ H ⟨I, F, G, ds, w, rel, rs, p⟩ =>
  bY (f := fun ds d w1 => (aU i d ds w1).bind fun σ2 w2 => Res.ok (Fl.nx σ2) w2) rel rs p fun I1 F1 H1 x w1 v e1 rel1 rs1 rv p1 => p1 I1 F1 H1 .refl rel1 _ (rs1.set i rv)
theorem CP {tg : Expr} (he : JE S e m) (hg : JG S tg g) (hs : ∀ env : Env, swapsWithSole [tg] e pos.line env = pure false := by intro _; rfl) (hw : ∀ env : Env, swappedStores [tg] e env = pure none := by intro _; rfl)
  (h1 : ∀ env : Env, (assignEach [tg] env).map (·.2) = [assign tg env] := by intro _; rfl) : JS S (.Assign [tg] e pos) (aT m g) := fun X E cx xo =>
 kQ (ps_asg (he X E cx xo) (hg X E cx xo) (hs X.env) (hw X.env) (h1 X.env)) fun Z σ H h => XY h
end
abbrev Y8 := List D → Sg → W → Res Sg
def cA : Y8 := fun ds σ w => match ds with
 | [] => .ok σ w
 | _ => .bad
def aL (g : MG) (r : Y8) : Y8 := fun ds σ w => match ds with
 | d :: ds => (g d σ w).bind fun σ1 w1 => r ds σ1 w1
 | [] => .bad
def cC (n : Nat) (r : Y8) : MG := fun d σ w => match d with
 | .tup xs => if xs.length = n then r xs σ w else .bad
 | .gY xs => if xs.length = n then r xs σ w else .bad
 | _ => .bad
def aHL (K : PySem.W.Frag) (E : XK) (g : Y8) : TGs := fun vs σ H Q => ∃ I F G xs ds w, Rel K I F G w H ∧ gF K I F ds σ ∧ RepL K I F xs vs ∧ aY K I F G E (RSg K Q) (g xs ds w)
def JGs (S : aP) (ts : List Expr) (g : Y8) : Prop := ∀ X E, Ctx S X → pI X E → PGs X ts (aHL X.K E g)
theorem zK {X : Cx} {e : List Expr} {t t' : TGs} (h : PGs X e t) (k : ∀ v σ H Q, t' v σ H Q → t v σ H Q) : PGs X e t' := ⟨fun pins s σ H v u Q I r q => h.run pins s σ H v u Q I r (k v σ H Q q)⟩
section
variable {S : aP} {pos pos' : Pos} {e : Expr} {es : List Expr} {g : MG} {r : Y8}
theorem BB : JGs S [] cA := fun X E cx xo => zK pgs_nil fun vs σ H Q ⟨I, F, G, xs, ds, w, rel, rs, rv, p⟩ => by
 cases xs with
 | nil =>
  simp only [RepL] at rv
  exact ⟨rv, p I F H .refl rel _ rs⟩
 | cons => exact p.elim
theorem iK (h1 : JG S e g) (h2 : JGs S es r) (hs : ∀ env : Env, (assignEach (e :: es) env).map (·.2) = assign e env :: (assignEach es env).map (·.2) := by intro _; rfl) : JGs S (e :: es) (aL g r) := fun X E cx xo =>
 zK (pgs_cons (h1 X E cx xo) (h2 X E cx xo) (hs X.env)) fun vs σ H Q ⟨I, F, G, xs, ds, w, rel, rs, rv, p⟩ => by
  cases xs with
  | nil => exact p.elim
  | cons x xs =>
   simp only [RepL] at rv
   obtain ⟨v, t, rfl, rv1, rvs⟩ := rv
   exact ⟨v, t, rfl, I, F, G, x, ds, w, rel, rs, rv1, (aY.bind p).mono fun I1 F1 H1 s w1 _ e1 rel1 p1 s' rs1 => ⟨I1, F1, G, xs, s, w1, rel1, rs1, RepL.ext e1 _ _ rvs, p1⟩⟩
theorem FF {k n : Nat} (h : JGs S es r) (hn : ∀ env : Env, (assignEach es env).length = n := by intro _; rfl) (hst : ∀ env : Env, (assignEach es env).findIdx? (·.1) = none := by intro _; rfl) : JG S (.Tuple es k pos) (cC n r) := fun X E cx xo =>
 BH (pg_tup cx.calm (h X E cx xo) (hn X.env) (hst X.env)) fun v σ H Q ⟨I, F, G, d, ds, w, rel, rs, rv, p⟩ => by
  cases d <;> first | exact p.elim | skip
  all_goals
   rename_i xs
   simp only [aI] at rv
   obtain ⟨a, vs, rfl, h1, h2⟩ := rv
   simp only [cC] at p
   split at p
   ·rename_i hl
    exact ⟨a, vs, rfl, (by first | exact .of (rel.fz _ _ h1) | exact rel.Q8 h1), by rw [← h2.length]; exact hl, I, F, G, xs, ds, w, rel, rs, h2, p⟩
   ·exact p.elim
end
mutual
def D.cl (n : Nat) : D → Bool
 | .tup xs => D.cls n xs
 | .lst xs => D.cls n xs
 | .pR xs => D.cls n xs
 | .gY xs => D.cls n xs
 | .xO ks xs => D.cls n ks && D.cls n xs
 | .ref i => decide (i < n)
 | .non => true
 | .bl _ => true
 | .int _ => true
 | .str _ => true
 | .ty _ => true
 | .con _ => true
def D.cls (n : Nat) : List D → Bool
 | [] => true
 | d :: ds => D.cl n d && D.cls n ds
end
def MO.cl (n : Nat) : MO → Bool
 | .lst xs => D.cls n xs
 | .dK kvs => D.cls n (kvs.map (·.2))
 | .dT kvs => D.cls n (kvs.map (·.2))
 | .dF kvs => D.cls n (kvs.map (·.2))
 | .dG kvs => D.cls n (kvs.map (·.2))
 | .ins _ fs => D.cls n (fs.map (·.2))
section
variable {K : PySem.W.Frag} {I : List Addr} {F : Hp} {n : Nat}
theorem aBV {n i : Nat} {a : Addr} (h : I[i]? = some a) (hi : i < n) : (I.take n)[i]? = some a := by
 rw [List.getElem?_take_of_lt hi]; exact h
mutual
theorem aI.cut : ∀ (d : D) (v : V), aI K I F d v → d.cl n = true → aI K (I.take n) F d v
 | .non, _, h, _ => by simpa only [aI] using h
 | .bl _, _, h, _ => by simpa only [aI] using h
 | .int _, _, h, _ => by simpa only [aI] using h
 | .str _, _, h, _ => by simpa only [aI] using h
 | .ty _, _, h, _ => by simpa only [aI] using h
 | .con _, _, h, _ => by simpa only [aI] using h
 | .tup xs, v, h, c => by
  simp only [aI, D.cl] at h c ⊢
  obtain ⟨a, vs, h1, h2, h3⟩ := h
  exact ⟨a, vs, h1, h2, RepL.cut xs vs h3 c⟩
 | .lst xs, v, h, c => by
  simp only [aI, D.cl] at h c ⊢
  obtain ⟨a, vs, h1, h2, h3⟩ := h
  exact ⟨a, vs, h1, h2, RepL.cut xs vs h3 c⟩
 | .pR xs, v, h, c => by
  simp only [aI, D.cl] at h c ⊢
  obtain ⟨a, vs, h1, h2, h3⟩ := h
  exact ⟨a, vs, h1, h2, RepL.cut xs vs h3 c⟩
 | .gY xs, v, h, c => by
  simp only [aI, D.cl] at h c ⊢
  obtain ⟨a, vs, h1, h2, h3⟩ := h
  exact ⟨a, vs, h1, h2, RepL.cut xs vs h3 c⟩
 | .xO ks xs, v, h, c => by
  simp only [aI, D.cl, ak] at h c ⊢
  obtain ⟨a, kvs, h1, h2, h3, h4⟩ := h
  exact ⟨a, kvs, h1, h2, RepL.cut ks _ h3 c.1, RepL.cut xs _ h4 c.2⟩
 | .ref i, v, h, c => by
  simp only [aI, D.cl, aq] at h c ⊢
  obtain ⟨a, h1, h2⟩ := h
  exact ⟨a, h1, aBV h2 c⟩
theorem RepL.cut : ∀ (ds : List D) (vs : List V), RepL K I F ds vs → D.cls n ds = true → RepL K (I.take n) F ds vs
 | [], _, h, _ => by simpa only [RepL] using h
 | d :: ds, vs, h, c => by
  simp only [RepL, D.cls, ak] at h c ⊢
  obtain ⟨v, r, h1, h2, h3⟩ := h
  exact ⟨v, r, h1, aI.cut d v h2 c.1, RepL.cut ds r h3 c.2⟩
end
theorem aR.cut {κ : Type} : ∀ (ds : List (κ × D)) (vs : List (κ × V)), aR K I F ds vs → D.cls n (ds.map (·.2)) = true → aR K (I.take n) F ds vs
 | [], _, h, _ => by simpa only [aR] using h
 | (k, d) :: ds, vs, h, c => by
  simp only [aR, cg, D.cls, ak] at h c ⊢
  obtain ⟨v, r, h1, h2, h3⟩ := h
  exact ⟨v, r, h1, aI.cut d v h2 c.1, aR.cut ds r h3 c.2⟩
theorem lN.cut {o : MO} {u : HO} (h : lN K I F o u) (c : o.cl n = true) : lN K (I.take n) F o u := by
 cases o with
 | lst xs => obtain ⟨vs, h1, h2⟩ := h; exact ⟨vs, h1, RepL.cut _ _ h2 c⟩
 | dK xs => obtain ⟨vs, h1, h2⟩ := h; exact ⟨vs, h1, aR.cut _ _ h2 c⟩
 | dT xs => obtain ⟨vs, h1, h2⟩ := h; exact ⟨vs, h1, aR.cut _ _ h2 c⟩
 | dF xs => obtain ⟨o, vs, h1, h2⟩ := h; exact ⟨o, vs, h1, aR.cut _ _ h2 c⟩
 | dG xs => obtain ⟨o, vs, h1, h2⟩ := h; exact ⟨o, vs, h1, aR.cut _ _ h2 c⟩
 | ins C xs => obtain ⟨dx, vs, h1, h2⟩ := h; exact ⟨dx, vs, h1, aR.cut _ _ h2 c⟩
mutual
theorem aI.cl : ∀ (d : D) (v : V), aI K I F d v → I.length ≤ n → d.cl n = true
 | .non, _, _, _ => by simp [D.cl]
 | .bl _, _, _, _ => by simp [D.cl]
 | .int _, _, _, _ => by simp [D.cl]
 | .str _, _, _, _ => by simp [D.cl]
 | .ty _, _, _, _ => by simp [D.cl]
 | .con _, _, _, _ => by simp [D.cl]
 | .tup xs, v, h, l => by
  simp only [aI, D.cl] at h ⊢
  obtain ⟨a, vs, h1, h2, h3⟩ := h
  exact RepL.cl xs vs h3 l
 | .lst xs, v, h, l => by
  simp only [aI, D.cl] at h ⊢
  obtain ⟨a, vs, h1, h2, h3⟩ := h
  exact RepL.cl xs vs h3 l
 | .pR xs, v, h, l => by
  simp only [aI, D.cl] at h ⊢
  obtain ⟨a, vs, h1, h2, h3⟩ := h
  exact RepL.cl xs vs h3 l
 | .gY xs, v, h, l => by
  simp only [aI, D.cl] at h ⊢
  obtain ⟨a, vs, h1, h2, h3⟩ := h
  exact RepL.cl xs vs h3 l
 | .xO ks xs, v, h, l => by
  simp only [aI, D.cl, ak] at h ⊢
  obtain ⟨a, kvs, h1, h2, h3, h4⟩ := h
  exact ⟨RepL.cl ks _ h3 l, RepL.cl xs _ h4 l⟩
 | .ref i, v, h, l => by
  simp only [aI, D.cl, aq] at h ⊢
  obtain ⟨a, h1, h2⟩ := h
  have := (aj.mp h2).1
  omega
theorem RepL.cl : ∀ (ds : List D) (vs : List V), RepL K I F ds vs → I.length ≤ n → D.cls n ds = true
 | [], _, _, _ => by simp [D.cls]
 | d :: ds, vs, h, l => by
  simp only [RepL, D.cls, ak] at h ⊢
  obtain ⟨v, r, h1, h2, h3⟩ := h
  exact ⟨aI.cl d v h2 l, RepL.cl ds r h3 l⟩
end
theorem aR.cl {κ : Type} : ∀ (ds : List (κ × D)) (vs : List (κ × V)), aR K I F ds vs → I.length ≤ n → D.cls n (ds.map (·.2)) = true
 | [], _, _, _ => by simp [D.cls]
 | (k, d) :: ds, vs, h, l => by
  simp only [aR, cg, D.cls, ak] at h ⊢
  obtain ⟨v, r, h1, h2, h3⟩ := h
  exact ⟨aI.cl d v h2 l, aR.cl ds r h3 l⟩
theorem lN.cl {o : MO} {u : HO} (h : lN K I F o u) (l : I.length ≤ n) : o.cl n = true := by
 cases o with
 | lst xs => obtain ⟨vs, h1, h2⟩ := h; exact RepL.cl _ _ h2 l
 | dK xs => obtain ⟨vs, h1, h2⟩ := h; exact aR.cl _ _ h2 l
 | dT xs => obtain ⟨vs, h1, h2⟩ := h; exact aR.cl _ _ h2 l
 | dF xs => obtain ⟨o, vs, h1, h2⟩ := h; exact aR.cl _ _ h2 l
 | dG xs => obtain ⟨o, vs, h1, h2⟩ := h; exact aR.cl _ _ h2 l
 | ins C xs => obtain ⟨dx, vs, h1, h2⟩ := h; exact aR.cl _ _ h2 l
end
def aE1 (w0 w : W) : Prop := w0.length ≤ w.length ∧ ∀ (i : Nat) (o : MO), w[i]? = some o → w0[i]? = some o ∨ o.cl w.length = true
def XD.cl (n : Nat) (x : XD) : Bool := match x.fs with
 | none => true
 | some fs => D.cls n (fs.map (·.2))
def Fits (w0 : W) (r r' : Res D) : Prop := match r with
 | .bad => True
 | .ok d w => ∃ g, r' = .ok d (w ++ g) ∧ (g = [] ∨ (d.cl w.length = true ∧ aE1 w0 w))
 | .HW x w => ∃ g, r' = .HW x (w ++ g) ∧ (g = [] ∨ (x.cl w.length = true ∧ aE1 w0 w))
theorem Fits.kS {w0 : W} {r : Res D} : Fits w0 r r := by
 cases r with
 | ok d w => exact ⟨[], by simp, .inl rfl⟩
 | HW x w => exact ⟨[], by simp, .inl rfl⟩
 | bad => trivial
theorem Fits.of_eq {w0 : W} {r r' : Res D} (h : r' = r) : Fits w0 r r' := h ▸ Fits.kS
theorem WQ {K : PySem.W.Frag} {I I' : List Addr} {F F' G H H' : Hp} {w0 w g : W} (rel0 : Rel K I F G w0 H) (e : Ext I F I' F') (rel : Rel K I' F' G (w ++ g) H') (s : aE1 w0 w) : Ext I F (I'.take w.length) F' ∧ Rel K (I'.take w.length) F' G w H' := by
 have hl : I'.length = w.length + g.length := by rw [rel.len, cw]
 have e2 : Ext I F (I'.take w.length) F' := ⟨by
  obtain ⟨t, rfl⟩ := e.i
  rw [List.take_append, List.take_of_length_le (by rw [rel0.len]; exact s.1)]
  exact List.prefix_append _ _, e.f⟩
 refine ⟨e2, ⟨by simp [hl], rel.nd.sublist (List.take_sublist _ _), fun i a o h1 h2 => ?_, rel.fz, fun i a o h h0 hf => rel.ap i a o (List.getElem?_take_of_lt (aj.mp h0).1 ▸ h) (by rw [av (aj.mp h0).1]; exact h0) hf, rel.gz, fun a u h => ⟨(rel.gf a u h).1, fun z => (rel.gf a u h).2 (List.mem_of_mem_take z)⟩, rel.gt⟩⟩
 have hi : i < w.length := (aj.mp h2).1
 rw [List.getElem?_take_of_lt hi] at h1
 obtain ⟨u, h3, h4⟩ := rel.ob i a o h1 (by rw [av hi]; exact h2)
 refine ⟨u, h3, ?_⟩
 rcases s.2 i o h2 with q | q
 ·refine lN.cut h4 ?_
  have hi0 : i < w0.length := (aj.mp q).1
  obtain ⟨u0, _, h6⟩ := rel0.ob i _ o (bz (by rw [rel0.len]; exact hi0)) q
  exact h6.cl (by rw [rel0.len]; exact s.1)
 ·exact lN.cut h4 q
theorem E1.cut {K : PySem.W.Frag} {I : List Addr} {F H : Hp} {x : XD} {c : Value} {d : Option Addr} {n : Nat} (h : E1 K (I.take n) F H x c d) (hn : n ≤ I.length) : E1 K I F H x c d := by
 have e : Ext (I.take n) F I F := ⟨List.take_prefix _ _, fun _ _ h => h⟩
 obtain ⟨h1, h2⟩ := h
 refine ⟨h1, ?_⟩
 cases hf : x.fs with
 | none => rw [hf] at h2; exact h2
 | some fs =>
  rw [hf] at h2
  obtain ⟨a, r, q1, q2, q3⟩ := h2
  exact ⟨a, r, q1, q2, aR.ext e _ _ q3⟩
theorem E1.aIK {K : PySem.W.Frag} {I : List Addr} {F H : Hp} {x : XD} {c : Value} {d : Option Addr} {n : Nat} (h : E1 K I F H x c d) (hx : x.cl n = true) : E1 K (I.take n) F H x c d := by
 obtain ⟨h1, h2⟩ := h
 refine ⟨h1, ?_⟩
 unfold XD.cl at hx
 cases hf : x.fs with
 | none => rw [hf] at h2; exact h2
 | some fs =>
  rw [hf] at h2 hx
  obtain ⟨a, r, q1, q2, q3⟩ := h2
  exact ⟨a, r, q1, q2, aR.cut _ _ q3 hx⟩
theorem aY.fits {K : PySem.W.Frag} {I : List Addr} {F G H : Hp} {E : XK} {Q : VK} {w0 : W} {r r' : Res D} (rel0 : Rel K I F G w0 H) (p : aY K I F G E (RV K Q) r) (f : Fits w0 r r') : aY K I F G E (RV K Q) r' := by
 cases r with
 | bad => exact p.elim
 | ok d w =>
  obtain ⟨g, rfl, hg⟩ := f
  rcases hg with rfl | ⟨hd, hs⟩
  ·rw [List.append_nil]; exact p
  ·intro I' F' H' e rel v rv
   obtain ⟨e2, rel2⟩ := WQ rel0 e rel hs
   exact p _ F' H' e2 rel2 v (aI.cut d v rv hd)
 | HW x w =>
  obtain ⟨g, rfl, hg⟩ := f
  rcases hg with rfl | ⟨hd, hs⟩
  ·rw [List.append_nil]; exact p
  ·intro I' F' H' c d e rel rx
   obtain ⟨e2, rel2⟩ := WQ rel0 e rel hs
   exact p _ F' H' c d e2 rel2 (E1.aIK rx hd)
abbrev MF := List D → W → Res D
def spM (K : PySem.W.Frag) (m : MF) : Sp := fun vs H Q E => ∃ I F G ds w, Rel K I F G w H ∧ RepL K I F ds vs ∧ aY K I F G E (RV K Q) (m ds w)
structure eW (P : Program) (w : World) (K : PySem.W.Frag) (mg : Str → Option Value) (base : Heap) (k : Nat) (f : Addr) (fd : FuncData) (ps : List Str) (m : MF) : Prop where
 run : ∀ (A : Around) (outer : List Env) (s : Shared) (H : Hp) (args : Args) (us : List Value) (vs : List V) (Q : VK) (E : XK), Room k A → A.guards = some [] → Env0 P w K mg base A outer s H → BindsTo s fd args (ps.zip us) → Vals vs us →
  vs.length = ps.length → spM K m vs H Q E → codeAny (model P w) A (.call (.ref f) args) (CR (L2.CX P w) outer P w H s Q E) s
theorem eW.mono {P : Program} {w : World} {K : PySem.W.Frag} {mg : Str → Option Value} {base : Heap} {j k : Nat} {f : Addr} {fd : FuncData} {ps : List Str} {m : MF} (G : eW P w K mg base j f fd ps m) (h : j ≤ k) : eW P w K mg base k f fd ps m :=
 ⟨fun A outer s H args us vs Q E hr => G.run A outer s H args us vs Q E (hr.mono h)⟩
def begin (N : List Str) (ds : List D) : Sg := ds.map some ++ List.replicate (N.length - ds.length) none
def bL (mb : MS) (N : List Str) (ds : List D) (w : W) : Res D := (mb (begin N ds) w).bind fun f w1 => match f with
 | .nx _ => .ok .non w1
 | .rt d => .ok d w1
 | _ => .bad
theorem RepL.aGc {K : PySem.W.Frag} {I : List Addr} {F : Hp} {ds : List D} {vs : List V} (r : RepL K I F ds vs) (N : List Str) : gF K I F (begin N ds) (L2.start N vs) := by
 unfold begin L2.start
 refine ⟨by simp [r.length], fun i d h => ?_⟩
 by_cases hi : i < ds.length
 ·rw [av (by simpa using hi), cu] at h
  cases q : ds[i]? with
  | none => rw [q] at h; cases h
  | some x =>
   rw [q] at h; cases h
   obtain ⟨v, h1, h2⟩ := r.get q
   exact ⟨v, by rw [av (by simpa [← r.length] using hi), cu, h1]; rfl, h2⟩
 ·rw [bw (by simpa using hi), List.getElem?_replicate] at h
  split at h <;> cases h
abbrev aP.body (S : aP) (k : Nat) (N : List Str) (sc : Scope) : aP := { S with k := k, N := N, sc := sc, fn := fun _ => true }
theorem eW.of {S : aP} {x qual : Str} {params : Arguments} {body : List Stmt} {scope : Scope} {dvs : List V} {kws : List (Str × V)} {f : Addr} {fd : FuncData} {N ps : List Str} {k : Nat} {mb : MS} {m : MF}
  (F : FunD S.K x qual params body scope dvs kws f fd) (Sc : FnScope N ps scope) (hb : rR (S.body k N scope) body mb) (hm : ∀ ds w, ds.length = ps.length → Fits w (m ds w) (bL mb N ds w)) : eW S.P S.w S.K S.mg S.base (k + 1) f fd ps m := by
 refine ⟨fun A outer s H args us vs Q E hr hg e0 hbt r hl hsp => ?_⟩
 obtain ⟨oc, od, dV, kV, doc, pm, an, cdv, ct, osl, rfl, lk, hcd, _, _⟩ := F.ex
 have KX : S.K.In s.heap := e0.mod.kin.keeps fun b o e => (e0.bs b o e).1
 have lim : s.heap.NoLimit := e0.mod.nolimit.keeps fun b o e => (e0.bs b o e).1
 have kinds : ∀ y ∈ ps.zip us, scope.names.lookup y.1 = some .local ∨ (scope.names.lookup y.1 = some .cell ∧ ((cellsFrom (s.heap.objs.size + 1) scope.names []).lookup y.1).isSome = true) := by
  rintro ⟨n, v⟩ hy
  have hn : n ∈ ps := (List.of_mem_zip hy).1
  rcases Sc.par n hn with q | q
  ·exact Or.inl q
  ·exact Or.inr ⟨q, PySem.W.cellsFrom_some _ _ _ (.inl q)⟩
 refine codeAny_call_function hr.depth (KX _ _ lk) rfl Sc.co Sc.gen rfl (PySem.W.codeRec_of KX hcd) (hbt _ _ _ _ ?_)
 refine wpAny_newFunctionEnv_cells Sc.kind kinds fun env he s1 y => ?_
 subst he
 refine ⟨lim.keeps y.toInCall.keep, codeAny_func ?_⟩
 obtain ⟨I, F0, G, ds, w, rel, rl, p⟩ := hsp
 have J : Inv (cxOf (L2.CX S.P S.w) S.P S.w S.K S.mg S.base N qual scope f cdv A outer s H E) [] (start N vs) H s1 := inv_start Sc hr.hd e0 hl r y
 have cx : Ctx (S.body k N scope) (cxOf (L2.CX S.P S.w) S.P S.w S.K S.mg S.base N qual scope f cdv A outer s H E) := ⟨rfl, rfl, rfl, rfl, rfl, rfl, rfl, fun _ _ => rfl, rfl, hr.deeper _, hg, Sc.nd⟩
 have xo : pI (cxOf (L2.CX S.P S.w) S.P S.w S.K S.mg S.base N qual scope f cdv A outer s H E) E := ⟨takes_of rfl rfl rfl rfl, passes_of rfl⟩
 have p' : aY S.K I F0 G E (RV S.K Q) (bL mb N ds w) := p.fits rel (hm ds w (by rw [rl.length]; exact hl))
 have go := (hb _ E cx xo).run [] s1 (start N vs) H { nx := fun _ H' => Q .non H', rt := Q } J ⟨I, F0, G, begin N ds, w, rel, rl.aGc N, (aY.bind p').mono fun I1 F1 H1 fl w1 _ e1 rel1 p1 => ?_⟩
 ·refine wpAny_mono go (fun fl s' hs => ?_) fun e s' hs => hs
  cases fl with
  | ret u =>
   obtain ⟨v, σ', H', J', rv, q⟩ := hs
   exact ⟨v, H', J'.os, J'.bare, J'.base, J'.hok, rv, q⟩
  | next =>
   obtain ⟨σ', H', J', q⟩ := hs
   exact ⟨V.non, H', J'.os, J'.bare, J'.base, J'.hok, rfl, q⟩
  | brk =>
   obtain ⟨_, _, _, q⟩ := hs
   exact q.elim
  | cont =>
   obtain ⟨_, _, _, q⟩ := hs
   exact q.elim
 ·cases fl with
  | nx z => exact fun s' _ => p1.n5 rel1 (by simp [aI])
  | rt d => exact fun v rv => p1.n5 rel1 rv
  | bk z => exact p1.elim
  | ct z => exact p1.elim
structure bO (K : PySem.W.Frag) (fd : FuncData) (ps : List Str) (n : Nat) (ks : List Str) (gd : List D → List D → List D) : Prop where
 ex : ∃ (g : List Value → List Value → List Value) (gV : List V → List V → List V), KBn K fd ps n ks g gV ∧
  ∀ I F xs vs zs us, RepL K I F xs vs → RepL K I F zs us → RepL K I F (gd xs zs) (gV vs us)
 len : ∀ xs zs, xs.length = n → zs.length = ks.length → (gd xs zs).length = ps.length
def aJ (m : MF) (n : Nat) (gd : List D → List D → List D) (ma : MA) : ME := fun σ w => (ma σ w).bind fun xs w1 => if xs.length = n then m (gd xs []) w1 else .bad
def U3 (m : MF) (n j : Nat) (gd : List D → List D → List D) (ma mk : MA) : ME := fun σ w => (ma σ w).bind fun xs w1 => (mk σ w1).bind fun zs w2 => if xs.length = n ∧ zs.length = j then m (gd xs zs) w2 else .bad
def JK (S : aP) (kws : List Keyword) (m : MA) : Prop := ∀ X E, Ctx S X → pI X E → PK X kws (aD5 X.K E m)
theorem QX {X : Cx} {pins : List (Addr × Obj)} {σ : L2.St} {H : Hp} {s : Shared} {Q : VK} {E : XK} {k : Nat} {f : Addr} {fd : FuncData} {ps ks : List Str} {m : MF} {n : Nat} {gd : List D → List D → List D} {I : List Addr} {F G : Hp} {xs zs : List D} {w : W} {us ws : List Value} {vs ys : List V}
  (xo : pI X E) (Gf : eW X.prog X.w X.K X.mg X.base k f fd ps m) (B : bO X.K fd ps n ks gd) (hr : Room k X.A) (hg : X.A.guards = some []) (J : Inv X pins σ H s) (rel : Rel X.K I F G w H) (rx : RepL X.K I F xs vs) (rz : RepL X.K I F zs ys)
  (r : Vals vs us) (q : Vals ys ws) (h1 : xs.length = n) (h2 : zs.length = ks.length) (p : aY X.K I F G E (RV X.K Q) (m (gd xs zs) w)) : wpAny (model X.prog X.w) X.A (call (.ref f) us (ks.zip ws)) (EP X pins σ Q) X.xe s := by
 obtain ⟨g, gV, kb, rep⟩ := B.ex
 have r2 := kb.rel r q
 have r3 := rep I F xs vs zs ys rx rz
 have hl : (gV vs ys).length = ps.length := by rw [← r3.length]; exact B.len xs zs h1 h2
 refine wpAny_call (codeAny_mono (Gf.run X.A X.stack s H ⟨us, ks.zip ws⟩ (g us ws) (gV vs ys) Q E hr hg J.env0 (kb.to s us ws J.kIn (by rw [← r.length, ← rx.length]; exact h1) (by rw [← q.length, ← rz.length]; exact h2)) r2 hl ⟨I, F, G, _, w, rel, r3, p⟩) fun fl s' hq => ?_)
 cases fl with
 | error e => exact passes_call xo.tk (fun _ _ _ _ h => h) pins σ H s e s' J hq
 | ok fl =>
  cases fl with
  | ret u => exact J.after hq
  | next => exact hq.elim
  | brk => exact hq.elim
  | cont => exact hq.elim
section
variable {S : aP} {k n : Nat} {f : Addr} {fd : FuncData} {ps ks : List Str} {m : MF} {gd : List D → List D → List D} {x : Str} {p pos kpos : Pos} {e : Expr} {es : List Expr} {kws : List Keyword} {ma mk : MA} {me : ME} {nm : Option Str}
theorem MZ : JK S [] aE := fun X E cx xo => ⟨fun pos pins s σ H Q J ⟨I, F, G, ds, w, rel, rs, p⟩ => pk_nil.run pos pins s σ H Q J (p I F H .refl rel [] (by simp [RepL]))⟩
theorem j8 (he : JE S e me) (hr : JK S kws mk) : JK S (⟨nm, e, kpos⟩ :: kws) (aA me mk) := fun X E cx xo =>
 ⟨fun pos pins s σ H Q J ⟨I, F, G, ds, w, rel, rs, p⟩ => (pk_cons (he X E cx xo) (hr X E cx xo)).run pos pins s σ H Q J
  (bY (f := fun ds x w1 => (mk ds w1).bind fun xs w2 => Res.ok (x :: xs) w2) rel rs p fun I1 F1 H1 x w1 v e1 rel1 rs1 rv p1 =>
   fB (f := fun _ xs w2 => Res.ok (x :: xs) w2) rel1 rs1 p1 fun I2 F2 H2 xs w2 vs e2 rel2 rs2 rvs p2 => p2 I2 F2 H2 .refl rel2 _ (RepL.cons (aI.ext e2 _ _ rv) rvs))⟩
theorem aV (hk : k ≤ S.k) (Gf : eW S.P S.w S.K S.mg S.base k f fd ps m) (B : bO S.K fd ps n [] gd) (hg : S.sc.names.lookup x = some .globalImplicit) (hm : S.mg x = some (.ref f)) (kp : PySem.W.keepIn S.K (.ref f) = true) (ha : JA S (e :: es) ma)
  (hdb : (x == ("__debug__" : Str)) = false := by decide) (he : ∀ env : Env, starEach (e :: es) env = (false, eval e env) :: starEach es env := by intro _; rfl) (hpl : ∀ env : Env, (backTo pos (starEach es env)).any (·.1) = false := by intro _; rfl) :
  JE S (.Call (.Name x p) (e :: es) [] pos) (aJ m n gd ma) := fun X E cx xo => by
 refine ⟨fun pins s σ H Q J ⟨I, F, G, ds, w, rel, rs, p⟩ => ?_⟩
 refine wpAny_Call_Name_kw (ld_glob J (by show X.env.scope.names.lookup x = _; rw [cx.sc]; exact hg) (by rw [cx.mg]; exact hm) ?_ hdb)
 refine PySem.W.callWith_K (h₀ := X.base) J.ok.mod.kin (by rw [cx.K]; exact kp) (thn ((ha X E cx xo).run pos pins s σ H _ J (fB (f := fun _ xs w1 => if xs.length = n then m (gd xs []) w1 else .bad) (Q := fun vs H1 => ∃ I1 F1 xs w1, Rel X.K I1 F1 G w1 H1 ∧ RepL X.K I1 F1 xs vs ∧ xs.length = n ∧ aY X.K I1 F1 G E (RV X.K Q) (m (gd xs []) w1)) rel rs p fun I1 F1 H1 xs w1 vs e1 rel1 rs1 rvs p1 => ?_)) fun us s1 hq => ?_) (he X.env) (hpl X.env)
 ·split at p1
  ·rename_i hl
   exact ⟨I1, F1, xs, w1, rel1, rvs, hl, p1⟩
  ·exact p1.elim
 ·obtain ⟨vs, H1, J1, r, I1, F1, xs, w1, rel1, rvs, hl, p1⟩ := hq
  refine ⟨J1.kIn, ?_⟩
  have Gf' : eW X.prog X.w X.K X.mg X.base k f fd ps m := by rw [cx.P, cx.w, cx.K, cx.mg, cx.base]; exact Gf
  have B' : bO X.K fd ps n [] gd := by rw [cx.K]; exact B
  exact QX (ks := []) (ws := []) (zs := []) (ys := []) xo Gf' B' (cx.room.mono hk) cx.OQ J1 rel1 rvs (by simp [RepL]) r .nil hl rfl p1
end
theorem bX {K : PySem.W.Frag} {x qual : Str} {params : Arguments} {body : List Stmt} {scope : Scope} {kws : List (Str × V)} {f : Addr} {fd : FuncData} {ps : List Str} (F : FunD K x qual params body scope [] kws f fd)
  (h : ∀ (kV doc pm : Value) (an : Option Addr) (cdv ct : Value) (us : List Value), us.length = ps.length → bindArgs (PySem.W.fnOf x qual params body scope .none kV doc pm an cdv ct) ⟨us, []⟩ = pure (ps.zip us)) : bO K fd ps ps.length [] fun xs _ => xs := by
 refine ⟨⟨fun us _ => us, fun vs _ => vs, ⟨fun s us ws KX h1 h2 => ?_, fun r _ => r⟩, fun _ _ _ _ _ _ r _ => r⟩, fun xs zs h1 _ => h1⟩
 have e : ws = [] := List.eq_nil_of_length_eq_zero (by simpa using h2)
 subst e
 exact F.bindsA h s us h1
structure lB where
 xs : List D
 okp : W → Prop
def lB.ok (it : lB) (w : W) : Prop := it.okp w
def always : W → Prop := fun _ => True
def holds (i : Nat) (o : MO) : W → Prop := fun w => w[i]? = some o
def E4 (K : PySem.W.Frag) (I : List Addr) (F : Hp) (J : It) (it : lB) : Prop :=
 ∀ I' F' G w H j, Ext I F I' F' → Rel K I' F' G w H → it.ok w →
  (∀ x, it.xs[j]? = some x → J.go j H ∧ ∀ v H', J.yld j H v H' → ∃ F2, Ext I' F' I' F2 ∧ Rel K I' F2 G w H' ∧ aI K I' F2 x v) ∧ (it.xs.length = j → J.stop j H)
abbrev MI := Sg → W → Res lB
def RI (K : PySem.W.Frag) (R : It → Hp → Prop) : List Addr → Hp → Hp → lB → W → Prop := fun I' F' H' it w' => it.ok w' → ∀ J, E4 K I' F' J it → R J H'
def aC0 (K : PySem.W.Frag) (E : XK) (m : MI) : TI := fun σ H R => ∃ I F G ds w, Rel K I F G w H ∧ gF K I F ds σ ∧ aY K I F G E (RI K R) (m ds w)
def JI (S : aP) (tg iter : Expr) (m : MI) : Prop := ∀ X E, Ctx S X → pI X E → PI X tg iter (aC0 X.K E m)
theorem AM {X : Cx} {tg e : Expr} {t t' : TI} (h : PI X tg e t) (k : ∀ σ H R, t' σ H R → t σ H R) : PI X tg e t' := ⟨fun pins s σ H R I q => h.run pins s σ H R I (k σ H R q)⟩
def aH0 (K : PySem.W.Frag) (tl : TE) : TI := fun σ H R => tl σ H fun x H1 => ∃ a, x = .ref a ∧ (((∃ xs, SqL K H1 a xs) ∧ R (Itl K a) H1) ∨ ((∃ xs, SqT K H1 a xs) ∧ R (Itt K a) H1))
theorem aDb {X : Cx} {tg l : Expr} {tl : TE} (hl : PE X l tl) : PI X tg l (aH0 X.K tl) := by
 constructor
 intro pins s σ H R J h
 apply thn (hl.run pins s σ H _ J h)
 rintro v s1 ⟨x, H1, J1, r1, a, ex, q⟩
 subst ex
 cases r1
 have fp : ∀ b ∈ [s1.heap.objs.size], FpOk X pins H1 b := fun b hb => by
  rw [da.mp hb]
  exact J1.fpOk (bq _) (J1.hok.fresh (bq _))
 rcases q with ⟨⟨xs, hq⟩, q⟩ | ⟨⟨xs, hq⟩, q⟩
 ·obtain ⟨its, rv, p, hz⟩ := J1.list hq
  apply wpAny_pyIter_list p.isList
  exact ⟨s1.heap.objs.size, [s1.heap.objs.size], _, _, H1, rfl, J1.kept (t' := s1.toks) fun b o e => Heap.get?_push_of_some _ e, turn_list a _, ⟨_, Heap.get?_push_size _ rfl, rfl, rfl⟩, fp, q⟩
 ·obtain ⟨its, rv, p, hz⟩ := J1.tuple hq
  apply wpAny_pyIter_tuple (show s1.heap.IsTuple a its.toArray from p)
  exact ⟨s1.heap.objs.size, [s1.heap.objs.size], _, _, H1, rfl, J1.kept (t' := s1.toks) fun b o e => Heap.get?_push_of_some _ e, turn_tuple a _, ⟨_, Heap.get?_push_size _ rfl, rfl, rfl⟩, fp, q⟩
def iterM (d : D) (w : W) : Res lB := match d with
 | .tup xs => .ok ⟨xs, always⟩ w
 | .gY xs => .ok ⟨xs, always⟩ w
 | .lst xs => .ok ⟨xs, always⟩ w
 | .pR xs => .ok ⟨xs, always⟩ w
 | .ref i => (match w[i]? with
  | some (.lst xs) => .ok ⟨xs, holds i (.lst xs)⟩ w
  | _ => .bad)
 | _ => .bad
def eQ (m : ME) : MI := fun σ w => (m σ w).bind iterM
section
variable {K : PySem.W.Frag} {I : List Addr} {F : Hp} {a : Addr} {it : lB}
theorem VQ (h : ∀ I' F' G w H, Ext I F I' F' → Rel K I' F' G w H → it.ok w → ∃ vs, SqL K H a vs ∧ RepL K I' F' it.xs vs) : E4 K I F (Itl K a) it := fun I' F' G w H j e rel ok => by
 obtain ⟨vs, hq, r⟩ := h I' F' G w H e rel ok
 refine ⟨fun x hx => ?_, fun hl => ⟨vs, hq, by rw [← r.length, hl]; exact bq _⟩⟩
 obtain ⟨v, hv, rv⟩ := r.get hx
 refine ⟨⟨vs, v, hq, hv⟩, fun u H' y => ?_⟩
 obtain ⟨rfl, y⟩ := y
 have := y vs hq
 rw [hv] at this; cases this
 exact ⟨F', .refl, rel, rv⟩
theorem aAp (h : ∀ I' F' G w H, Ext I F I' F' → Rel K I' F' G w H → it.ok w → ∃ vs, SqT K H a vs ∧ RepL K I' F' it.xs vs) : E4 K I F (Itt K a) it := fun I' F' G w H j e rel ok => by
 obtain ⟨vs, hq, r⟩ := h I' F' G w H e rel ok
 refine ⟨fun x hx => ?_, fun hl => ⟨vs, hq, by rw [← r.length, hl]; exact bq _⟩⟩
 obtain ⟨v, hv, rv⟩ := r.get hx
 refine ⟨⟨vs, v, hq, hv⟩, fun u H' y => ?_⟩
 obtain ⟨rfl, y⟩ := y
 have := y vs hq
 rw [hv] at this; cases this
 exact ⟨F', .refl, rel, rv⟩
theorem aGb {lo : Int} {n : Nat} (hx : it.xs = (List.range n).map fun k : Nat => D.int (lo + (k : Int))) : E4 K I F (Itr lo n) it := fun I' F' G w H j e rel ok => by
 refine ⟨fun x h => ?_, fun hl => ?_⟩
 ·rw [hx, cu] at h
  by_cases hj : j < n
  ·rw [List.getElem?_range hj] at h
   cases h
   refine ⟨hj, fun v H' y => ?_⟩
   obtain ⟨rfl, rfl⟩ := y
   exact ⟨F', .refl, rel, by simp [aI]⟩
  ·rw [List.getElem?_eq_none (by simpa using hj)] at h; cases h
 ·rw [hx] at hl
  simp at hl
  show n ≤ j
  omega
end
section
variable {S : aP} {pos p : Pos} {tg l e e2 : Expr} {m : ME} {ma : MA} {x : Str}
theorem i8 (hl : JE S l m) : JI S tg l (eQ m) := fun X E cx xo =>
 AM (aDb (hl X E cx xo)) fun σ H R ⟨I, F, G, ds, w, rel, rs, p⟩ => bY (f := fun _ => iterM) rel rs p fun I1 F1 H1 d w1 v e1 rel1 rs1 rv p1 => by
  cases d <;> first | exact p1.elim | skip
  case tup xs =>
   simp only [aI] at rv
   obtain ⟨a, vs, rfl, h1, h2⟩ := rv
   exact ⟨a, rfl, .inr ⟨⟨vs, .of (rel1.fz _ _ h1)⟩, p1 I1 F1 H1 .refl rel1 trivial _ (aAp fun I' F' G w H e rel ok => ⟨vs, .of (rel.fz _ _ (e.f _ _ h1)), RepL.ext e _ _ h2⟩)⟩⟩
  case gY xs =>
   simp only [aI] at rv
   obtain ⟨a, vs, rfl, h1, h2⟩ := rv
   exact ⟨a, rfl, .inr ⟨⟨vs, rel1.Q8 h1⟩, p1 I1 F1 H1 .refl rel1 trivial _ (aAp fun I' F' G w H e rel ok => ⟨vs, rel.Q8 (EL e h1), RepL.ext e _ _ h2⟩)⟩⟩
  case lst xs =>
   simp only [aI] at rv
   obtain ⟨a, vs, rfl, h1, h2⟩ := rv
   exact ⟨a, rfl, .inl ⟨⟨vs, .of (rel1.fz _ _ h1)⟩, p1 I1 F1 H1 .refl rel1 trivial _ (VQ fun I' F' G w H e rel ok => ⟨vs, .of (rel.fz _ _ (e.f _ _ h1)), RepL.ext e _ _ h2⟩)⟩⟩
  case pR xs =>
   simp only [aI] at rv
   obtain ⟨a, vs, rfl, h1, h2⟩ := rv
   exact ⟨a, rfl, .inl ⟨⟨vs, rel1.sqL h1⟩, p1 I1 F1 H1 .refl rel1 trivial _ (VQ fun I' F' G w H e rel ok => ⟨vs, rel.sqL (XW e h1), RepL.ext e _ _ h2⟩)⟩⟩
  case ref i =>
   simp only [aI] at rv
   obtain ⟨a, rfl, h1⟩ := rv
   simp only [iterM] at p1
   split at p1
   ·rename_i xs hw
    obtain ⟨u, hu, vs, rfl, h2⟩ := rel1.ob i a _ h1 hw
    refine ⟨a, rfl, .inl ⟨⟨vs, .of hu⟩, p1 I1 F1 H1 .refl rel1 hw _ (VQ fun I' F' G w H e rel ok => ?_)⟩⟩
    obtain ⟨u', hu', vs', rfl, h2'⟩ := rel.ob i a _ (e.get h1) ok
    exact ⟨vs', .of hu', h2'⟩
   ·exact p1.elim
def jM (lo : Int) (n : Nat) : lB := ⟨(List.range n).map fun k : Nat => D.int (lo + (k : Int)), always⟩
def nH (ds : List D) (w : W) : Res lB := match ds with
 | [.int n] => if -(2 ^ 62) ≤ n ∧ n < 2 ^ 62 then .ok (jM 0 n.toNat) w else .bad
 | _ => .bad
def fU (f : List D → W → Res lB) (ma : MA) : MI := fun σ w => (ma σ w).bind f
theorem oO (hg : S.sc.names.lookup ("range" : Str) = some .globalImplicit) (hm : S.mg "range" = none) (ha : JA S [e] ma) (hs : ∀ env : Env, starEach [e] env = [(false, eval e env)] := by intro _; rfl) : JI S tg (.Call (.Name "range" p) [e] [] pos) (fU nH ma) := fun X E cx xo =>
 AM (pi_range1 (by show X.env.scope.names.lookup _ = _; rw [cx.sc]; exact hg) (by rw [cx.mg]; exact hm) (ha X E cx xo) (hs X.env)) fun σ H R ⟨I, F, G, ds, w, rel, rs, p⟩ => fB (f := fun _ => nH) rel rs p fun I1 F1 H1 xs w1 vs e1 rel1 rs1 rv p1 => by
  unfold nH at p1
  split at p1
  ·rename_i n
   split at p1
   ·rename_i hn
    simp only [RepL, aI] at rv
    obtain ⟨v, r, rfl, rfl, rfl⟩ := rv
    exact ⟨n, rfl, hn.1, hn.2, p1 I1 F1 H1 .refl rel1 trivial _ (aGb rfl)⟩
   ·exact p1.elim
  ·exact p1.elim
end
open Classical in
def forL (it : lB) (g : MG) (body : MS) : List D → Sg → W → Res Fl
 | [], σ, w => if it.ok w then .ok (.nx σ) w else .bad
 | x :: xs, σ, w => if it.ok w then (g x σ w).bind fun σ1 w1 => (body σ1 w1).bind fun f w2 => match f with
   | .nx s => forL it g body xs s w2
   | .ct s => forL it g body xs s w2
   | .bk s => .ok (.nx s) w2
   | .rt d => .ok (.rt d) w2
  else .bad
def fW (m : MI) (g : MG) (body : MS) : MS := fun σ w => (m σ w).bind fun it w1 => forL it g body it.xs σ w1
section
variable {S : aP} {pos : Pos} {tg iter : Expr} {body : List Stmt} {m : MI} {g : MG} {b : MS}
theorem sE (hi : JI S tg iter m) (hg : JG S tg g) (hb : rR S body b) (hs : ∀ (env : Env) x, foldedSetIterable iter env x = pure x := by intro _ _; rfl) : JS S (.For tg iter body [] pos) (fW m g b) := fun X E cx xo =>
 kQ (ps_for xo.own cx.calm (hi X E cx xo) (hg X E cx xo) (hb X E cx xo) (hs X.env)) fun Z σ H ⟨I, F, G, ds, w, rel, rs, p⟩ => by
  refine ⟨I, F, G, ds, w, rel, rs, (aY.bind p).mono fun I1 F1 H1 it w1 _ e1 rel1 p1 hok J hJ => ?_⟩
  refine ⟨fun i n σ' H' => n = it.xs.length - i ∧ i ≤ it.xs.length ∧ ∃ I' F' ds' w', Ext I1 F1 I' F' ∧ Rel X.K I' F' G w' H' ∧ gF X.K I' F' ds' σ' ∧ aY X.K I' F' G E (RFl X.K Z) (forL it g b (it.xs.drop i) ds' w'),
   ⟨it.xs.length, by simp, Nat.zero_le _, I1, F1, ds, w1, .refl, rel1, rs.ext e1, p1⟩, ?_⟩
  rintro i n σ' H' ⟨rfl, hi, I', F', ds', w', e', rel', rs', p'⟩
  by_cases hlt : i < it.xs.length
  ·rw [List.drop_eq_getElem_cons hlt] at p'
   unfold forL at p'
   split at p'
   ·rename_i hw
    obtain ⟨h1, _⟩ := hJ I' F' G w' H' i e' rel' hw
    obtain ⟨hgo, hy⟩ := h1 _ (bz hlt)
    refine .inr ⟨hgo, fun σ2 H2 => ∃ I2 F2 ds2 w2, Ext I1 F1 I2 F2 ∧ Rel X.K I2 F2 G w2 H2 ∧ gF X.K I2 F2 ds2 σ2 ∧ aY X.K I2 F2 G E (RFl X.K Z) (forL it g b (it.xs.drop (i + 1)) ds2 w2), fun σ2 H2 q => ⟨it.xs.length - (i + 1), by omega, rfl, hlt, q⟩, fun v H2 y => ?_⟩
    obtain ⟨F2, e2, rel2, rv⟩ := hy v H2 y
    refine ⟨I', F2, G, _, ds', w', rel2, rs'.ext e2, rv, (aY.bind (p'.ext e2)).mono fun I3 F3 H3 s3 w3 _ e3 rel3 p3 σ3 rs3 => ?_⟩
    refine ⟨I3, F3, G, s3, w3, rel3, rs3, (aY.bind p3).mono fun I4 F4 H4 f w4 _ e4 rel4 p4 => ?_⟩
    have ee : Ext I1 F1 I4 F4 := ((e'.trans e2).trans e3).trans e4
    cases f with
    | nx s => exact fun s' rs4 => ⟨I4, F4, s, w4, ee, rel4, rs4, p4⟩
    | ct s => exact fun s' rs4 => ⟨I4, F4, s, w4, ee, rel4, rs4, p4⟩
    | bk s => exact fun s' rs4 => p4 I4 F4 H4 .refl rel4 s' rs4
    | rt d => exact fun v rv => p4 I4 F4 H4 .refl rel4 v rv
   ·exact p'.elim
  ·have hl : i = it.xs.length := by omega
   subst hl
   rw [List.drop_length] at p'
   unfold forL at p'
   split at p'
   ·rename_i hw
    exact .inl ⟨(hJ I' F' G w' H' _ e' rel' hw).2 rfl, p' I' F' H' .refl rel' σ' rs'⟩
   ·exact p'.elim
end
def Res.OP {α : Type} (r : Res α) : Res α := match r with
 | .HW _ _ => .bad
 | r => r
@[simp] theorem Res.aIv {α : Type} (a : α) (w : W) : (Res.ok a w).OP = .ok a w := rfl
@[simp] theorem Res.aIn {α : Type} (x : XD) (w : W) : (Res.HW x w : Res α).OP = .bad := rfl
@[simp] theorem Res.aIo {α : Type} : (Res.bad : Res α).OP = .bad := rfl
abbrev E0 : XK := fun _ _ _ => False
theorem aY.AY {α β : Type} {K : PySem.W.Frag} {I : List Addr} {F G : Hp} {E : XK} {r : Res α} {f : α → W → Res β} {R2 : List Addr → Hp → Hp → β → W → Prop} (h : aY K I F G E R2 (r.OP.bind f)) :
  aY K I F G E0 (fun I' F' _ a w => aY K I' F' G E R2 (f a w)) r := by
 cases r with
 | ok a w => exact fun I' F' H' e' q => aY.ext (K := K) (R := R2) h e'
 | HW x w => exact h.elim
 | bad => exact h
theorem Rel.keep {K : PySem.W.Frag} {I : List Addr} {F G H : Hp} {w : W} (rel : Rel K I F G w H) {q : Addr} {u : HO} (hq : H q = none) (hu : ∀ xs, u ≠ .tup xs := by intro _ h; cases h) : Rel K I F (upd G q u) w (upd H q u) := by
 have hI : q ∉ I := fun z => by
  obtain ⟨i, hi⟩ := List.mem_iff_getElem?.mp z
  have hl : i < w.length := by rw [← rel.len]; exact (aj.mp hi).1
  obtain ⟨u, h3, _⟩ := rel.ob i q _ hi (bz hl)
  rw [h3] at hq; cases hq
 have hF : F q = none := by
  cases h : F q with
  | none => rfl
  | some u => rw [rel.fz _ _ h] at hq; cases hq
 refine ⟨rel.len, rel.nd, fun i a o h1 h2 => ?_, fun a u' h => ?_, rel.ap, fun a u' h => ?_, fun a u' h => ?_, fun a xs h => ?_⟩
 ·obtain ⟨u', h3, h4⟩ := rel.ob i a o h1 h2
  exact ⟨u', by rw [upd_ne (ne_of_none h3 hq)]; exact h3, h4⟩
 ·rw [upd_ne (ne_of_none h hF)]; exact rel.fz a u' h
 ·by_cases ha : a = q
  ·subst ha; rw [upd_same] at h ⊢; exact h
  ·rw [upd_ne ha] at h ⊢; exact rel.gz a u' h
 ·by_cases ha : a = q
  ·subst ha; exact ⟨hF, hI⟩
  ·rw [upd_ne ha] at h; exact rel.gf a u' h
 ·by_cases ha : a = q
  ·subst ha; rw [upd_same] at h; exact hu xs (Option.some.inj h)
  ·rw [upd_ne ha] at h; exact rel.gt a xs h
theorem Rel.U0 {K : PySem.W.Frag} {I : List Addr} {F G H : Hp} {w : W} {q : Addr} {u u' : HO} (rel : Rel K I F (upd G q u) w H) (hu : ∀ xs, u' ≠ .tup xs := by intro _ h; cases h) : Rel K I F (upd G q u') w (upd H q u') := by
 obtain ⟨hF, hI⟩ := rel.gf q u upd_same
 refine ⟨rel.len, rel.nd, fun i a o h1 h2 => ?_, fun a v h => ?_, rel.ap, fun a v h => ?_, fun a v h => ?_, fun a xs h => ?_⟩
 ·obtain ⟨v, h3, h4⟩ := rel.ob i a o h1 h2
  have ha : a ≠ q := fun z => hI (by rw [← z]; exact cf h1)
  exact ⟨v, by rw [upd_ne ha]; exact h3, h4⟩
 ·rw [upd_ne (ne_of_none h hF)]; exact rel.fz a v h
 ·by_cases ha : a = q
  ·subst ha; rw [upd_same] at h ⊢; exact h
  ·rw [upd_ne ha] at h ⊢; exact rel.gz a v (by rw [upd_ne ha]; exact h)
 ·by_cases ha : a = q
  ·subst ha; exact ⟨hF, hI⟩
  ·rw [upd_ne ha] at h; exact rel.gf a v (by rw [upd_ne ha]; exact h)
 ·by_cases ha : a = q
  ·subst ha; rw [upd_same] at h; exact hu xs (Option.some.inj h)
  ·rw [upd_ne ha] at h; exact rel.gt a xs (by rw [upd_ne ha]; exact h)
theorem Rel.aEM {K : PySem.W.Frag} {I : List Addr} {F G H : Hp} {w : W} {q : Addr} {u : HO} (rel : Rel K I F (upd G q u) w H) (hG : G q = none) : Ext I F I (upd F q u) ∧ Rel K I (upd F q u) G w H := by
 obtain ⟨hF, hI⟩ := rel.gf q u upd_same
 have e : Ext I F I (upd F q u) := ⟨List.prefix_refl _, fun a v h => by rw [upd_ne (ne_of_none h hF)]; exact h⟩
 refine ⟨e, rel.len, rel.nd, fun i a o h1 h2 => ?_, fun a v h => ?_, fun i a o h h0 hf => ?_, fun a v h => ?_, fun a v h => ?_, fun a xs h => rel.gt a xs (by rw [upd_ne (ne_of_none h hG)]; exact h)⟩
 ·obtain ⟨v, h3, h4⟩ := rel.ob i a o h1 h2
  exact ⟨v, h3, lN.ext e h4⟩
 ·by_cases ha : a = q
  ·subst ha; rw [upd_same] at h; cases h; exact rel.gz a u upd_same
  ·rw [upd_ne ha] at h; exact rel.fz a v h
 ·have ha : a ≠ q := fun z => hI (by rw [← z]; exact cf h)
  rw [upd_ne ha]; exact rel.ap i a o h h0 hf
 ·have ha : a ≠ q := ne_of_none h hG
  exact rel.gz a v (by rw [upd_ne ha]; exact h)
 ·have ha : a ≠ q := ne_of_none h hG
  rw [upd_ne ha]
  exact rel.gf a v (by rw [upd_ne ha]; exact h)
theorem Rel.owned {K : PySem.W.Frag} {I : List Addr} {F G H : Hp} {w : W} {q : Addr} {u : HO} {o : MO} (rel : Rel K I F (upd G q u) w H) (hG : G q = none) (r : lN K I F o u) : Ext I F (I ++ [q]) F ∧ Rel K (I ++ [q]) F G (w ++ [o]) H := by
 obtain ⟨hF, hI⟩ := rel.gf q u upd_same
 have e : Ext I F (I ++ [q]) F := ⟨List.prefix_append _ _, fun _ _ h => h⟩
 refine ⟨e, by simp [rel.len], ?_, fun i a o' h1 h2 => ?_, rel.fz, fun i a o' h h0 hf => ?_, fun a v h => ?_, fun a v h => ?_, fun a xs h => rel.gt a xs (by rw [upd_ne (ne_of_none h hG)]; exact h)⟩
 ·rw [List.nodup_append]
  exact ⟨rel.nd, by simp, fun a ha b hb => by simp at hb; subst hb; exact fun z => hI (z ▸ ha)⟩
 ·by_cases hi : i < I.length
  ·rw [av hi] at h1
   rw [av (by rw [← rel.len]; exact hi)] at h2
   obtain ⟨v, h3, h4⟩ := rel.ob i a o' h1 h2
   exact ⟨v, h3, lN.ext e h4⟩
  ·have hi2 : i = I.length := by
    have := (aj.mp h1).1
    simp at this; omega
   subst hi2
   rw [bw (bq _)] at h1
   simp at h1
   rw [rel.len, bw (bq _)] at h2
   simp at h2
   subst h1 h2
   exact ⟨u, rel.gz _ _ upd_same, lN.ext e r⟩
 ·by_cases hi : i < I.length
  ·rw [av hi] at h
   rw [av (by rw [← rel.len]; exact hi)] at h0
   exact rel.ap i a o' h h0 hf
  ·have hi2 : i = I.length := by
    have := (aj.mp h).1
    simp at this; omega
   subst hi2
   rw [bw (bq _)] at h
   simp at h
   subst h; exact hF
 ·have ha : a ≠ q := ne_of_none h hG
  exact rel.gz a v (by rw [upd_ne ha]; exact h)
 ·have ha : a ≠ q := ne_of_none h hG
  have := rel.gf a v (by rw [upd_ne ha]; exact h)
  refine ⟨this.1, fun z => ?_⟩
  rcases dh.mp z with z | z
  ·exact this.2 z
  ·simp at z; exact ha z
def eA (σ : Sg) : List Nat → Sg
 | [] => σ
 | v :: vs => (eA σ vs).set v none
theorem gF.wipe {K : PySem.W.Frag} {I : List Addr} {F : Hp} {ds : Sg} {s : L2.St} (h : gF K I F ds s) : ∀ vs : List Nat, gF K I F (eA ds vs) (L2.wipe s vs)
 | [] => h
 | v :: vs => (h.wipe vs).unset v none
theorem GK {s : L2.St} {i : Nat} {x : Option V} : ∀ {vs : List Nat}, i ∈ vs → L2.wipe (s.set i x) vs = L2.wipe s vs
 | [], h => by cases h
 | v :: vs, h => by
  show (L2.wipe (s.set i x) vs).set v none = (L2.wipe s vs).set v none
  by_cases hi : i ∈ vs
  ·rw [GK hi]
  ·have hv : i = v := by
    rcases bu.mp h with e | e
    ·exact e
    ·exact absurd e hi
   subst hv
   have key : ∀ ws : List Nat, i ∉ ws → L2.wipe (s.set i x) ws = (L2.wipe s ws).set i x := by
    intro ws
    induction ws with
    | nil => intro _; rfl
    | cons b bs ih =>
     intro hn
     show (L2.wipe (s.set i x) bs).set b none = ((L2.wipe s bs).set b none).set i x
     rw [ih (fun z => hn (br _ z))]
     rw [List.set_comm _ _ (fun z => hn (by rw [z]; exact bc ..))]
   rw [key vs hi, List.set_set]
theorem BV {s : L2.St} : ∀ {vs : List Nat}, L2.wipe (L2.wipe s vs) vs = L2.wipe s vs := by
 intro vs
 have key : ∀ ws : List Nat, (∀ v ∈ ws, v ∈ vs) → L2.wipe (L2.wipe s ws) vs = L2.wipe s vs := by
  intro ws
  induction ws with
  | nil => intro _; rfl
  | cons b bs ih =>
   intro h
   show L2.wipe ((L2.wipe s bs).set b none) vs = _
   rw [GK (h b (bc ..)), ih fun v hv => h v (br _ hv)]
 exact key vs fun _ h => h
def RSw (K : PySem.W.Frag) (vs : List Nat) (σ : L2.St) (Q : L2.St → Hp → Prop) : List Addr → Hp → Hp → Sg → W → Prop := fun I' F' H' s _ => ∀ s', gF K I' F' s s' → L2.wipe s' vs = L2.wipe σ vs → Q s' H'
def aC6 (K : PySem.W.Frag) (E : XK) (vs : List Nat) (g : MG) : TG := fun v σ H Q => ∃ I F G d ds w, Rel K I F G w H ∧ gF K I F ds σ ∧ aI K I F d v ∧ aY K I F G E (RSw K vs σ Q) (g d ds w)
def aH4 (K : PySem.W.Frag) (E : XK) (vs : List Nat) (g : Y8) : TGs := fun v σ H Q => ∃ I F G d ds w, Rel K I F G w H ∧ gF K I F ds σ ∧ RepL K I F d v ∧ aY K I F G E (RSw K vs σ Q) (g d ds w)
def JC (S : aP) (vs : List Nat) (t : Expr) (g : MG) : Prop := ∀ X E, Ctx S X → pI X E → PG X t (aC6 X.K E vs g)
def JCs (S : aP) (vs : List Nat) (t : List Expr) (g : Y8) : Prop := ∀ X E, Ctx S X → pI X E → PGs X t (aH4 X.K E vs g)
section
variable {S : aP} {pos : Pos} {vs : List Nat} {e : Expr} {es : List Expr} {g : MG} {r : Y8}
theorem aDk {i : Nat} {x : Str} (hi : S.N[i]? = some x) (hx : Sto S x) (hv : i ∈ vs) : JC S vs (.Name x pos) (aU i) := fun X E cx xo =>
 BH (pg_name (i := i) (x := x) cx.nd (by rw [cx.N]; exact hi) (by rw [cx.sc]; exact hx.1) (by rw [cx.sc]; exact hx.2.imp (cx.fn x) id)) fun v σ H Q ⟨I, F, G, d, ds, w, rel, rs, rv, p⟩ => p I F H .refl rel _ (rs.set i rv) (GK hv)
theorem aEa : JCs S vs [] cA := fun X E cx xo => zK pgs_nil fun v σ H Q ⟨I, F, G, xs, ds, w, rel, rs, rv, p⟩ => by
 cases xs with
 | nil =>
  simp only [RepL] at rv
  exact ⟨rv, p I F H .refl rel _ rs rfl⟩
 | cons => exact p.elim
theorem SJ (h1 : JC S vs e g) (h2 : JCs S vs es r) (hs : ∀ env : Env, (assignEach (e :: es) env).map (·.2) = assign e env :: (assignEach es env).map (·.2) := by intro _; rfl) : JCs S vs (e :: es) (aL g r) := fun X E cx xo =>
 zK (pgs_cons (h1 X E cx xo) (h2 X E cx xo) (hs X.env)) fun v σ H Q ⟨I, F, G, xs, ds, w, rel, rs, rv, p⟩ => by
  cases xs with
  | nil => exact p.elim
  | cons x xs =>
   simp only [RepL] at rv
   obtain ⟨v, t, rfl, rv1, rvs⟩ := rv
   refine ⟨v, t, rfl, I, F, G, x, ds, w, rel, rs, rv1, (aY.bind p).mono fun I1 F1 H1 s w1 _ e1 rel1 p1 s' rs1 ew => ⟨I1, F1, G, xs, s, w1, rel1, rs1, RepL.ext e1 _ _ rvs, p1.mono fun I2 F2 H2 s2 w2 _ e2 rel2 p2 s3 rs3 ew3 => p2 s3 rs3 (ew3.trans ew)⟩⟩
theorem aF2 {k n : Nat} (h : JCs S vs es r) (hn : ∀ env : Env, (assignEach es env).length = n := by intro _; rfl) (hst : ∀ env : Env, (assignEach es env).findIdx? (·.1) = none := by intro _; rfl) : JC S vs (.Tuple es k pos) (cC n r) := fun X E cx xo =>
 BH (pg_tup cx.calm (h X E cx xo) (hn X.env) (hst X.env)) fun v σ H Q ⟨I, F, G, d, ds, w, rel, rs, rv, p⟩ => by
  cases d <;> first | exact p.elim | skip
  all_goals
   rename_i xs
   simp only [aI] at rv
   obtain ⟨a, us, rfl, h1, h2⟩ := rv
   simp only [cC] at p
   split at p
   ·rename_i hl
    exact ⟨a, us, rfl, (by first | exact .of (rel.fz _ _ h1) | exact rel.Q8 h1), by rw [← h2.length]; exact hl, I, F, G, xs, ds, w, rel, rs, h2, p⟩
   ·exact p.elim
end
open Classical in
def k0 (it : lB) (vs : List Nat) (g : MG) (t : MT) (e : ME) : List D → Sg → W → Res (List D)
 | [], σ, w => if it.ok w then .ok [] w else .bad
 | x :: xs, σ, w => if it.ok w then (g x (eA σ vs) w).OP.bind fun σ1 w1 => (t σ1 w1).OP.bind fun b w2 =>
   if b = true then (e σ1 w2).OP.bind fun y w3 => (k0 it vs g t e xs σ w3).bind fun ys w4 => .ok (y :: ys) w4 else k0 it vs g t e xs σ w2
  else .bad
def XF (m : MI) (vs : List Nat) (g : MG) (t : MT) (e : ME) : MA := fun σ w => (m σ w).bind fun it w1 => if it.xs.length ≤ sizeLine then k0 it vs g t e it.xs σ w1 else .bad
def cG (m : MI) (vs : List Nat) (g : MG) (t : MT) (e : ME) : ME := fun σ w => (XF m vs g t e σ w).bind fun ys w1 => .ok (.lst ys) w1
def UP (m : MI) (vs : List Nat) (g : MG) (t : MT) (e : ME) : ME := fun σ w => (XF m vs g t e σ w).bind fun ys w1 => .ok (.ref w1.length) (w1 ++ [.lst ys])
def JTs (S : aP) (ifs : List Expr) (t : MT) : Prop := ∀ X E, Ctx S X → pI X E → PTs X ifs (U9 X.K E t)
def cL : MT := fun _ w => .ok true w
abbrev aP.blk (S : aP) (scope : Scope) : aP := { S with sc := relS scope S.sc, fn := fun x => scope.names.lookup x == some .cell }
theorem jH {S : aP} {X : Cx} (c : Ctx S X) (s : Shared) (H : Hp) (scope : Scope) (C : Addr) (cl : List (Str × Addr)) (fp : List Addr) : Ctx (S.blk scope) (X.blk s H scope (compEnvC scope cl C X.env) fp) :=
 ⟨c.P, c.w, c.K, c.mg, c.base, c.N, by show relS scope X.env.scope = relS scope S.sc; rw [c.sc], fun _ h => h, c.calm, c.room, c.OQ, c.nd⟩
theorem jD {X : Cx} (s : Shared) (H : Hp) (scope : Scope) (cenv : Env) (fp : List Addr) : pI (X.blk s H scope cenv fp) E0 :=
 ⟨fun _ _ ⟨_, _, _, _, _, _, _, _, _, _, _, _, _, _, _, _, h⟩ => h.elim, PassesOwn.never⟩
section
variable {S : aP} {pos : Pos} {elt tg iter c : Expr} {ifs : List Expr} {scope : Scope} {own : List (Str × Nat)} {mi : MI} {g : MG} {t : MT} {me : ME}
theorem iV : JTs S [] cL := fun X E cx xo => ⟨fun pins s σ H Q J ⟨I, F, G, ds, w, rel, rs, p⟩ => pts_nil.run pins s σ H Q J (p I F H .refl rel)⟩
theorem ND (h : JT S c t) : JTs S [c] t := fun X E cx xo => pts_one (h X E cx xo)
theorem S3 {K : PySem.W.Frag} {E : XK} {vs : List Nat} {f : List D → W → Res D} {σ : L2.St} {H : Hp} {Q : VK} (h : sQ K E (fun σ w => (XF mi vs g t me σ w).bind f) σ H Q)
  (fin : ∀ I F G w H q xs us, Rel K I F (upd G q (.lst us)) w H → G q = none → RepL K I F xs us → aY K I F G E (RV K Q) (f xs w) → Q (.ref q) H) :
  tLc (aC0 K E mi) (aC6 K E0 vs g) (U9 K E0 t) (sQ K E0 me) vs σ H Q := by
 obtain ⟨I, F, G, ds, w, rel, rs, p⟩ := h
 have p0 : aY K I F G E (RV K Q) ((mi ds w).bind fun it w1 => (if it.xs.length ≤ sizeLine then k0 it vs g t me it.xs ds w1 else .bad).bind f) := by
  rw [← Res.bind_assoc]; exact p
 refine ⟨I, F, G, ds, w, rel, rs, (aY.bind p0).mono fun I1 F1 H1 it w1 _ e1 rel1 p1 hok J hJ q hq => ?_⟩
 have hG : G q = none := by
  cases h : G q with
  | none => rfl
  | some u => rw [rel1.gz _ _ h] at hq; cases hq
 split at p1
 ·rename_i hz
  refine ⟨fun i n H' => n = it.xs.length - i ∧ i ≤ it.xs.length ∧ ∃ I' F' w' xs us, Ext I1 F1 I' F' ∧ Rel K I' F' (upd G q (.lst us)) w' H' ∧ RepL K I' F' xs us ∧ xs.length ≤ i ∧
    aY K I' F' G E (RV K Q) ((k0 it vs g t me (it.xs.drop i) ds w').bind fun ys w2 => f (xs ++ ys) w2),
   ⟨it.xs.length, by simp, Nat.zero_le _, I1, F1, w1, [], [], .refl, rel1.keep hq, by simp [RepL], bq _, by simpa using p1⟩, ?_⟩
  rintro i n H' ⟨rfl, hi, I', F', w', xs, us, e', rel', rx, hxi, p'⟩
  by_cases hlt : i < it.xs.length
  ·rw [List.drop_eq_getElem_cons hlt] at p'
   unfold k0 at p'
   split at p'
   ·rename_i hw
    obtain ⟨h1, _⟩ := hJ I' F' _ w' H' i e' rel' hw
    obtain ⟨hgo, hy⟩ := h1 _ (bz hlt)
    refine .inr ⟨hgo, fun H2 => ∃ I2 F2 w2 xs2 us2, Ext I1 F1 I2 F2 ∧ Rel K I2 F2 (upd G q (.lst us2)) w2 H2 ∧ RepL K I2 F2 xs2 us2 ∧ xs2.length ≤ i + 1 ∧ aY K I2 F2 G E (RV K Q) ((k0 it vs g t me (it.xs.drop (i + 1)) ds w2).bind fun ys w2 => f (xs2 ++ ys) w2),
     fun H2 q => ⟨it.xs.length - (i + 1), by omega, rfl, hlt, q⟩, fun v H2 y => ?_⟩
    obtain ⟨F2, e2, rel2, rv⟩ := hy v H2 y
    have p2 := p'.ext e2
    rw [Res.bind_assoc] at p2
    -- from here on the list at q lies still
    have still : ∀ {α : Type} {R : List Addr → Hp → Hp → α → W → Prop} {r : Res α} {I3 : List Addr} {F3 : Hp}, aY K I3 F3 G E0 R r → aY K I3 F3 (upd G q (.lst us)) E0 (fun I' F' H' a w => Rel K I' F' (upd G q (.lst us)) w H' ∧ ∀ H'', Rel K I' F' G w H'' → R I' F' H'' a w) r := by
     intro α R r I3 F3 hp
     cases r with
     | ok a w => exact fun I' F' H' e q => ⟨q, fun H'' q' => hp I' F' H'' e q'⟩
     | HW x w =>
      intro I' F' H' c d e q rx
      exact hp I' F' H' c d e ⟨q.len, q.nd, q.ob, q.fz, q.ap, fun a u h => q.gz a u (by rw [upd_ne (ne_of_none h hG)]; exact h), fun a u h => q.gf a u (by rw [upd_ne (ne_of_none h hG)]; exact h), fun a xs h => q.gt a xs (by rw [upd_ne (ne_of_none h hG)]; exact h)⟩ rx
     | bad => exact hp
    have less : ∀ {I3 : List Addr} {F3 : Hp} {w3 : W} {H3 : Hp}, Rel K I3 F3 (upd G q (.lst us)) w3 H3 → Rel K I3 F3 G w3 H3 := fun {I3 F3 w3 H3} q => ⟨q.len, q.nd, q.ob, q.fz, q.ap, fun a u h => q.gz a u (by rw [upd_ne (ne_of_none h hG)]; exact h), fun a u h => q.gf a u (by rw [upd_ne (ne_of_none h hG)]; exact h), fun a xs h => q.gt a xs (by rw [upd_ne (ne_of_none h hG)]; exact h)⟩
    refine ⟨I', F2, upd G q (.lst us), _, eA ds vs, w', rel2, (((rs.ext e1).ext e').ext e2).wipe vs, rv, (still (aY.AY p2)).mono fun I3 F3 H3 s3 w3 _ e3 rel3 p3 σ3 rs3 ew => ⟨ew.trans BV, ?_⟩⟩
    have p3' := p3.2 H3 (less rel3)
    rw [Res.bind_assoc] at p3'
    refine ⟨I3, F3, upd G q (.lst us), s3, w3, rel3, rs3, (still (aY.AY p3')).mono fun I4 F4 H4 b w4 _ e4 rel4 p4 => ?_⟩
    have p4' := p4.2 H4 (less rel4)
    cases b with
    | true =>
     simp only [ae] at p4' ⊢
     rw [Res.bind_assoc] at p4'
     refine ⟨I4, F4, upd G q (.lst us), s3, w4, rel4, rs3.ext e4, (still (aY.AY p4')).mono fun I5 F5 H5 y w5 _ e5 rel5 p5 u ru => ?_⟩
     have p5' := p5.2 H5 (less rel5)
     rw [Res.bind_assoc] at p5'
     have ee : Ext I' F' I5 F5 := ((e2.trans e3).trans e4).trans e5
     refine ⟨us, rel5.gz _ _ upd_same, by rw [← rx.length]; omega, I5, F5, w5, xs ++ [y], us ++ [u], e'.trans ee, rel5.U0, (RepL.ext ee _ _ rx).append (RepL.cons ru (by simp [RepL])), by simp; omega, ?_⟩
     simpa using p5'
    | false =>
     simp only [ax, ab] at p4' ⊢
     exact ⟨I4, F4, w4, xs, us, (e'.trans e2).trans (e3.trans e4), rel4, RepL.ext ((e2.trans e3).trans e4) _ _ rx, by omega, p4'⟩
   ·exact p'.elim
  ·have hl : i = it.xs.length := by omega
   subst hl
   rw [List.drop_length] at p'
   unfold k0 at p'
   split at p'
   ·rename_i hw
    refine .inl ⟨(hJ I' F' _ w' H' _ e' rel' hw).2 rfl, fin I' F' G w' H' q xs us rel' hG rx ?_⟩
    simpa using p'
   ·exact p'.elim
 ·exact p1.elim
theorem N8 {K : PySem.W.Frag} {E : XK} {Q : VK} (I : List Addr) (F G : Hp) (w : W) (H : Hp) (q : Addr) (xs : List D) (us : List V) (rel : Rel K I F (upd G q (.lst us)) w H) (hG : G q = none) (rx : RepL K I F xs us)
  (p : aY K I F G E (RV K Q) (.ok (.lst xs) w)) : Q (.ref q) H := by
 obtain ⟨e, rel2⟩ := rel.aEM hG
 exact p _ _ H e rel2 _ (by simp only [aI]; exact ⟨q, us, rfl, upd_same, RepL.ext e _ _ rx⟩)
theorem jG (hi : JI S tg iter mi) (hb : blkC S.N S.sc scope own = true) (hg : JC (S.blk scope) (own.map (·.2)) tg g) (ht : JTs (S.blk scope) ifs t) (he : JE (S.blk scope) elt me)
  (hs : ∀ (env : Env) x, foldedSetIterable iter env x = pure x := by intro _ _; rfl) : JE S (.ListComp elt [⟨tg, iter, ifs, 0⟩] scope pos) (cG mi (own.map (·.2)) g t me) := fun X E cx xo =>
 cR (pe_lc (own := own) cx.calm cx.nd (hi X E cx xo) (blkOk_by (by rw [cx.N, cx.sc]; exact hb)) (fun s H C cl fp => hg _ E0 (jH cx s H scope C cl fp) (jD ..)) (fun s H C cl fp => ht _ E0 (jH cx s H scope C cl fp) (jD ..))
  (fun s H C cl fp => he _ E0 (jH cx s H scope C cl fp) (jD ..)) (hs X.env)) fun σ H Q h => S3 h N8
theorem WA {i : Nat} {y : Str} {py spos : Pos} (hy : S.N[i]? = some y) (hyl : S.sc.names.lookup y = some .local) (hsw : ∀ env : Env, env.scope = S.sc → env.scope.kind = .function → swapsWith (.ListComp elt [⟨tg, iter, ifs, 0⟩] scope pos) (some (.Name y py)) spos.line env = pure true)
  (hi : JI S tg iter mi) (hb : blkC S.N S.sc scope own = true) (hg : JC (S.blk scope) (own.map (·.2)) tg g) (ht : JTs (S.blk scope) ifs t) (he : JE (S.blk scope) elt me)
  (hk : S.sc.kind = .function) (hs : ∀ (env : Env) x, foldedSetIterable iter env x = pure x := by intro _ _; rfl) : JS S (.Assign [.Name y py] (.ListComp elt [⟨tg, iter, ifs, 0⟩] scope pos) spos) (aT (cG mi (own.map (·.2)) g t me) (aU i)) := fun X E cx xo =>
 kQ (ps_setLc (i := i) (own := own) cx.calm cx.nd (by rw [cx.N]; exact hy) (by rw [cx.sc]; exact hyl) (hsw X.env cx.sc (by rw [cx.sc]; exact hk)) (hi X E cx xo) (blkOk_by (by rw [cx.N, cx.sc]; exact hb)) (fun s H C cl fp => hg _ E0 (jH cx s H scope C cl fp) (jD ..)) (fun s H C cl fp => ht _ E0 (jH cx s H scope C cl fp) (jD ..))
  (fun s H C cl fp => he _ E0 (jH cx s H scope C cl fp) (jD ..)) (hs X.env)) fun Z σ H ⟨I, F, G, ds, w, rel, rs, p⟩ => by
  obtain ⟨I, F, G, ds, w, rel, rs, q⟩ : sQ X.K E (cG mi (own.map (·.2)) g t me) σ H (fun x H1 => gName i x σ H1 Z.nx) := bY (f := fun ds d w1 => (aU i d ds w1).bind fun σ2 w2 => Res.ok (Fl.nx σ2) w2) rel rs p fun I1 F1 H1 x w1 v e1 rel1 rs1 rv p1 => p1 I1 F1 H1 .refl rel1 _ (rs1.set i rv)
  exact S3 (f := fun ys w1 => Res.ok (D.lst ys) w1) ⟨I, F, G, ds, w, rel, rs, q⟩ N8
end
def keyD : D → Option Key
 | .int i => some (.inl i)
 | .str x => some (.inr x)
 | _ => none
def xK : List D → Option (List Key)
 | [] => some []
 | d :: ds => match keyD d, xK ds with
  | some k, some ks => some (k :: ks)
  | _, _ => none
def kZ {κ : Type} [DecidableEq κ] : List (κ × D) → κ → Option D
 | [], _ => none
 | (j, d) :: r, k => if j = k then some d else kZ r k
def putD {κ : Type} [DecidableEq κ] (kvs : List (κ × D)) (k : κ) (d : D) : List (κ × D) :=
 if (kZ kvs k).isSome then kvs.map (fun p => if p.1 = k then (p.1, d) else p) else kvs ++ [(k, d)]
section
variable {K : PySem.W.Frag} {I : List Addr} {F G H : Hp} {w : W} {κ : Type} [DecidableEq κ]
def O8 (K : PySem.W.Frag) (I : List Addr) (F : Hp) : Option D → Option V → Prop
 | some d, q => ∃ v, q = some v ∧ aI K I F d v
 | none, q => q = none
theorem aR.look : ∀ {kvs : List (κ × D)} {r : List (κ × V)} (k : κ), aR K I F kvs r → O8 K I F (kZ kvs k) (valV r k)
 | [], r, k, h => by simp only [aR] at h; subst h; rfl
 | (j, d) :: kvs, r, k, h => by
  simp only [aR] at h
  obtain ⟨v, t, rfl, h1, h2⟩ := h
  simp only [kZ]
  by_cases e : j = k
  ·rw [if_pos e]; exact ⟨v, by rw [valV_pos e], h1⟩
  ·rw [if_neg e]
   have := aR.look k h2
   rw [valV_neg (by exact e)]
   exact this
theorem aR.length : ∀ {kvs : List (κ × D)} {r : List (κ × V)}, aR K I F kvs r → kvs.length = r.length
 | [], r, h => by simp only [aR] at h; subst h; rfl
 | (j, d) :: kvs, r, h => by
  simp only [aR] at h
  obtain ⟨v, t, rfl, h1, h2⟩ := h
  simp [aR.length h2]
theorem aR.repl {d : D} {v : V} (k : κ) (hv : aI K I F d v) : ∀ {kvs : List (κ × D)} {r : List (κ × V)}, aR K I F kvs r → aR K I F (kvs.map (fun p => if p.1 = k then (p.1, d) else p)) (r.map (fun p => if p.1 = k then (p.1, v) else p))
 | [], r, h => by simp only [aR] at h; subst h; simp [aR]
 | (j, x) :: kvs, r, h => by
  simp only [aR] at h
  obtain ⟨u, t, rfl, h1, h2⟩ := h
  simp only [cg]
  by_cases e : j = k
  ·rw [if_pos e, if_pos e]; simp only [aR]; exact ⟨v, _, rfl, hv, aR.repl k hv h2⟩
  ·rw [if_neg e, if_neg e]; simp only [aR]; exact ⟨u, _, rfl, h1, aR.repl k hv h2⟩
theorem aR.snoc {d : D} {v : V} (k : κ) (hv : aI K I F d v) : ∀ {kvs : List (κ × D)} {r : List (κ × V)}, aR K I F kvs r → aR K I F (kvs ++ [(k, d)]) (r ++ [(k, v)])
 | [], r, h => by simp only [aR] at h; subst h; simp only [cq, aR]; exact ⟨v, [], rfl, hv, rfl⟩
 | (j, x) :: kvs, r, h => by
  simp only [aR] at h
  obtain ⟨u, t, rfl, h1, h2⟩ := h
  simp only [bp, aR]
  exact ⟨u, _, rfl, h1, aR.snoc k hv h2⟩
theorem aDG (r : List (κ × V)) (k : κ) (v : V) : putK r k v = if (valV r k).isSome then r.map (fun p => if p.1 = k then (p.1, v) else p) else r ++ [(k, v)] := by
 unfold putK
 rw [valV_any]
theorem aR.put {d : D} {v : V} (k : κ) (hv : aI K I F d v) {kvs : List (κ × D)} {r : List (κ × V)} (h : aR K I F kvs r) : aR K I F (putD kvs k d) (putK r k v) := by
 rw [aDG]
 unfold putD
 have hl := h.look k
 cases e : kZ kvs k with
 | some x =>
  rw [e] at hl
  obtain ⟨u, hu, _⟩ := hl
  rw [hu]
  exact h.repl k hv
 | none =>
  rw [e] at hl
  rw [hl]
  exact h.snoc k hv
theorem vS {d : D} {v : V} {k : Key} (h : aI K I F d v) (e : keyD d = some k) : v = kV k := by
 cases d <;> simp only [keyD, ah, reduceCtorEq] at e
 ·subst e; simp only [aI] at h; exact h
 ·subst e; simp only [aI] at h; exact h
theorem wJ : ∀ {ds : List D} {vs : List V} {ks : List Key}, RepL K I F ds vs → xK ds = some ks → vs = ks.map kV
 | [], vs, ks, h, e => by simp only [xK, ah] at e; subst e; simp only [RepL] at h; exact h
 | d :: ds, vs, ks, h, e => by
  simp only [RepL] at h
  obtain ⟨v, r, rfl, h1, h2⟩ := h
  simp only [xK] at e
  split at e
  ·rename_i k ks' e1 e2
   cases e
   rw [vS h1 e1, wJ h2 e2]
   rfl
  ·cases e
theorem Rel.upd {i : Nat} {a : Addr} {o o' : MO} {u' : HO} (rel : Rel K I F G w H) (hi : I[i]? = some a) (ho : w[i]? = some o) (r : lN K I F o' u') (hf : o.fz = false := by rfl) : Rel K I F G (w.set i o') (upd H a u') := by
 have hF : F a = none := rel.ap i a o hi ho hf
 have hil : i < w.length := (aj.mp ho).1
 refine ⟨by simp [rel.len], rel.nd, fun j b q h1 h2 => ?_, fun b u h => ?_, fun j b q h1 h2 h3 => ?_, fun b u h => ?_, rel.gf, rel.gt⟩
 ·by_cases hj : i = j
  ·subst hj
   rw [bh hil] at h2
   cases h2
   rw [hi] at h1; cases h1
   exact ⟨u', upd_same, r⟩
  ·rw [az hj] at h2
   obtain ⟨u, h3, h4⟩ := rel.ob j b q h1 h2
   have hb : b ≠ a := fun z => by
    subst z
    obtain ⟨l1, e1⟩ := aj.mp hi
    obtain ⟨l2, e2⟩ := aj.mp h1
    exact hj ((List.getElem_inj rel.nd).mp (e1.trans e2.symm))
   exact ⟨u, by rw [upd_ne hb]; exact h3, h4⟩
 ·rw [upd_ne (ne_of_none h hF)]; exact rel.fz b u h
 ·by_cases hj : i = j
  ·subst hj
   rw [hi] at h1; cases h1; exact hF
  ·rw [az hj] at h2
   exact rel.ap j b q h1 h2 h3
 ·have hb : b ≠ a := fun z => (rel.gf b u h).2 (z ▸ cf hi)
  rw [upd_ne hb]; exact rel.gz b u h
end
theorem RepL.at' {K : PySem.W.Frag} {I : List Addr} {F : Hp} {ds : List D} {vs : List V} (r : RepL K I F ds vs) {i : Int} {d : D} (h : atI ds i = some d) : ∃ v, atI vs i = some v ∧ aI K I F d v := by
 unfold atI at h ⊢
 rw [← r.length]
 cases e : ixN ds.length i with
 | none => rw [e] at h; cases h
 | some j => rw [e] at h; exact r.get h
def rA (o : MO) (y : D) : Option (Option D) := match o, y with
 | .dK kvs, y => (keyD y).map (kZ kvs)
 | .dF kvs, y => (keyD y).map (kZ kvs)
 | .dT kvs, .tup ys => (xK ys).map (kZ kvs)
 | .dG kvs, .tup ys => (xK ys).map (kZ kvs)
 | _, _ => none
def VL (xs : List D) (y : D) (w : W) : Res D := match y with
 | .int i => (match atI xs i with
  | some d => .ok d w
  | none => .bad)
 | _ => .bad
def atS (z : Str) (y : D) (w : W) : Res D := match y with
 | .int i => if z.length ≤ sizeLine then (match atI z.cps.toList i with
   | some c => .ok (.str ⟨#[c]⟩) w
   | none => .bad) else .bad
 | _ => .bad
def aS (x y : D) (w : W) : Res D := match x with
 | .tup xs => VL xs y w
 | .gY xs => VL xs y w
 | .lst xs => VL xs y w
 | .pR xs => VL xs y w
 | .str z => atS z y w
 | .ref r => (match w[r]? with
  | some (.lst xs) => VL xs y w
  | some o => (match rA o y with
   | some (some d) => .ok d w
   | _ => .bad)
  | none => .bad)
 | _ => .bad
theorem aC2 {X : Cx} (hu : X.A.units + 1 < cLine) : IxR X (fun x y H Q => ∃ a v, x = .ref a ∧ DGet H a y (some v) ∧ Q v H) := by
 intro value slice pins s σ H x y ov iv Q J rx ry h hs
 obtain ⟨a, v, ex, g, q⟩ := h
 subst ex
 cases rx
 have hT : s.TypeIs (.ref a) "dict" := dict_typeIs J g
 unfold subscriptTail
 apply wpAny_bind
 rw [getitemInPython_of_ne hT.not_modules]
 apply wpAny_bind
 apply wpAny_specialOf hT PySem.F.slot_dict_getitem.lookup
 have fin : wpAny (model X.prog X.w) X.A (subscripted slice false (.ref a) iv) (fun r s₃ => wpAny (model X.prog X.w) X.A (letTemporaryGo value (.ref a) r >>= fun _ => pure r) (EP X pins σ Q) X.xe s₃) X.xe s := by
  rw [hs]
  apply wpAny_operating
  exact d_getItem hu J g ry fun w' s3 J3 rw' => wpAny_bind (wpAny_letTemporaryGo (wpAny_pure ⟨v, H, J3, rw', q⟩))
 first
  | exact wpAny_pure (wpAny_bind fin)
  | exact wpAny_bind (wpAny_pure (wpAny_bind fin))
  | exact wpAny_bind fin
theorem aDn {K : PySem.W.Frag} {I : List Addr} {F G H : Hp} {w : W} (rel : Rel K I F G w H) {i : Nat} {a : Addr} {o : MO} {y : D} {v : V} {r : Option D} (hi : I[i]? = some a) (ho : w[i]? = some o) (ry : aI K I F y v) (e : rA o y = some r) :
  ∃ q, DGet H a v q ∧ O8 K I F r q := by
 obtain ⟨u, hu, ro⟩ := rel.ob i a o hi ho
 cases o with
 | lst => simp [rA] at e
 | ins => simp [rA] at e
 | dK kvs =>
  obtain ⟨t, rfl, rk⟩ := ro
  simp only [rA, au] at e
  obtain ⟨k, ek, rfl⟩ := e
  exact ⟨valV t k, .inl ⟨t, k, .inl hu, vS ry ek, rfl⟩, rk.look k⟩
 | dF kvs =>
  obtain ⟨ob, t, rfl, rk⟩ := ro
  simp only [rA, au] at e
  obtain ⟨k, ek, rfl⟩ := e
  exact ⟨valV t k, .inl ⟨t, k, .inr ⟨ob, hu⟩, vS ry ek, rfl⟩, rk.look k⟩
 | dT kvs =>
  obtain ⟨t, rfl, rk⟩ := ro
  cases y <;> simp only [rA, au, reduceCtorEq] at e
  obtain ⟨k, ek, rfl⟩ := e
  simp only [aI] at ry
  obtain ⟨b, us, rfl, hb, rl⟩ := ry
  obtain rfl := wJ rl ek
  exact ⟨valV t k, .inr ⟨t, k, b, .inl hu, rfl, rel.fz _ _ hb, rfl⟩, rk.look k⟩
 | dG kvs =>
  obtain ⟨ob, t, rfl, rk⟩ := ro
  cases y <;> simp only [rA, au, reduceCtorEq] at e
  obtain ⟨k, ek, rfl⟩ := e
  simp only [aI] at ry
  obtain ⟨b, us, rfl, hb, rl⟩ := ry
  obtain rfl := wJ rl ek
  exact ⟨valV t k, .inr ⟨t, k, b, .inr ⟨ob, hu⟩, rfl, rel.fz _ _ hb, rfl⟩, rk.look k⟩
def aAx (S : aP) (f : D → D → W → Res D) : Prop := ∀ X E, Ctx S X → pI X E → IxR X (aB6 X.K E f)
section
variable {S : aP} {pos : Pos} {a b : Expr} {ma mb : ME}
theorem SN {f : D → D → W → Res D}
  (h : ∀ (X : Cx) (E : XK), Ctx S X → pI X E → ∀ (I : List Addr) (F G : Hp) (d e : D) (w : W) (H : Hp) (x y : V) (Q : VK), Rel X.K I F G w H → aI X.K I F d x → aI X.K I F e y → aY X.K I F G E (RV X.K Q) (f d e w) →
   ∃ r : R2, IxR X r ∧ r x y H Q) : aAx S f := fun X E c xo value slice pins s σ H x y v u Q J rx ry ⟨I, F, G, d, e, w, rel, rd, re, p⟩ hs => by
 obtain ⟨r, ho, hr⟩ := h X E c xo I F G d e w H x y Q rel rd re p
 exact ho value slice pins s σ H x y v u Q J rx ry hr hs
theorem HD {X : Cx} {E : XK} {I : List Addr} {F G : Hp} {e : D} {w : W} {H : Hp} {x y : V} {Q : VK} (rel : Rel X.K I F G w H) (re : aI X.K I F e y) {xs : List D} {vs : List V} {q : Addr} (h1 : SqL X.K H q vs ∨ SqT X.K H q vs) (h2 : RepL X.K I F xs vs) (ex : x = .ref q)
  (p : aY X.K I F G E (RV X.K Q) (VL xs e w)) : ∃ r : R2, IxR X r ∧ r x y H Q := by
 cases e <;> first | exact p.elim | skip
 rename_i i
 simp only [aI] at re
 simp only [VL] at p
 cases ha : atI xs i with
 | none => rw [ha] at p; exact p.elim
 | some d =>
  rw [ha] at p
  obtain ⟨v, hv, rv⟩ := h2.at' ha
  rcases h1 with h1 | h1
  ·exact ⟨_, ix_list, q, vs, i, v, ex, re, h1, hv, p.n5 rel rv⟩
  ·exact ⟨_, ix_tup, q, vs, i, v, ex, re, h1, hv, p.n5 rel rv⟩
theorem aHi : aAx S aS := SN fun X E c xo I F G d e w H x y Q rel rd re p => by
 cases d <;> first | exact p.elim | skip
 case str z =>
  cases e <;> first | exact p.elim | skip
  rename_i i
  simp only [aI] at rd re
  simp only [aS, atS] at p
  split at p
  ·rename_i hz
   split at p
   ·rename_i c hc
    exact ⟨_, ix_str, z, i, c, rd, re, hz, hc, p.n5 rel (by simp [aI])⟩
   ·exact p.elim
  ·exact p.elim
 case tup xs =>
  simp only [aI] at rd
  obtain ⟨q, vs, ex, h1, h2⟩ := rd
  exact HD rel re (.inr (.of (rel.fz _ _ h1))) h2 ex p
 case gY xs =>
  simp only [aI] at rd
  obtain ⟨q, vs, ex, h1, h2⟩ := rd
  exact HD rel re (.inr (rel.Q8 h1)) h2 ex p
 case lst xs =>
  simp only [aI] at rd
  obtain ⟨q, vs, ex, h1, h2⟩ := rd
  exact HD rel re (.inl (.of (rel.fz _ _ h1))) h2 ex p
 case pR xs =>
  simp only [aI] at rd
  obtain ⟨q, vs, ex, h1, h2⟩ := rd
  exact HD rel re (.inl (rel.sqL h1)) h2 ex p
 case ref i =>
  simp only [aI] at rd
  obtain ⟨q, ex, h1⟩ := rd
  simp only [aS] at p
  split at p
  ·rename_i xs hw
   obtain ⟨u, hu, vs, rfl, h2⟩ := rel.ob i q _ h1 hw
   exact HD rel re (.inl (.of hu)) h2 ex p
  ·rename_i o hn hw
   split at p
   ·rename_i d hd
    obtain ⟨r, hr, u, rfl, ru⟩ := aDn rel h1 hw re hd
    exact ⟨_, aC2 (by have := c.room.units; omega), q, u, ex, hr, p.n5 rel ru⟩
   ·exact p.elim
  ·exact p.elim
theorem bF (ha : JE S a ma) (hb : JE S b mb) (hs : PlainIx b := by intro _ _; rfl) : JE S (.Subscript a b pos) (aD aS ma mb) := fun X E c xo =>
 cR (pe_ix (aHi X E c xo) (ha X E c xo) (hb X E c xo) hs) fun _ _ _ h => zO h
end
abbrev MO' := Sg → W → Res (Option Int)
def cW : MO' := fun _ w => .ok none w
def cN (m : ME) : MO' := fun σ w => (m σ w).bind fun d w1 => match d with
 | .int i => .ok (some i) w1
 | _ => .bad
def RO (Q : Option Int → Hp → Prop) : List Addr → Hp → Hp → Option Int → W → Prop := fun _ _ H' o _ => Q o H'
def aIU (K : PySem.W.Frag) (E : XK) (m : MO') : TO := fun σ H Q => ∃ I F G ds w, Rel K I F G w H ∧ gF K I F ds σ ∧ aY K I F G E (RO Q) (m ds w)
def JO (S : aP) (e : Option Expr) (m : MO') : Prop := ∀ X E, Ctx S X → pI X E → PO X e (aIU X.K E m)
def cutD (xs : List D) (lo hi : Option Int) : List D := (xs.drop (HT.sIx xs.length 0 lo)).take (HT.sIx xs.length xs.length hi - HT.sIx xs.length 0 lo)
def g6 (x : D) (lo hi : Option Int) (w : W) : Res D := match x with
 | .tup xs => .ok (.tup (cutD xs lo hi)) w
 | .str z => if z.length ≤ sizeLine then .ok (.str (cutS z lo hi)) w else .bad
 | .lst xs => .ok (.lst (cutD xs lo hi)) w
 | .pR xs => .ok (.lst (cutD xs lo hi)) w
 | .gY xs => if HT.sIx xs.length 0 lo = 0 ∧ HT.sIx xs.length xs.length hi = xs.length then .ok (.gY xs) w else .ok (.tup (cutD xs lo hi)) w
 | .ref i => (match w[i]? with
  | some (.lst xs) => .ok (.lst (cutD xs lo hi)) w
  | _ => .bad)
 | _ => .bad
def oM (f : D → Option Int → Option Int → W → Res D) (a : ME) (lo hi : MO') : ME := fun σ w => (a σ w).bind fun x w1 => (lo σ w1).bind fun l w2 => (hi σ w2).bind fun u w3 => f x l u w3
theorem RepL.cutV {K : PySem.W.Frag} {I : List Addr} {F : Hp} {ds : List D} {vs : List V} (r : RepL K I F ds vs) (lo hi : Option Int) : RepL K I F (cutD ds lo hi) (L2.cutV vs lo hi) := by
 unfold cutD L2.cutV
 rw [← r.length]
 exact (r.drop _).take _
theorem ZI {xs : List D} {lo hi : Option Int} (h : HT.sIx xs.length 0 lo = 0 ∧ HT.sIx xs.length xs.length hi = xs.length) : cutD xs lo hi = xs := by
 unfold cutD
 rw [h.1, h.2]
 simp
def SlM (S : aP) (f : D → Option Int → Option Int → W → Res D) : Prop := ∀ X E, Ctx S X → pI X E → ∀ (I : List Addr) (F G : Hp) (d : D) (w : W) (H : Hp) (x : V) (lo hi : Option Int) (Q : VK), Rel X.K I F G w H → aI X.K I F d x → aY X.K I F G E (RV X.K Q) (f d lo hi w) →
   ∃ r, SlR X r ∧ r x lo hi H Q
def aHd (K : PySem.W.Frag) (E : XK) (f : D → Option Int → Option Int → W → Res D) : V → Option Int → Option Int → Hp → VK → Prop := fun x lo hi H Q => ∃ I F G d w, Rel K I F G w H ∧ aI K I F d x ∧ aY K I F G E (RV K Q) (f d lo hi w)
section
variable {S : aP} {pos p2 : Pos} {a e : Expr} {ma m : ME} {lo hi : Option Expr} {ml mh : MO'} {f : D → Option Int → Option Int → W → Res D}
theorem fZ : JO S none cW := fun X E c xo => ⟨fun pins s σ H Q J ⟨I, F, G, ds, w, rel, rs, p⟩ => po_none.run pins s σ H Q J (p I F H .refl rel)⟩
theorem fY (h : JE S e m) : JO S (some e) (cN m) := fun X E c xo => ⟨fun pins s σ H Q J ⟨I, F, G, ds, w, rel, rs, p⟩ => (po_some (h X E c xo)).run pins s σ H Q J
 (bY (f := fun _ d w1 => match d with
  | .int i => Res.ok (some i) w1
  | _ => .bad) rel rs p fun I1 F1 H1 x w1 v e1 rel1 rs1 rv p1 => by
  cases x <;> first | exact p1.elim | skip
  simp only [aI] at rv
  exact ⟨_, rv, p1 I1 F1 H1 .refl rel1⟩)⟩
theorem nV : SlM S g6 := fun X E c xo I F G d w H x lo hi Q rel rd p => by
 cases d <;> first | exact p.elim | skip
 case tup xs =>
  simp only [aI] at rd
  obtain ⟨q, vs, ex, h1, h2⟩ := rd
  refine ⟨_, sl_tupA, q, vs, ex, .of (rel.fz _ _ h1), fun hw => ?_, fun hw => ?_⟩
  ·rw [← h2.length] at hw
   refine p.n5 rel ?_
   rw [ZI hw]
   simp only [aI]
   exact ⟨q, vs, ex ▸ rfl, h1, h2⟩
  ·exact BK rel (h2.cutV lo hi) p
 case str z =>
  simp only [aI] at rd
  simp only [g6] at p
  split at p
  ·rename_i hz
   exact ⟨_, sl_str, z, rd, hz, p.n5 rel (by simp [aI])⟩
  ·exact p.elim
 case lst xs =>
  simp only [aI] at rd
  obtain ⟨q, vs, ex, h1, h2⟩ := rd
  exact ⟨_, sl_list, q, vs, ex, .of (rel.fz _ _ h1), oI rel (h2.cutV lo hi) p⟩
 case pR xs =>
  simp only [aI] at rd
  obtain ⟨q, vs, ex, h1, h2⟩ := rd
  exact ⟨_, sl_list, q, vs, ex, rel.sqL h1, oI rel (h2.cutV lo hi) p⟩
 case gY xs =>
  simp only [aI] at rd
  obtain ⟨q, vs, ex, h1, h2⟩ := rd
  simp only [g6] at p
  refine ⟨_, sl_tupA, q, vs, ex, rel.Q8 h1, fun hw => ?_, fun hw => ?_⟩
  ·rw [← h2.length] at hw
   rw [if_pos hw] at p
   refine p.n5 rel ?_
   simp only [aI]
   exact ⟨q, vs, ex ▸ rfl, h1, h2⟩
  ·rw [← h2.length] at hw
   rw [if_neg hw] at p
   exact BK rel (h2.cutV lo hi) p
 case ref i =>
  simp only [aI] at rd
  obtain ⟨q, ex, h1⟩ := rd
  simp only [g6] at p
  split at p
  ·rename_i xs hw
   obtain ⟨u, hu, vs, rfl, h2⟩ := rel.ob i q _ h1 hw
   exact ⟨_, sl_list, q, vs, ex, .of hu, oI rel (h2.cutV lo hi) p⟩
  ·exact p.elim
theorem nZ (hf : SlM S f) (ha : JE S a ma) (hl : JO S lo ml) (hh : JO S hi mh) : JE S (.Subscript a (.Slice lo hi none p2) pos) (oM f ma ml mh) := fun X E c xo => by
 have hr : SlR X (aHd X.K E f) := fun pins s σ H x v vl vu l u sl Q J rx hs pl pu ⟨I, F, G, d, w, rel, rd, p⟩ => by
  obtain ⟨r, h1, h2⟩ := hf X E c xo I F G d w H x l u Q rel rd p
  exact h1 pins s σ H x v vl vu l u sl Q J rx hs pl pu h2
 refine cR (pe_slice hr (ha X E c xo) (hl X E c xo) (hh X E c xo)) fun σ H Q ⟨I, F, G, ds, w, rel, rs, p⟩ => ?_
 refine bY (f := fun ds x w1 => (ml ds w1).bind fun l w2 => (mh ds w2).bind fun u w3 => f x l u w3) rel rs p fun I1 F1 H1 x w1 v e1 rel1 rs1 rv p1 => ?_
 refine ⟨I1, F1, G, ds, w1, rel1, rs1, (aY.bind p1).mono fun I2 F2 H2 l w2 _ e2 rel2 p2 => ?_⟩
 refine ⟨I2, F2, G, ds, w2, rel2, rs1.ext e2, (aY.bind p2).mono fun I3 F3 H3 u w3 _ e3 rel3 p3 => ?_⟩
 exact ⟨I3, F3, G, x, w3, rel3, aI.ext (e2.trans e3) _ _ rv, p3⟩
end
def setM (o i d : D) (w : W) : Res Unit := match o with
 | .ref r => (match w[r]? with
  | some (.lst xs) => (match i with
   | .int k => (match ixN xs.length k with
    | some j => .ok () (w.set r (.lst (xs.set j d)))
    | none => .bad)
   | _ => .bad)
  | some (.dK kvs) => (match keyD i with
   | some k => if kvs.length < sizeLine then .ok () (w.set r (.dK (putD kvs k d))) else .bad
   | none => .bad)
  | some (.dT kvs) => (match i with
   | .tup ys => (match xK ys with
    | some k => if kvs.length < sizeLine then .ok () (w.set r (.dT (putD kvs k d))) else .bad
    | none => .bad)
   | _ => .bad)
  | _ => .bad)
 | _ => .bad
def eJ (mo mi : ME) : MG := fun d σ w => (mo σ w).bind fun o w1 => (mi σ w1).bind fun i w2 => (setM o i d w2).bind fun _ w3 => .ok σ w3
def aGI (K : PySem.W.Frag) (E : XK) : TSet := fun o i v H Q => ∃ I F G x y d w, Rel K I F G w H ∧ aI K I F x o ∧ aI K I F y i ∧ aI K I F d v ∧ aY K I F G E (fun _ _ H' _ _ => Q H') (setM x y d w)
theorem aA3 {X : Cx} {E : XK} (hu : X.A.units + 1 < cLine) : PSet X (aGI X.K E) := by
 intro pins s σ H o i v ov iv u Q J ro ri rv ⟨I, F, G, x, y, d, w, rel, rx, ry, rd, p⟩
 cases x <;> first | exact p.elim | skip
 rename_i r
 simp only [aI] at rx
 obtain ⟨a, rfl, h1⟩ := rx
 simp only [setM] at p
 split at p
 ·rename_i xs hw
  obtain ⟨t, hu', vs, rfl, h2⟩ := rel.ob r a _ h1 hw
  cases y <;> first | exact p.elim | skip
  rename_i k
  simp only [aI] at ry
  subst ry
  dsimp only at p
  split at p
  ·rename_i j hj
   exact set_list pins s σ H _ _ v ov iv u Q J ro ri rv ⟨a, vs, k, j, rfl, rfl, hu', by rw [← h2.length]; exact hj, p I F _ .refl (rel.upd h1 hw ⟨_, rfl, h2.set j rd⟩)⟩
  ·exact p.elim
 ·rename_i kvs hw
  obtain ⟨t, hu', vs, rfl, h2⟩ := rel.ob r a _ h1 hw
  split at p
  ·rename_i k hk
   split at p
   ·rename_i hl
    obtain rfl := vS ry hk
    cases ro
    exact d_setItem hu J (.inl ⟨vs, k, hu', rfl, by rw [← h2.length]; exact hl, rfl⟩) ri rv fun s' J' => ⟨_, J', p I F _ .refl (rel.upd h1 hw ⟨_, rfl, h2.put k rd⟩)⟩
   ·exact p.elim
  ·exact p.elim
 ·rename_i kvs hw
  obtain ⟨t, hu', vs, rfl, h2⟩ := rel.ob r a _ h1 hw
  cases y <;> first | exact p.elim | skip
  rename_i ys
  dsimp only at p
  split at p
  ·rename_i k hk
   split at p
   ·rename_i hl
    simp only [aI] at ry
    obtain ⟨b, us, rfl, hb, rl⟩ := ry
    obtain rfl := wJ rl hk
    cases ro
    exact d_setItem hu J (.inr ⟨vs, k, b, hu', rfl, rel.fz _ _ hb, by rw [← h2.length]; exact hl, rfl⟩) ri rv fun s' J' => ⟨_, J', p I F _ .refl (rel.upd h1 hw ⟨_, rfl, h2.put k rd⟩)⟩
   ·exact p.elim
  ·exact p.elim
 ·exact p.elim
section
variable {S : aP} {pos : Pos} {o i : Expr} {mo mi : ME}
theorem VF (ho : JE S o mo) (hi : JE S i mi)
  (ha : ∀ (env : Env) v, assign (.Subscript o i pos) env v = (do
   let ov ← holding [v] (eval o env)
   let iv ← holding [v, ov] (eval i env)
   standAt pos
   holding [v, ov, iv] (setItem ov iv v)
   release [v, ov, iv] []) := by intro _ _; rfl) : JG S (.Subscript o i pos) (eJ mo mi) := fun X E c xo =>
 BH (pg_sub (ho X E c xo) (hi X E c xo) (aA3 (E := E) (by have := c.room.units; omega)) (ha X.env)) fun v σ H Q ⟨I, F, G, d, ds, w, rel, rs, rv, p⟩ => by
  refine bY (f := fun ds x w1 => (mi ds w1).bind fun y w2 => (setM x y d w2).bind fun _ w3 => Res.ok ds w3) rel rs p fun I1 F1 H1 x w1 u e1 rel1 rs1 ru p1 => ?_
  refine bY (f := fun ds y w2 => (setM x y d w2).bind fun _ w3 => Res.ok ds w3) rel1 rs1 p1 fun I2 F2 H2 y w2 t e2 rel2 rs2 rt p2 => ?_
  exact ⟨I2, F2, G, x, y, d, w2, rel2, aI.ext e2 _ _ ru, rt, aI.ext (e1.trans e2) _ _ rv, (aY.bind p2).mono fun I3 F3 H3 z w3 _ e3 rel3 p3 => p3 I3 F3 H3 .refl rel3 σ (rs2.ext e3)⟩
end
def aH5 (K : PySem.W.Frag) (E : XK) (m : MF) : List V → Hp → VK → Prop := fun vs H Q => ∃ I F G ds w, Rel K I F G w H ∧ RepL K I F ds vs ∧ aY K I F G E (RV K Q) (m ds w)
def CB (S : aP) (f : Value) (m : MF) : Prop := ∀ X E, Ctx S X → pI X E → CallR X f (aH5 X.K E m)
def aQ (m : MF) (ma : MA) : ME := fun σ w => (ma σ w).bind fun xs w1 => m xs w1
section
variable {S : aP} {m : MF} {x : Str} {p pos : Pos} {e : Expr} {es : List Expr} {ma : MA} {f : Value}
theorem vB (h : ∀ (X : Cx) (E : XK), Ctx S X → pI X E → ∀ (I : List Addr) (F G : Hp) (ds : List D) (w : W) (H : Hp) (vs : List V) (Q : VK), Rel X.K I F G w H → RepL X.K I F ds vs → aY X.K I F G E (RV X.K Q) (m ds w) → ∃ r, CallR X f r ∧ r vs H Q) : CB S f m :=
 fun X E c xo pins s σ H vs us Q J r ⟨I, F, G, ds, w, rel, rl, p⟩ => by
  obtain ⟨r', h1, h2⟩ := h X E c xo I F G ds w H vs Q rel rl p
  exact h1 pins s σ H vs us Q J r h2
theorem YH {K : PySem.W.Frag} {E : XK} {σ : L2.St} {H : Hp} {Q : VK} (h : sQ K E (aQ m ma) σ H Q) : tCB (aH5 K E m) (aD5 K E ma) σ H Q := by
 obtain ⟨I, F, G, ds, w, rel, rs, p⟩ := h
 exact fB (f := fun _ xs w1 => m xs w1) rel rs p fun I1 F1 H1 xs w1 vs e1 rel1 rs1 rvs p1 => ⟨I1, F1, G, xs, w1, rel1, rvs, p1⟩
theorem aW {id : String} (hc : CB S (.builtin id) m) (hg : S.sc.names.lookup x = some .globalImplicit) (hm : S.mg x = none) (hv : bootBuiltins x = some (.builtin id)) (ha : JA S (e :: es) ma) (hn : x ≠ "__name__" := by decide) (hdb : (x == ("__debug__" : Str)) = false := by decide)
  (he : ∀ env : Env, starEach (e :: es) env = (false, eval e env) :: starEach es env := by intro _; rfl) (hpl : ∀ env : Env, (backTo pos (starEach es env)).any (·.1) = false := by intro _; rfl) : JE S (.Call (.Name x p) (e :: es) [] pos) (aQ m ma) := fun X E c xo =>
 cR (pe_callB (hc X E c xo) (by show X.env.scope.names.lookup x = _; rw [c.sc]; exact hg) (by rw [c.mg]; exact hm) hv (ha X E c xo) hn hdb (he X.env) (hpl X.env)) fun _ _ _ h => YH h
theorem iN {id : String} (hc : CB S (.type id) m) (hg : S.sc.names.lookup x = some .globalImplicit) (hm : S.mg x = none) (hv : bootBuiltins x = some (.type id)) (ha : JA S (e :: es) ma) (hn : x ≠ "__name__" := by decide) (hdb : (x == ("__debug__" : Str)) = false := by decide)
  (he : ∀ env : Env, starEach (e :: es) env = (false, eval e env) :: starEach es env := by intro _; rfl) (hpl : ∀ env : Env, (backTo pos (starEach es env)).any (·.1) = false := by intro _; rfl) : JE S (.Call (.Name x p) (e :: es) [] pos) (aQ m ma) := fun X E c xo =>
 cR (pe_callTy (hc X E c xo) (by show X.env.scope.names.lookup x = _; rw [c.sc]; exact hg) (by rw [c.mg]; exact hm) hv (ha X E c xo) hn hdb (he X.env) (hpl X.env)) fun _ _ _ h => YH h
end
theorem RepL.one {K : PySem.W.Frag} {I : List Addr} {F : Hp} {d : D} {vs : List V} (h : RepL K I F [d] vs) : ∃ v, vs = [v] ∧ aI K I F d v := by
 simp only [RepL] at h
 obtain ⟨v, r, rfl, h1, rfl⟩ := h
 exact ⟨v, rfl, h1⟩
theorem RepL.two {K : PySem.W.Frag} {I : List Addr} {F : Hp} {d e : D} {vs : List V} (h : RepL K I F [d, e] vs) : ∃ v u, vs = [v, u] ∧ aI K I F d v ∧ aI K I F e u := by
 simp only [RepL] at h
 obtain ⟨v, r, rfl, h1, u, r2, rfl, h2, rfl⟩ := h
 exact ⟨v, u, rfl, h1, h2⟩
theorem AE {K : PySem.W.Frag} {I : List Addr} {F G H : Hp} {w : W} (rel : Rel K I F G w H) {d : D} {v : V} {xs : List D} (h : aI K I F d v) (e : d.items w = some xs) : ∃ a vs, v = .ref a ∧ (SqL K H a vs ∨ SqT K H a vs) ∧ RepL K I F xs vs := by
 cases d <;> simp only [D.items, ah, reduceCtorEq] at e <;> simp only [aI] at h
 case tup => subst e; obtain ⟨a, vs, h0, h1, h2⟩ := h; exact ⟨a, vs, h0, .inr (.of (rel.fz _ _ h1)), h2⟩
 case gY => subst e; obtain ⟨a, vs, h0, h1, h2⟩ := h; exact ⟨a, vs, h0, .inr (rel.Q8 h1), h2⟩
 case lst => subst e; obtain ⟨a, vs, h0, h1, h2⟩ := h; exact ⟨a, vs, h0, .inl (.of (rel.fz _ _ h1)), h2⟩
 case pR => subst e; obtain ⟨a, vs, h0, h1, h2⟩ := h; exact ⟨a, vs, h0, .inl (rel.sqL h1), h2⟩
 case ref i =>
  split at e
  ·rename_i ys hw
   cases e
   obtain ⟨a, h0, h1⟩ := h
   obtain ⟨u, hu, vs, rfl, h2⟩ := rel.ob i a _ h1 hw
   exact ⟨a, vs, h0, .inl (.of hu), h2⟩
  ·cases e
def JB (d : D) (w : W) : Option Nat := match d with
 | .str z => if z.length ≤ sizeLine then some z.length else none
 | .ref i => (match w[i]? with
  | some (.lst xs) => some xs.length
  | some (.dK kvs) => some kvs.length
  | _ => none)
 | d => (d.items w).map List.length
def cX : MF := fun ds w => match ds with
 | [d] => (match JB d w with
  | some n => .ok (.int n) w
  | none => .bad)
 | _ => .bad
def nB : List D → Option (List Int)
 | [] => some []
 | .int i :: r => (nB r).map (i :: ·)
 | _ :: _ => none
theorem oP {K : PySem.W.Frag} {I : List Addr} {F : Hp} : ∀ {ds : List D} {vs : List V} {ns : List Int}, RepL K I F ds vs → nB ds = some ns → vs = ns.map V.int
 | [], vs, ns, h, e => by simp only [nB, ah] at e; subst e; simp only [RepL] at h; exact h
 | d :: ds, vs, ns, h, e => by
  cases d <;> simp only [nB, au, reduceCtorEq] at e
  obtain ⟨r, e1, rfl⟩ := e
  simp only [RepL, aI] at h
  obtain ⟨v, t, rfl, rfl, h2⟩ := h
  rw [oP h2 e1]
  rfl
def xG (d : D) (w : W) : Option (List D) := match d with
 | .lst xs => some xs
 | .pR xs => some xs
 | .ref i => (match w[i]? with
  | some (.lst xs) => some xs
  | _ => none)
 | _ => none
def zI (d : D) : Option (List D) := match d with
 | .tup xs => some xs
 | .gY xs => some xs
 | _ => none
theorem EY {K : PySem.W.Frag} {I : List Addr} {F G H : Hp} {w : W} (rel : Rel K I F G w H) {d : D} {v : V} {xs : List D} (h : aI K I F d v) (e : xG d w = some xs) : ∃ a vs, v = .ref a ∧ SqL K H a vs ∧ RepL K I F xs vs := by
 cases d <;> simp only [xG, ah, reduceCtorEq] at e <;> simp only [aI] at h
 case lst => subst e; obtain ⟨a, vs, h0, h1, h2⟩ := h; exact ⟨a, vs, h0, .of (rel.fz _ _ h1), h2⟩
 case pR => subst e; obtain ⟨a, vs, h0, h1, h2⟩ := h; exact ⟨a, vs, h0, rel.sqL h1, h2⟩
 case ref i =>
  split at e
  ·rename_i ys hw
   cases e
   obtain ⟨a, h0, h1⟩ := h
   obtain ⟨u, hu, vs, rfl, h2⟩ := rel.ob i a _ h1 hw
   exact ⟨a, vs, h0, .of hu, h2⟩
  ·cases e
theorem LN {K : PySem.W.Frag} {I : List Addr} {F G H : Hp} {w : W} (rel : Rel K I F G w H) {d : D} {v : V} {xs : List D} (h : aI K I F d v) (e : zI d = some xs) : ∃ a vs, v = .ref a ∧ SqT K H a vs ∧ RepL K I F xs vs := by
 cases d <;> simp only [zI, ah, reduceCtorEq] at e <;> simp only [aI] at h
 case tup => subst e; obtain ⟨a, vs, h0, h1, h2⟩ := h; exact ⟨a, vs, h0, .of (rel.fz _ _ h1), h2⟩
 case gY => subst e; obtain ⟨a, vs, h0, h1, h2⟩ := h; exact ⟨a, vs, h0, rel.Q8 h1, h2⟩
def PM : MF := fun ds w => match ds with
 | [d] => (match (xG d w).bind nB with
  | some ns => .ok (.int ns.sum) w
  | none => .bad)
 | _ => .bad
def HI : MF := fun ds w => match ds with
 | [d] => (match d.items w with
  | some xs => .ok (.lst xs) w
  | none => .bad)
 | _ => .bad
def E7 : MF := fun ds w => match ds with
 | [d] => (match d.items w with
  | some xs => .ok (.ref w.length) (w ++ [.lst xs])
  | none => .bad)
 | _ => .bad
def iC : MF := fun ds w => match ds with
 | [.tup xs] => .ok (.tup xs) w
 | [d] => (match xG d w with
  | some xs => .ok (.tup xs) w
  | none => .bad)
 | _ => .bad
def HK (d : D) (w : W) : Option Str := match d.py w with
 | some p => if p.showable = true ∧ p.hasDict = false ∧ p.depth ≤ 60 ∧ p.shown.length ≤ sizeLine then some p.shown else none
 | none => none
def qZ : MF := fun ds w => match ds with
 | [d] => (match HK d w with
  | some z => .ok (.str z) w
  | none => .bad)
 | _ => .bad
def ED : MF := fun ds w => match ds with
 | [.int i] => .ok (.int i) w
 | [.bl b] => .ok (.int (if b then 1 else 0)) w
 | _ => .bad
def max2 : MF := fun ds w => match ds with
 | [.int i, .int j] => .ok (.int (if j > i then j else i)) w
 | _ => .bad
def min2 : MF := fun ds w => match ds with
 | [.int i, .int j] => .ok (.int (if j < i then j else i)) w
 | _ => .bad
section
variable {S : aP}
theorem fR : CB S (.builtin "len") cX := vB fun X E c xo I F G ds w H vs Q rel rl p => by
 unfold cX at p
 split at p
 ·rename_i d
  obtain ⟨v, rfl, rv⟩ := rl.one
  split at p
  ·rename_i n hn
   have go : ∀ {xs : List D}, d.items w = some xs → n = xs.length → ∃ r, CallR X (.builtin "len") r ∧ r [v] H Q := fun {xs} h1 h2 => by
    obtain ⟨a, us, rfl, hq, hr⟩ := AE rel rv h1
    refine ⟨_, call_len, .ref a, n, rfl, ?_, p.n5 rel (by simp [aI])⟩
    rw [h2, hr.length]
    rcases hq with hq | hq
    ·exact .inl ⟨us, hq, rfl⟩
    ·exact .inr ⟨us, hq, rfl⟩
   cases d <;> simp only [JB, D.items, Option.map_some, Option.map_none, ah, reduceCtorEq] at hn
   case str z =>
    split at hn
    ·rename_i hz
     cases hn
     simp only [aI] at rv
     subst rv
     exact ⟨_, call_len, .str z, z.length, rfl, ⟨hz, rfl⟩, p.n5 rel (by simp [aI])⟩
    ·cases hn
   case tup => exact go (by simp [D.items]) hn.symm
   case gY => exact go (by simp [D.items]) hn.symm
   case lst => exact go (by simp [D.items]) hn.symm
   case pR => exact go (by simp [D.items]) hn.symm
   case ref i =>
    split at hn
    ·rename_i xs hw
     exact go (by simp [D.items, hw]) (Option.some.inj hn).symm
    ·rename_i kvs hw
     cases hn
     simp only [aI] at rv
     obtain ⟨a, rfl, h1⟩ := rv
     obtain ⟨u, hu, us, rfl, h2⟩ := rel.ob i a _ h1 hw
     exact ⟨_, call_lenD, a, us, rfl, hu, p.n5 rel (by simp [aI, h2.length])⟩
    ·cases hn
  ·exact p.elim
 ·exact p.elim
theorem aFZ : CB S (.builtin "sum") PM := vB fun X E c xo I F G ds w H vs Q rel rl p => by
 unfold PM at p
 split at p
 ·rename_i d
  obtain ⟨v, rfl, rv⟩ := rl.one
  split at p
  ·rename_i ns hn
   obtain ⟨xs, h1, h2⟩ := dz.mp hn
   obtain ⟨a, us, rfl, hq, hr⟩ := EY rel rv h1
   obtain rfl := oP hr h2
   exact ⟨_, cr_sum c.calm, a, ns, rfl, hq, p.n5 rel (by simp [aI])⟩
  ·exact p.elim
 ·exact p.elim
theorem aC1 : CB S (.type "list") HI := vB fun X E c xo I F G ds w H vs Q rel rl p => by
 unfold HI at p
 split at p
 ·rename_i d
  obtain ⟨v, rfl, rv⟩ := rl.one
  split at p
  ·rename_i xs hn
   obtain ⟨a, us, rfl, hq, hr⟩ := AE rel rv hn
   exact ⟨_, call_list_of, a, us, rfl, hq, oI rel hr p⟩
  ·exact p.elim
 ·exact p.elim
theorem aAU : CB S (.type "list") E7 := vB fun X E c xo I F G ds w H vs Q rel rl p => by
 unfold E7 at p
 split at p
 ·rename_i d
  obtain ⟨v, rfl, rv⟩ := rl.one
  split at p
  ·rename_i xs hn
   obtain ⟨a, us, rfl, hq, hr⟩ := AE rel rv hn
   exact ⟨_, call_list_of, a, us, rfl, hq, z9 (o := .lst xs) rel ⟨us, rfl, hr⟩ p⟩
  ·exact p.elim
 ·exact p.elim
theorem vH : CB S (.type "tuple") iC := vB fun X E c xo I F G ds w H vs Q rel rl p => by
 unfold iC at p
 split at p
 ·rename_i xs
  obtain ⟨v, rfl, rv⟩ := rl.one
  have rv' := rv
  simp only [aI] at rv'
  obtain ⟨a, us, rfl, h1, h2⟩ := rv'
  exact ⟨_, call_tuple_of, a, us, rfl, .inr ⟨.of (rel.fz _ _ h1), p.n5 rel rv⟩⟩
 ·rename_i d _
  obtain ⟨v, rfl, rv⟩ := rl.one
  split at p
  ·rename_i xs hn
   obtain ⟨a, us, rfl, hq, hr⟩ := EY rel rv hn
   exact ⟨_, call_tuple_of, a, us, rfl, .inl ⟨hq, BK rel hr p⟩⟩
  ·exact p.elim
 ·exact p.elim
theorem aGr : CB S (.type "int") ED := vB fun X E c xo I F G ds w H vs Q rel rl p => by
 unfold ED at p
 split at p
 ·rename_i i
  obtain ⟨v, rfl, rv⟩ := rl.one
  simp only [aI] at rv
  subst rv
  exact ⟨_, call_int1, .inl ⟨i, rfl, p.n5 rel (by simp [aI])⟩⟩
 ·rename_i b
  obtain ⟨v, rfl, rv⟩ := rl.one
  simp only [aI] at rv
  subst rv
  exact ⟨_, call_int1, .inr ⟨b, rfl, p.n5 rel (by simp [aI])⟩⟩
 ·exact p.elim
theorem zU : CB S (.builtin "repr") qZ := fun X E c xo pins s σ H vs us Q J r ⟨I, F, G, ds, w, rel, rl, p⟩ => by
 unfold qZ at p
 split at p
 ·rename_i d
  obtain ⟨v, rfl, rv⟩ := rl.one
  obtain ⟨u, rfl, ru⟩ := vals1 r
  split at p
  ·rename_i z hz
   unfold HK at hz
   split at hz
   ·rename_i q hq
    split at hz
    ·rename_i hc
     cases hz
     obtain ⟨c1, c2, c3, c4⟩ := hc
     obtain ⟨as, rd⟩ := Dp.reads J q v u (KS rel rv hq) ru
     have fin : ∀ (h' : Heap) (t tk : Nat), (∀ b o, s.heap.get? b = some o → h'.get? b = some o) → EP X pins σ Q (.str q.shown t) { s with heap := h', toks := tk } := fun h' t tk hk => ⟨.str q.shown, H, J.kept hk, ⟨_, rfl⟩, p.n5 rel (by simp [aI])⟩
     cases u with
     | ref a => exact repr_of_reads' rd c1 (fun z => by rw [c2] at z; cases z) c.OQ (by have := c.room.units; omega) (fun _ _ h => h) (fun h' t tk hk => fin h' t tk hk) c4
     | none => cases rd; exact PySem.P.repr_of_none (by have := fin s.heap s.toks (s.toks + 1) fun _ _ h => h; simpa [PyData.shown] using this)
     | bool b => cases rd; exact PySem.P.repr_of_bool (by have := fin s.heap s.toks (s.toks + 1) fun _ _ h => h; simpa [PyData.shown] using this)
     | int i t => cases rd; exact PySem.P.repr_of_int (by simpa [PyData.showable] using c1) (by have := fin s.heap s.toks (s.toks + 1) fun _ _ h => h; simpa [PyData.shown] using this)
     | str x t => cases rd; exact PySem.P.repr_of_str (by have := fin s.heap s.toks (s.toks + 1) fun _ _ h => h; simpa [PyData.shown] using this) (by simpa [PyData.shown] using c4)
     | _ => cases rd
    ·cases hz
   ·cases hz
  ·exact p.elim
 ·exact p.elim
end
abbrev ZO := D → List D → W → Res D
def aIy (K : PySem.W.Frag) (E : XK) (m : ZO) : V → List V → Hp → VK → Prop := fun x vs H Q => ∃ I F G d ds w, Rel K I F G w H ∧ aI K I F d x ∧ RepL K I F ds vs ∧ aY K I F G E (RV K Q) (m d ds w)
def MB (S : aP) (id : String) (m : ZO) : Prop := ∀ X E, Ctx S X → pI X E → MtR X id (aIy X.K E m)
def tyD (d : D) (w : W) : Option String := match d with
 | .str _ => some "str"
 | .lst _ => some "list"
 | .pR _ => some "list"
 | .ref i => (match w[i]? with
  | some (.lst _) => some "list"
  | some (.dK _) => some "dict"
  | some (.dT _) => some "dict"
  | some (.dG _) => some "dict"
  | _ => none)
 | _ => none
def aFX (K : PySem.W.Frag) (T : String) (x : V) (H : Hp) : Prop := tyV K T x H ∨ (T = "dict" ∧ ∃ p o kvs, x = .ref p ∧ H p = some (.frz o (.dT kvs)))
theorem aCK {X : Cx} {pins : List (Addr × Obj)} {σ : L2.St} {H : Hp} {s : Shared} {T : String} {x : V} {v : Value} (I : Inv X pins σ H s) (r : RelV x v) (ty : aFX X.K T x H) :
  s.TypeIs v T ∧ ∀ a, v = .ref a → ∃ ob, s.heap.get? a = some ob ∧ ob.dict = none := by
 rcases ty with ty | ⟨rfl, p, o, kvs, rfl, hp⟩
 ·exact tyV_is I r ty
 ·cases r
  obtain ⟨_, hgd, ex, _⟩ := I.frzT hp
  exact ⟨⟨o, hgd, ex.1⟩, fun a e => by cases e; exact ⟨o, hgd, ex.2.1⟩⟩
def aID (K : PySem.W.Frag) (T : String) (r : V → List V → Hp → VK → Prop) (to : TE) (t : TA) : TE := fun σ H Q => to σ H fun x H1 => aFX K T x H1 ∧ t σ H1 fun xs H2 => r x xs H2 Q
section
variable {X : Cx} {o e : Expr} {es : List Expr} {to : TE} {t : TA} {name : Str} {apos cpos : Pos} {T id : String} {r : V → List V → Hp → VK → Prop}
theorem aF6 (pa : PlainAttrs T) (slot : Slot T name id) (hty : typeOf (.builtin id) = pure (.type "method_descriptor")) (hm : MtR X id r) (ho : PE X o to) (ha : PA X (e :: es) t)
  (hbase : attributeBase o name X.env (eval o X.env) = eval o X.env := by rfl)
  (hfew : ((backTo cpos (starEach (e :: es) X.env)).all (fun x => !x.1) && (backToKw cpos (keywordEach [] X.env)).all (fun x => x.1.isSome)
   && decide ((e :: es).length + ([] : List Keyword).length + (if ([] : List Keyword).isEmpty then 0 else 1) < 30)) = true := by rfl)
  (hline : (apos.endLine == cpos.line) = true := by rfl) (hs : starEach (e :: es) X.env = (false, eval e X.env) :: starEach es X.env := by rfl) (hplain : (backTo cpos (starEach es X.env)).any (·.1) = false := by rfl) :
  PE X (.Call (.Attribute o name apos) (e :: es) [] cpos) (aID X.K T r to t) := by
 refine ⟨fun pins s σ H Q I h => ?_⟩
 refine wpAny_Call_method_late hbase hfew hline rfl (thn (ho.run pins s σ H _ I h) fun v s1 ⟨x, H1, I1, r1, ty, q1⟩ => ?_)
 obtain ⟨h1, h2⟩ := aCK I1 r1 ty
 refine ⟨T, id, pa, slot, hty, h1, h2, ?_⟩
 have hA := ha.run cpos pins s1 σ H1 _ I1 q1
 rw [hs] at hA ⊢
 refine Calls.callWith_builtin (by show (false || (backTo cpos (starEach es X.env)).any (·.1)) = false; rw [hplain] <;> rfl) (Calls.evalArgs_plain ?_)
 exact thn hA fun us s2 ⟨vs, H2, I2, r2, q2⟩ => hm pins s2 σ H2 x vs v us Q I2 r1 r2 q2
end
theorem aFS {K : PySem.W.Frag} {I : List Addr} {F G H : Hp} {w : W} (rel : Rel K I F G w H) {d : D} {v : V} (h : aI K I F d v) {T : String} (e : tyD d w = some T) : aFX K T v H := by
 cases d <;> simp only [tyD, ah, reduceCtorEq] at e <;> simp only [aI] at h
 case str => subst h; exact .inl e.symm
 case lst => obtain ⟨a, vs, rfl, h1, h2⟩ := h; exact .inl (.inl ⟨e.symm, vs, .of (rel.fz _ _ h1)⟩)
 case pR => obtain ⟨a, vs, rfl, h1, h2⟩ := h; exact .inl (.inl ⟨e.symm, vs, rel.sqL h1⟩)
 case ref i =>
  obtain ⟨a, rfl, h1⟩ := h
  split at e
  ·rename_i xs hw
   cases e
   obtain ⟨u, hu, vs, rfl, _⟩ := rel.ob i a _ h1 hw
   exact .inl (.inl ⟨rfl, vs, .of hu⟩)
  ·rename_i xs hw
   cases e
   obtain ⟨u, hu, vs, rfl, _⟩ := rel.ob i a _ h1 hw
   exact .inl (.inr (.inr (.inl ⟨rfl, .inl ⟨vs, hu⟩⟩)))
  ·rename_i xs hw
   cases e
   obtain ⟨u, hu, vs, rfl, _⟩ := rel.ob i a _ h1 hw
   exact .inl (.inr (.inr (.inl ⟨rfl, .inr ⟨vs, hu⟩⟩)))
  ·rename_i xs hw
   cases e
   obtain ⟨u, hu, ob, vs, rfl, _⟩ := rel.ob i a _ h1 hw
   exact .inr ⟨rfl, a, ob, vs, rfl, hu⟩
  ·cases e
def dD (T : String) (m : ZO) (mo : ME) (ma : MA) : ME := fun σ w => (mo σ w).bind fun d w1 => if tyD d w1 = some T then (ma σ w1).bind fun xs w2 => m d xs w2 else .bad
section
variable {S : aP} {m : ZO} {o e : Expr} {es : List Expr} {mo : ME} {ma : MA} {name : Str} {apos cpos : Pos} {T id : String}
theorem mN (pa : PlainAttrs T) (slot : Slot T name id) (hm : MB S id m) (ho : JE S o mo) (ha : JA S (e :: es) ma) (hty : typeOf (.builtin id) = pure (.type "method_descriptor") := by rfl)
  (hbase : ∀ env : Env, attributeBase o name env (eval o env) = eval o env := by intro _; rfl)
  (hfew : ∀ env : Env, ((backTo cpos (starEach (e :: es) env)).all (fun x => !x.1) && (backToKw cpos (keywordEach [] env)).all (fun x => x.1.isSome)
   && decide ((e :: es).length + ([] : List Keyword).length + (if ([] : List Keyword).isEmpty then 0 else 1) < 30)) = true := by intro _; rfl)
  (hline : (apos.endLine == cpos.line) = true := by rfl) (hs : ∀ env : Env, starEach (e :: es) env = (false, eval e env) :: starEach es env := by intro _; rfl) (hplain : ∀ env : Env, (backTo cpos (starEach es env)).any (·.1) = false := by intro _; rfl) :
  JE S (.Call (.Attribute o name apos) (e :: es) [] cpos) (dD T m mo ma) := fun X E c xo =>
 cR (aF6 pa slot hty (hm X E c xo) (ho X E c xo) (ha X E c xo) (hbase X.env) (hfew X.env) hline (hs X.env) (hplain X.env)) fun σ H Q ⟨I, F, G, ds, w, rel, rs, p⟩ =>
  bY (f := fun ds d w1 => if tyD d w1 = some T then (ma ds w1).bind fun xs w2 => m d xs w2 else .bad) rel rs p fun I1 F1 H1 d w1 v e1 rel1 rs1 rv p1 => by
   split at p1
   ·rename_i ht
    refine ⟨aFS rel1 rv ht, ?_⟩
    exact fB (f := fun _ xs w2 => m d xs w2) rel1 rs1 p1 fun I2 F2 H2 xs w2 vs e2 rel2 rs2 rvs p2 => ⟨I2, F2, G, d, xs, w2, rel2, aI.ext e2 _ _ rv, rvs, p2⟩
   ·exact p1.elim
theorem KI {id : String} (h : ∀ (X : Cx) (E : XK), Ctx S X → pI X E → ∀ (I : List Addr) (F G : Hp) (d : D) (ds : List D) (w : W) (H : Hp) (x : V) (vs : List V) (Q : VK), Rel X.K I F G w H → aI X.K I F d x → RepL X.K I F ds vs → aY X.K I F G E (RV X.K Q) (m d ds w) →
  ∃ r, MtR X id r ∧ r x vs H Q) : MB S id m := fun X E c xo pins s σ H x vs v us Q J rx rv ⟨I, F, G, d, ds, w, rel, rd, rl, p⟩ => by
 obtain ⟨r', h1, h2⟩ := h X E c xo I F G d ds w H x vs Q rel rd rl p
 exact h1 pins s σ H x vs v us Q J rx rv h2
end
def c8 : ZO := fun d ds w => match d, ds with
 | .ref i, [y] => (match w[i]? with
  | some (.lst xs) => if xs.length < sizeLine then .ok .non (w.set i (.lst (xs ++ [y]))) else .bad
  | _ => .bad)
 | _, _ => .bad
def CY : ZO := fun d ds w => match d, ds with
 | .ref i, [.int n] => (match w[i]? with
  | some (.lst xs) => if -(2 ^ 63) ≤ n ∧ n < 2 ^ 63 then (match seqIndex? n xs.length with
   | some k => (match xs[k]? with
    | some y => .ok y (w.set i (.lst (xs.eraseIdx k)))
    | none => .bad)
   | none => .bad) else .bad
  | _ => .bad)
 | _, _ => .bad
def wU : ZO := fun d ds w => match d, ds with
 | .ref i, [.lst zs] => (match w[i]? with
  | some (.lst xs) => if xs.length + zs.length ≤ sizeLine then .ok .non (w.set i (.lst (xs ++ zs))) else .bad
  | _ => .bad)
 | .ref i, [.ref j] => (match w[i]?, w[j]? with
  | some (.lst xs), some (.lst zs) => if xs.length + zs.length ≤ sizeLine then .ok .non (w.set i (.lst (xs ++ zs))) else .bad
  | _, _ => .bad)
 | _, _ => .bad
section
variable {K : PySem.W.Frag} {I : List Addr} {F : Hp}
theorem RepL.dropLast {ds : List D} {vs : List V} (r : RepL K I F ds vs) : RepL K I F ds.dropLast vs.dropLast := by
 rw [List.dropLast_eq_take, List.dropLast_eq_take, ← r.length]
 exact r.take _
theorem RepL.eraseIdx {ds : List D} {vs : List V} (r : RepL K I F ds vs) (i : Nat) : RepL K I F (ds.eraseIdx i) (vs.eraseIdx i) := by
 rw [List.eraseIdx_eq_take_drop_succ, List.eraseIdx_eq_take_drop_succ]
 exact (r.take _).append (r.drop _)
end
section
variable {S : aP}
theorem CA : MB S "list.append" c8 := KI fun X E c xo I F G d ds w H x vs Q rel rd rl p => by
 unfold c8 at p
 split at p
 ·rename_i i y
  simp only [aI] at rd
  obtain ⟨a, rfl, hi⟩ := rd
  obtain ⟨v, rfl, rv⟩ := rl.one
  split at p
  ·rename_i xs hw
   obtain ⟨u, hu, us, rfl, hr⟩ := rel.ob i a _ hi hw
   split at p
   ·rename_i hl
    exact ⟨_, mt_append, a, us, v, rfl, rfl, hu, by rw [← hr.length]; exact hl, p.n5 (rel.upd hi hw ⟨_, rfl, hr.append (RepL.cons rv (by simp [RepL]))⟩) (by simp [aI])⟩
   ·exact p.elim
  ·exact p.elim
 ·exact p.elim
theorem aAr : MB S "list.pop" CY := KI fun X E c xo I F G d ds w H x vs Q rel rd rl p => by
 unfold CY at p
 split at p
 ·rename_i i n
  simp only [aI] at rd
  obtain ⟨a, rfl, hi⟩ := rd
  obtain ⟨t, rfl, rt⟩ := rl.one
  simp only [aI] at rt
  subst rt
  split at p
  ·rename_i xs hw
   obtain ⟨u, hu, us, rfl, hr⟩ := rel.ob i a _ hi hw
   split at p
   ·rename_i hn
    split at p
    ·rename_i k hk
     split at p
     ·rename_i y hy
      obtain ⟨v, hv, rv⟩ := hr.get hy
      exact ⟨_, mt_popAt, a, us, n, k, v, rfl, rfl, hu, hn.1, hn.2, by rw [← hr.length]; exact hk, hv, p.n5 (rel.upd hi hw ⟨_, rfl, hr.eraseIdx k⟩) rv⟩
     ·exact p.elim
    ·exact p.elim
   ·exact p.elim
  ·exact p.elim
 ·exact p.elim
theorem K4 : MB S "list.extend" wU := KI fun X E c xo I F G d ds w H x vs Q rel rd rl p => by
 unfold wU at p
 split at p
 ·rename_i i zs
  simp only [aI] at rd
  obtain ⟨a, rfl, hi⟩ := rd
  obtain ⟨t, rfl, rt⟩ := rl.one
  simp only [aI] at rt
  obtain ⟨b, ts, rfl, hb, rt⟩ := rt
  split at p
  ·rename_i xs hw
   obtain ⟨u, hu, us, rfl, hr⟩ := rel.ob i a _ hi hw
   split at p
   ·rename_i hl
    exact ⟨_, mt_extend, a, b, us, ts, rfl, rfl, hu, rel.fz _ _ hb, by rw [← hr.length, ← rt.length]; exact hl, p.n5 (rel.upd hi hw ⟨_, rfl, hr.append rt⟩) (by simp [aI])⟩
   ·exact p.elim
  ·exact p.elim
 ·rename_i i j
  simp only [aI] at rd
  obtain ⟨a, rfl, hi⟩ := rd
  obtain ⟨t, rfl, rt⟩ := rl.one
  simp only [aI] at rt
  obtain ⟨b, rfl, hj⟩ := rt
  split at p
  ·rename_i xs zs hw hz
   obtain ⟨u, hu, us, rfl, hr⟩ := rel.ob i a _ hi hw
   obtain ⟨u2, hu2, ts, rfl, rt⟩ := rel.ob j b _ hj hz
   split at p
   ·rename_i hl
    exact ⟨_, mt_extend, a, b, us, ts, rfl, rfl, hu, hu2, by rw [← hr.length, ← rt.length]; exact hl, p.n5 (rel.upd hi hw ⟨_, rfl, hr.append rt⟩) (by simp [aI])⟩
   ·exact p.elim
  ·exact p.elim
 ·exact p.elim
end
def LK (x y : D) (w : W) : Option Bool := match x.py w, y.py w with
 | some p, some (.list qs) => if SeqAt.shaped p = true ∧ SeqAt.shaped (.list qs) = true then some (qs.any fun z => PyData.eqv z p) else none
 | some p, some (.tuple qs) => if SeqAt.shaped p = true ∧ SeqAt.shaped (.tuple qs) = true then some (qs.any fun z => PyData.eqv z p) else none
 | _, _ => none
def inD (x y : D) (w : W) : Option Bool := match y with
 | .ref i => (match w[i]? with
  | some (.dK kvs) => (rA (.dK kvs) x).map Option.isSome
  | some (.dT kvs) => (rA (.dT kvs) x).map Option.isSome
  | _ => LK x y w)
 | y => LK x y w
def ZG (x y : D) (w : W) : Res D := match inD x y w with
 | some b => .ok (.bl b) w
 | none => .bad
def aCj (x y : D) (w : W) : Res D := match inD x y w with
 | some b => .ok (.bl (!b)) w
 | none => .bad
theorem O8.isSome {K : PySem.W.Frag} {I : List Addr} {F : Hp} {d : Option D} {q : Option V} (h : O8 K I F d q) : q.isSome = d.isSome := by
 cases d with
 | none => rw [show q = none from h]; rfl
 | some d => obtain ⟨v, rfl, _⟩ := h; rfl
open PySem.W (EachIs AllAlike Sortable alike dataLe)
def OB (w : W) (d : D) : PyData := (d.py w).getD .none
def aA0 : PyData → Bool
 | .tuple (_ :: _) => true
 | _ => false
def XX : PyData → Bool
 | .none => false
 | .tuple _ => false
 | _ => true
def kD (ps : List PyData) : Bool := (ps.all fun p => ps.all fun q => alike p q) && (ps.all aA0 || ps.all XX) && ps.all fun p => decide (p.depth ≤ 60)
theorem kD.h1 {ps : List PyData} (h : kD ps = true) : AllAlike ps := by
 simp only [kD, ak, bg] at h
 exact fun d hd e he => h.1.1 d hd e he
theorem kD.h2 {ps : List PyData} (h : kD ps = true) : Sortable ps := by
 simp only [kD, ak, Bool.or_eq_true, bg] at h
 rcases h.1.2 with h | h
 ·refine .inl fun d hd => ?_
  have := h d hd
  unfold aA0 at this
  split at this
  ·exact ⟨_, _, rfl⟩
  ·cases this
 ·refine .inr fun d hd => ?_
  have := h d hd
  unfold XX at this
  split at this
  ·cases this
  ·cases this
  ·rename_i n1 n2
   exact ⟨n1, fun xs z => n2 xs z⟩
theorem kD.h3 {ps : List PyData} (h : kD ps = true) : ∀ p ∈ ps, p.depth ≤ 60 := by
 simp only [kD, ak, bg, aq] at h
 exact h.2
def O7 (xs : List D) (w : W) : Option (List D) := if xs.all (fun d => (d.py w).isSome) = true ∧ kD (xs.map (OB w)) = true ∧ xs.length ≤ sizeLine then some (xs.mergeSort (dataLe false (OB w))) else none
def oF : MF := fun ds w => match ds with
 | [d] => (match (xG d w).bind fun xs => O7 xs w with
  | some ys => .ok (.lst ys) w
  | none => .bad)
 | _ => .bad
def aGa (K : PySem.W.Frag) (I : List Addr) (F : Hp) (v : Value) (d : D) : Prop := ∃ x, RelV x v ∧ aI K I F d x
theorem WR {K : PySem.W.Frag} {I : List Addr} {F : Hp} : ∀ {ds : List D} {vs : List V} {us : List Value}, RepL K I F ds vs → Vals vs us → EachIs (aGa K I F) us ds
 | [], vs, us, h, r => by simp only [RepL] at h; subst h; cases r; exact .nil
 | d :: ds, vs, us, h, r => by
  simp only [RepL] at h
  obtain ⟨v, t, rfl, h2, h3⟩ := h
  cases r with
  | cons r1 r2 => exact .cons ⟨v, r1, h2⟩ (WR h3 r2)
theorem XO {K : PySem.W.Frag} {I : List Addr} {F : Hp} : ∀ {ds : List D} {us : List Value}, EachIs (aGa K I F) us ds → ∃ vs, RepL K I F ds vs ∧ Vals vs us
 | _, _, .nil => ⟨[], by simp [RepL], .nil⟩
 | _, _, .cons ⟨v, r1, h1⟩ t => by
  obtain ⟨vs, h2, h3⟩ := XO t
  exact ⟨v :: vs, RepL.cons h1 h2, .cons r1 h3⟩
def aBS (K : PySem.W.Frag) : List V → Hp → VK → Prop := fun vs H Q => ∃ I F G w a xs us, Rel K I F G w H ∧ vs = [V.ref a] ∧ SqL K H a us ∧ RepL K I F xs us ∧ ∃ ys, O7 xs w = some ys ∧ ∀ zs q, RepL K I F ys zs → H q = none → Q (.ref q) (upd H q (.lst zs))
theorem VI {X : Cx} (hu : X.A.units + 64 < cLine) : CallR X (.builtin "sorted") (aBS X.K) := by
 intro pins s σ H vs us0 Q J r h
 obtain ⟨I, F, G, w, a, xs, us, rel, rfl, hq, hr, ys, hy, q⟩ := h
 obtain ⟨its, rv, hl, hz⟩ := J.list hq
 obtain ⟨u, rfl, ru⟩ := vals1 r
 obtain rfl : u = Value.ref a := ru
 unfold O7 at hy
 split at hy
 ·rename_i hc
  cases hy
  obtain ⟨c1, c2, c3⟩ := hc
  have e := WR hr rv
  have er : EachIs (fun v d => ∃ as, Reads s.heap v (OB w d) as) its xs := by
   have : ∀ {ds : List D} {us : List Value}, EachIs (aGa X.K I F) us ds → ds.all (fun d => (d.py w).isSome) = true → EachIs (fun v d => ∃ as, Reads s.heap v (OB w d) as) us ds := by
    intro ds us h hs
    induction h with
    | nil => exact .nil
    | cons h1 _ ih =>
     rw [List.all_cons, ak] at hs
     refine .cons ?_ (ih hs.2)
     obtain ⟨x, r1, h2⟩ := h1
     obtain ⟨p, hp⟩ := Option.isSome_iff_exists.mp hs.1
     unfold OB
     rw [hp]
     exact Dp.reads J p x _ (KS rel h2 hp) r1
   exact this e c1
  refine PySem.W.sorted_data (enc := OB w) hl.isList e er (kD.h1 c2) (kD.h2 c2) c3 (fun d hd => ?_) fun out ho eo => ?_
  ·have := kD.h3 c2 _ (List.mem_map_of_mem hd)
   omega
  ·obtain ⟨zs, h1, h2⟩ := XO eo
   obtain ⟨n, hn⟩ := sortedAll_at s.heap its (List.toArray out)
   refine ⟨.ref (s.heap.objs.size + 1), upd H (s.heap.objs.size + 1) (.lst zs), J.laid (t' := s.toks) (fun b o hb => sortedAll_old hb) (Nat.le_succ _) ⟨?_, out, n, h2, hn⟩, rfl, q zs _ h1 (J.hok.fresh (Nat.le_succ _))⟩
   rw [h2.length, ho]; exact c3
 ·cases hy
section
variable {S : aP}
theorem Y2 : CB S (.builtin "sorted") oF := vB fun X E c xo I F G ds w H vs Q rel rl p => by
 unfold oF at p
 split at p
 ·rename_i d
  obtain ⟨v, rfl, rv⟩ := rl.one
  split at p
  ·rename_i ys hy
   obtain ⟨xs, h1, h2⟩ := dz.mp hy
   obtain ⟨a, us, rfl, hq, hr⟩ := EY rel rv h1
   exact ⟨_, VI (by have := c.room.un; omega), I, F, G, w, a, xs, us, rel, rfl, hq, hr, ys, h2, fun zs q hz hn => oI rel hz p q hn⟩
  ·exact p.elim
 ·exact p.elim
end
def uE (f : Str) (v : D) : List (Str × D) → List (Str × D)
 | [] => [(f, v)]
 | (g, x) :: r => if g = f then (g, v) :: r else (g, x) :: uE f v r
theorem aR.lookup {K : PySem.W.Frag} {I : List Addr} {F : Hp} {κ : Type} [BEq κ] (k : κ) : ∀ {kvs : List (κ × D)} {r : List (κ × V)}, aR K I F kvs r → O8 K I F (kvs.lookup k) (r.lookup k)
 | [], r, h => by simp only [aR] at h; subst h; rfl
 | (j, d) :: kvs, r, h => by
  simp only [aR] at h
  obtain ⟨v, t, rfl, h1, h2⟩ := h
  simp only [List.lookup]
  cases e : (k == j) with
  | true => exact ⟨v, rfl, h1⟩
  | false => exact aR.lookup k h2
theorem aR.uE {K : PySem.W.Frag} {I : List Addr} {F : Hp} (f : Str) {d : D} {v : V} (hv : aI K I F d v) : ∀ {kvs : List (Str × D)} {r : List (Str × V)}, aR K I F kvs r → aR K I F (Pc.uE f d kvs) (putF f v r)
 | [], r, h => by simp only [aR] at h; subst h; simp only [Pc.uE, putF, aR]; exact ⟨v, [], rfl, hv, rfl⟩
 | (j, x) :: kvs, r, h => by
  simp only [aR] at h
  obtain ⟨u, t, rfl, h1, h2⟩ := h
  simp only [Pc.uE, putF]
  by_cases e : j = f
  ·rw [if_pos e, if_pos e]; simp only [aR]; exact ⟨v, t, rfl, hv, h2⟩
  ·rw [if_neg e, if_neg e]; simp only [aR]; exact ⟨u, _, rfl, h1, aR.uE f hv h2⟩
def tD (C : Addr) (f : Str) (d : D) (w : W) : Res D := match d with
 | .ref i => (match w[i]? with
  | some (.ins C' fs) => if C' = C then (match fs.lookup f with
   | some x => .ok x w
   | none => .bad) else .bad
  | _ => .bad)
 | _ => .bad
def pM (C : Addr) (f : Str) (d x : D) (w : W) : Res Unit := match d with
 | .ref i => (match w[i]? with
  | some (.ins C' fs) => if C' = C ∧ fs.length < 1000 then .ok () (w.set i (.ins C (uE f x fs))) else .bad
  | _ => .bad)
 | _ => .bad
def bU (C : Addr) (f : Str) (m : ME) : ME := A6 (tD C f) m
def dH (C : Addr) (f : Str) (mo mv : ME) : MS := fun σ w => (mv σ w).bind fun x w1 => (mo σ w1).bind fun d w2 => (pM C f d x w2).bind fun _ w3 => .ok (.nx σ) w3
section
variable {S : aP} {C : Addr} {f : Str} {o e : Expr} {mo mv : ME} {pos pos' : Pos}
theorem dB (hc : Cls S.K C) (hn : NoAttr S.K C f) (ho : JE S o mo) (hb : ∀ env : Env, attributeBase o f env (eval o env) = eval o env := by intro _; rfl) : JE S (.Attribute o f pos) (bU C f mo) := fun X E cx xo =>
 cR (pe_fld (ho X E cx xo) (hb X.env)) fun σ H Q ⟨I, F, G, ds, w, rel, rs, p⟩ => bY (f := fun _ d w1 => tD C f d w1) rel rs p fun I1 F1 H1 d w1 v e1 rel1 rs1 rv pp => by
  unfold tD at pp
  split at pp
  ·rename_i i
   simp only [aI] at rv
   obtain ⟨a, rfl, hi⟩ := rv
   split at pp
   ·rename_i C' fs hw
    obtain ⟨u, hu, dx, r, rfl, hr⟩ := rel1.ob i a _ hi hw
    split at pp
    ·rename_i hC
     subst hC
     have hl := hr.lookup f
     split at pp
     ·rename_i x hx
      rw [hx] at hl
      obtain ⟨t, ht, rt⟩ := hl
      exact ⟨a, C', dx, r, t, rfl, hu, by rw [cx.K]; exact hc, by rw [cx.K]; exact hn, ht, pp.n5 rel1 rt⟩
     ·exact pp.elim
    ·exact pp.elim
   ·exact pp.elim
  ·exact pp.elim
theorem gT (hc : Cls S.K C) (hn : NoAttr S.K C f) (ho : JE S o mo) (hv : JE S e mv) (hs : ∀ env : Env, swapsWith e (some (.Attribute o f pos')) pos.line env = pure false := by intro _; rfl) : JS S (.Assign [.Attribute o f pos'] e pos) (dH C f mo mv) := fun X E cx xo =>
 kQ (ps_fld (ho X E cx xo) (hv X E cx xo) (hs X.env)) fun Z σ H ⟨I, F, G, ds, w, rel, rs, p⟩ => bY (f := fun ds x w1 => (mo ds w1).bind fun d w2 => (pM C f d x w2).bind fun _ w3 => Res.ok (Fl.nx ds) w3) rel rs p fun I1 F1 H1 x w1 v e1 rel1 rs1 rv p1 =>
  bY (f := fun ds d w2 => (pM C f d x w2).bind fun _ w3 => Res.ok (Fl.nx ds) w3) rel1 rs1 p1 fun I2 F2 H2 d w2 u e2 rel2 rs2 ru pp => by
   unfold pM at pp
   split at pp
   ·rename_i i
    simp only [aI] at ru
    obtain ⟨a, rfl, hi⟩ := ru
    split at pp
    ·rename_i C' fs hw
     obtain ⟨t, hu, dx, r, rfl, hr⟩ := rel2.ob i a _ hi hw
     split at pp
     ·rename_i hC
      obtain ⟨rfl, hl⟩ := hC
      have e0 : fs.length = r.length := hr.length
      exact ⟨a, C', dx, r, rfl, hu, by rw [cx.K]; exact hc, by rw [cx.K]; exact hn, by rw [← e0]; exact hl,
       pp I2 F2 _ .refl (rel2.upd (o' := .ins C' (uE f x fs)) hi hw ⟨dx, _, rfl, hr.uE f (aI.ext e2 _ _ rv)⟩) σ rs2⟩
     ·exact pp.elim
    ·exact pp.elim
   ·exact pp.elim
end
theorem VG {K : PySem.W.Frag} {I : List Addr} {F G H : Hp} {w : W} (rel : Rel K I F G w H) {q : Addr} (hq : H q = none) (u : HO) : Rel K I F G w (upd H q u) := by
 refine ⟨rel.len, rel.nd, fun i a o h1 h2 => ?_, fun a t h => ?_, rel.ap, fun a t h => ?_, rel.gf, rel.gt⟩
 ·obtain ⟨t, h3, h4⟩ := rel.ob i a o h1 h2
  exact ⟨t, by rw [upd_ne (ne_of_none h3 hq)]; exact h3, h4⟩
 ·rw [upd_ne (ne_of_none (rel.fz a t h) hq)]; exact rel.fz a t h
 ·rw [upd_ne (ne_of_none (rel.gz a t h) hq)]; exact rel.gz a t h
theorem ZT {K : PySem.W.Frag} {I : List Addr} {F G H : Hp} {E : XK} {w : W} {o : MO} {u : HO} (rel : Rel K I F G w H) (r : lN K I F o u) {q : Addr} (hq : H q = none) : ∃ I' F', Ext I F I' F' ∧ Rel K I' F' G (w ++ [o]) (upd H q u) ∧ aI K I' F' (.ref w.length) (.ref q) :=
 z9 (E := E) (Q := fun v H1 => ∃ I' F', Ext I F I' F' ∧ Rel K I' F' G (w ++ [o]) H1 ∧ aI K I' F' (.ref w.length) v) rel r (fun I' F' H' e rel' v rv => ⟨I', F', e, rel', rv⟩) q hq
def vL (m : MF) (C : Addr) (xs : List D → List D) (w : W) : Res D := (m (xs [.ref w.length]) (w ++ [.ins C []])).bind fun r w1 => match r with
 | .non => .ok (.ref w.length) w1
 | _ => .bad
def aIa (C : Addr) (m : MF) (n : Nat) (gd : List D → List D → List D) (ma : MA) : ME := fun σ w => (ma σ w).bind fun xs w1 => if xs.length = n then vL m C (fun s => gd (s ++ xs) []) w1 else .bad
def r4 (C : Addr) (m : MF) (n j : Nat) (gd : List D → List D → List D) (ma mk : MA) : ME := fun σ w => (ma σ w).bind fun xs w1 => (mk σ w1).bind fun zs w2 => if xs.length = n ∧ zs.length = j then vL m C (fun s => gd (s ++ xs) zs) w2 else .bad
theorem run_mk {X : Cx} {pins : List (Addr × Obj)} {σ : L2.St} {H : Hp} {s : Shared} {Q : VK} {E : XK} {k : Nat} {f C : Addr} {fd : FuncData} {ps ks : List Str} {m : MF} {n : Nat} {gd : List D → List D → List D} {I : List Addr} {F G : Hp} {xs zs : List D} {w : W} {us ws : List Value} {vs ys : List V}
  (M : Mk X.K C f) (xo : pI X E) (Gf : eW X.prog X.w X.K X.mg X.base k f fd ps m) (B : bO X.K fd ps (n + 1) ks gd) (hr : Room (k + 1) X.A) (hg : X.A.guards = some []) (J : Inv X pins σ H s) (rel : Rel X.K I F G w H) (rx : RepL X.K I F xs vs) (rz : RepL X.K I F zs ys)
  (r : Vals vs us) (q : Vals ys ws) (h1 : xs.length = n) (h2 : zs.length = ks.length) (p : aY X.K I F G E (RV X.K Q) (vL m C (fun s => gd (s ++ xs) zs) w)) : wpAny (model X.prog X.w) X.A (call (.ref C) us (ks.zip ws)) (EP X pins σ Q) X.xe s := by
 obtain ⟨g, gV, kb, rep⟩ := B.ex
 have f1 : H (s.heap.objs.size + 1) = none := J.hok.fresh (Nat.le_succ _)
 have f2 : H s.heap.objs.size = none := J.hok.fresh (bq _)
 have J2 := Inv.made (C := C) J
 have r1 : Vals (V.ref (s.heap.objs.size + 1) :: vs) (Value.ref (s.heap.objs.size + 1) :: us) := .cons rfl r
 have r2 := kb.rel r1 q
 have n1 : (Value.ref (s.heap.objs.size + 1) :: us).length = n + 1 := by
  rw [ck, ← r.length, ← rx.length, h1]
 have f3 : (upd H s.heap.objs.size (.own (s.heap.objs.size + 1))) (s.heap.objs.size + 1) = none := by
  rw [upd_ne (Nat.succ_ne_self _)]; exact f1
 obtain ⟨I', F', ee, rel', rn⟩ := ZT (E := E) (VG rel f2 (.own (s.heap.objs.size + 1))) (o := .ins C []) (u := .ins C s.heap.objs.size []) ⟨_, [], rfl, by simp [aR]⟩ f3
 have rxs : RepL X.K I' F' ([.ref w.length] ++ xs) (V.ref (s.heap.objs.size + 1) :: vs) := RepL.cons rn (RepL.ext ee _ _ rx)
 have r3 := rep I' F' _ _ zs ys rxs (RepL.ext ee _ _ rz)
 have hl : (gV (V.ref (s.heap.objs.size + 1) :: vs) ys).length = ps.length := by rw [← r3.length]; exact B.len _ zs (by simp [h1]) h2
 have pp : aY X.K I' F' G E (RV X.K fun v H2 => v = .non ∧ Q (.ref (s.heap.objs.size + 1)) H2) (m (gd ([.ref w.length] ++ xs) zs) (w ++ [.ins C []])) := by
  refine (aY.bind (p.ext ee)).mono fun I1 F1 H1 d w1 _ e1 rel1 p1 v rv => ?_
  cases d <;> first | exact p1.elim | skip
  simp only [aI] at rv
  exact ⟨rv, p1.n5 rel1 (aI.ext e1 _ _ rn)⟩
 refine wpAny_call (make_map (f := f) J.kIn M.makes M.init (beq_iff_eq.mp M.fn) (codeAny_mono (Gf.run _ X.stack _ _ ⟨Value.ref (s.heap.objs.size + 1) :: us, ks.zip ws⟩ (g (Value.ref (s.heap.objs.size + 1) :: us) ws) _ _ E (hr.make C us (ks.zip ws)) hg
  (J2.env0.make C us (ks.zip ws)) (kb.to _ (Value.ref (s.heap.objs.size + 1) :: us) ws J2.kIn n1 (by rw [← q.length, ← rz.length]; exact h2)) r2 hl ⟨I', F', G, _, _, rel', r3, pp⟩) fun r s' hq' => ?_))
 cases r with
 | error e => exact passes_call xo.tk (fun _ _ _ _ h => h) pins σ _ _ e s' J2 hq'
 | ok fl =>
  cases fl with
  | ret u =>
   obtain ⟨v, H', I3, rv, ev, q3⟩ := J2.after hq'
   subst ev
   exact ⟨rv, ⟨V.ref (s.heap.objs.size + 1), H', I3, rfl, q3⟩⟩
  | next => exact False.elim hq'
  | brk => exact False.elim hq'
  | cont => exact False.elim hq'
section
variable {S : aP} {k n : Nat} {f C : Addr} {fd : FuncData} {ps ks : List Str} {m : MF} {gd : List D → List D → List D} {x : Str} {p pos kpos : Pos} {e : Expr} {es : List Expr} {kws : List Keyword} {ma mk : MA} {me : ME} {nm : Option Str}
theorem aCs (hk : k + 1 ≤ S.k) (M : Mk S.K C f) (Gf : eW S.P S.w S.K S.mg S.base k f fd ps m) (B : bO S.K fd ps (n + 1) ks gd) (hg : S.sc.names.lookup x = some .globalImplicit) (hm : S.mg x = some (.ref C)) (ha : JA S (e :: es) ma) (hkw : JK S kws mk)
  (hall : ∀ env : Env, (backToKw pos (keywordEach kws env)).all (·.1.isSome) = true := by intro _; rfl) (hks : ∀ env : Env, (backToKw pos (keywordEach kws env)).filterMap (·.1) = ks := by intro _; rfl)
  (hdb : (x == ("__debug__" : Str)) = false := by decide) (he : ∀ env : Env, starEach (e :: es) env = (false, eval e env) :: starEach es env := by intro _; rfl)
  (hpl : ∀ env : Env, ((backTo pos (starEach (e :: es) env)).any (·.1) || (backToKw pos (keywordEach kws env)).any (·.1.isNone)) = false := by intro _; rfl) :
  JE S (.Call (.Name x p) (e :: es) kws pos) (r4 C m n ks.length gd ma mk) := fun X E cx xo => by
 refine ⟨fun pins s σ H Q J ⟨I, F, G, ds, w, rel, rs, p⟩ => ?_⟩
 refine wpAny_Call_Name_kw (ld_glob J (by show X.env.scope.names.lookup x = _; rw [cx.sc]; exact hg) (by rw [cx.mg]; exact hm) ?_ hdb)
 refine PySem.W.callWith_KW (h₀ := X.base) J.ok.mod.kin (by rw [cx.K]; exact M.kp) (hall X.env) (thn ((ha X E cx xo).run pos pins s σ H _ J (fB (f := fun ds xs w1 => (mk ds w1).bind fun zs w2 => if xs.length = n ∧ zs.length = ks.length then vL m C (fun s => gd (s ++ xs) zs) w2 else .bad)
  (Q := fun vs H1 => ∃ I1 F1 xs w1, Rel X.K I1 F1 G w1 H1 ∧ gF X.K I1 F1 ds σ ∧ RepL X.K I1 F1 xs vs ∧ aY X.K I1 F1 G E (RV X.K Q) ((mk ds w1).bind fun zs w2 => if xs.length = n ∧ zs.length = ks.length then vL m C (fun s => gd (s ++ xs) zs) w2 else .bad)) rel rs p fun I1 F1 H1 xs w1 vs e1 rel1 rs1 rvs p1 => ⟨I1, F1, xs, w1, rel1, rs1, rvs, p1⟩)) fun us s1 hq => ?_) (hpl X.env) (he X.env)
 obtain ⟨vs, H1, J1, r, I1, F1, xs, w1, rel1, rs1, rvs, p1⟩ := hq
 refine thn ((hkw X E cx xo).run pos pins s1 σ H1 _ J1 (fB (f := fun _ zs w2 => if xs.length = n ∧ zs.length = ks.length then vL m C (fun s => gd (s ++ xs) zs) w2 else .bad)
  (Q := fun ys H2 => ∃ I2 F2 zs w2, Rel X.K I2 F2 G w2 H2 ∧ RepL X.K I2 F2 xs vs ∧ RepL X.K I2 F2 zs ys ∧ (xs.length = n ∧ zs.length = ks.length) ∧ aY X.K I2 F2 G E (RV X.K Q) (vL m C (fun s => gd (s ++ xs) zs) w2)) rel1 rs1 p1 fun I2 F2 H2 zs w2 ys e2 rel2 rs2 rvs2 p2 => ?_)) fun ws s2 hq2 => ?_
 ·split at p2
  ·rename_i hl
   exact ⟨I2, F2, zs, w2, rel2, RepL.ext e2 _ _ rvs, rvs2, hl, p2⟩
  ·exact p2.elim
 ·obtain ⟨ys, H2, J2, r2, I2, F2, zs, w2, rel2, rvs', rvs2, hl, p2⟩ := hq2
  refine ⟨J2.kIn, ?_⟩
  have Gf' : eW X.prog X.w X.K X.mg X.base k f fd ps m := by rw [cx.P, cx.w, cx.K, cx.mg, cx.base]; exact Gf
  have B' : bO X.K fd ps (n + 1) ks gd := by rw [cx.K]; exact B
  have M' : Mk X.K C f := by rw [cx.K]; exact M
  rw [hks X.env]
  exact run_mk (ks := ks) M' xo Gf' B' (cx.room.mono hk) cx.OQ J2 rel2 rvs' rvs2 r r2 hl.1 hl.2 p2
end
section
variable {S : aP} {pos pos' : Pos} {e : Expr} {m : ME}
theorem jv (i : Nat) {x : Str} (hN : S.N[i]? = some x := by rfl) (hv : Vis S.sc x := by first | exact Or.inl rfl | exact Or.inr (Or.inl rfl) | exact Or.inr (Or.inr rfl)) (hd : (x == ("__debug__" : Str)) = false := by decide) (hcd : (x == ("__classdict__" : Str)) = false := by decide) : JE S (.Name x pos) (aB i) :=
 aFK i hN hv hd hcd
theorem NO (i : Nat) {x : Str} (hN : S.N[i]? = some x := by rfl) (h1 : Loc S.sc x := by first | exact Or.inl rfl | exact Or.inr rfl) (h2 : S.fn x = true ∨ S.sc.names.lookup x = some .local := by first | exact Or.inl rfl | exact Or.inr rfl) : JG S (.Name x pos) (aU i) := aDU hN ⟨h1, h2⟩
theorem QY {vs : List Nat} (i : Nat) {x : Str} (hN : S.N[i]? = some x := by rfl) (h1 : Loc S.sc x := by first | exact Or.inl rfl | exact Or.inr rfl) (h2 : S.fn x = true ∨ S.sc.names.lookup x = some .local := by first | exact Or.inl rfl | exact Or.inr rfl) (hv : i ∈ vs := by decide) : JC S vs (.Name x pos) (aU i) := aDk hN ⟨h1, h2⟩ hv
theorem t9 (i : Nat) {x : Str} (he : JE S e m) (hN : S.N[i]? = some x := by rfl) (h1 : Loc S.sc x := by first | exact Or.inl rfl | exact Or.inr rfl) (h2 : S.fn x = true ∨ S.sc.names.lookup x = some .local := by first | exact Or.inl rfl | exact Or.inr rfl) (hs : ∀ env : Env, swapsWith e (some (.Name x pos')) pos.line env = pure false := by intro _; rfl) :
  JS S (.Assign [.Name x pos'] e pos) (aT m (aU i)) := aFE hN ⟨h1, h2⟩ he hs
end
def aM : List D → List D → List D := fun xs _ => xs
theorem Vals.at? {vs : List V} {us : List Value} (r : Vals vs us) (i : Nat) : (vs[i]? = none ∧ us[i]? = none) ∨ ∃ v u, vs[i]? = some v ∧ us[i]? = some u ∧ RelV v u := by
 induction r generalizing i with
 | nil => exact .inl ⟨by simp, by simp⟩
 | cons h _ ih =>
  cases i with
  | zero => exact .inr ⟨_, _, rfl, rfl, h⟩
  | succ i => simpa using ih i
theorem RepL.at? {K : PySem.W.Frag} {I : List Addr} {F : Hp} {ds : List D} {vs : List V} (r : RepL K I F ds vs) (i : Nat) : (ds[i]? = none ∧ vs[i]? = none) ∨ ∃ d v, ds[i]? = some d ∧ vs[i]? = some v ∧ aI K I F d v := by
 cases h : ds[i]? with
 | none => exact .inl ⟨rfl, by rw [List.getElem?_eq_none_iff] at h ⊢; rw [← r.length]; exact h⟩
 | some d => obtain ⟨v, h1, h2⟩ := r.get h; exact .inr ⟨d, v, rfl, h1, h2⟩
def aCr (N ps : List Str) (sc : Scope) : Bool := (match sc.kind with
 | .function => true
 | _ => false) && !sc.isCoroutine && !sc.isGenerator && decide N.Nodup && decide (N.take ps.length = ps) && (ps.all fun x => decide (sc.names.lookup x = some .local) || decide (sc.names.lookup x = some .cell)) && sc.names.all fun y => decide (y.2 ≠ .free)
theorem cE {N ps : List Str} {sc : Scope} (h : aCr N ps sc = true) : FnScope N ps sc := by
 unfold aCr at h
 simp only [ak, aq, bg, Bool.or_eq_true, Bool.not_eq_true'] at h
 obtain ⟨⟨⟨⟨⟨⟨h1, h2⟩, h3⟩, h4⟩, h5⟩, h6⟩, h7⟩ := h
 refine ⟨?_, h2, h3, h4, h5, h6, h7⟩
 split at h1
 ·assumption
 ·cases h1
def TF (f g : D → D → W → Res D) (ma mb mc : ME) : ME := fun σ w => (ma σ w).bind fun x w1 => (mb σ w1).bind fun y w2 => (f x y w2).bind fun r w3 => match r with
 | .bl b => if b = true then (mc σ w3).bind fun z w4 => g y z w4 else .ok (.bl false) w3
 | _ => .bad
section
variable {S : aP} {pos : Pos} {a b c : Expr} {ma mb mc : ME} {f g : D → D → W → Res D}
theorem aCC {K : PySem.W.Frag} {E : XK} {σ : L2.St} {H : Hp} {Q : VK} (h : sQ K E (TF f g ma mb mc) σ H Q) : tChain (aB6 K E f) (aB6 K E g) (sQ K E ma) (sQ K E mb) (sQ K E mc) σ H Q := by
 obtain ⟨I, F, G, ds, w, rel, rs, p⟩ := h
 refine ⟨I, F, G, ds, w, rel, rs, (aY.bind p).mono fun I1 F1 H1 x w1 _ e1 rel1 p1 v rv => ?_⟩
 refine ⟨I1, F1, G, ds, w1, rel1, rs.ext e1, (aY.bind p1).mono fun I2 F2 H2 y w2 _ e2 rel2 p2 u ru => ?_⟩
 refine ⟨I2, F2, G, x, y, w2, rel2, aI.ext e2 _ _ rv, ru, (aY.bind p2).mono fun I3 F3 H3 r w3 _ e3 rel3 p3 t rt => ?_⟩
 cases r <;> first | exact p3.elim | skip
 rename_i k _
 simp only [aI] at rt
 refine ⟨k, rt, ?_⟩
 cases k with
 | false => exact p3.n5 rel3 (by simp [aI])
 | true =>
  refine ⟨I3, F3, G, ds, w3, rel3, (rs.ext e1).ext (e2.trans e3), (aY.bind p3).mono fun I4 F4 H4 z w4 _ e4 rel4 p4 q rq => ?_⟩
  exact ⟨I4, F4, G, y, z, w4, rel4, aI.ext (e3.trans e4) _ _ ru, rq, p4⟩
theorem PZ {op op' : CmpOp} (ho : O2 S (compareOp op) f) (ho' : O2 S (compareOp op') g) (ha : JE S a ma) (hb : JE S b mb) (hc : JE S c mc) (hm : lastMarks [op, op'] [b, c] = false := by with_unfolding_all rfl) :
  JE S (.Compare a [op, op'] [b, c] pos) (TF f g ma mb mc) := fun X E cx xo => cR (pe_chain (ho X E cx xo) (ho' X E cx xo) (ha X E cx xo) (hb X E cx xo) (hc X E cx xo) hm) fun _ _ _ h => aCC h
end
theorem kN {S : aP} {x : Str} {n : String} {pos : Pos} (hg : S.sc.names.lookup x = some .globalImplicit) (hm : S.mg x = none) (hv : bootBuiltins x = some (.type n)) (hn : x ≠ "__name__" := by decide) (hd : (x == ("__debug__" : Str)) = false := by decide) : JE S (.Name x pos) (eC (.ty n)) := fun X E cx xo =>
 cR (pe_bltn (v := .ty n) (by show X.env.scope.names.lookup x = _; rw [cx.sc]; exact hg) (by rw [cx.mg]; exact hm) hv rfl hn hd) fun σ H Q ⟨I, F, G, ds, w, rel, rs, p⟩ => p I F H .refl rel _ (by simp [aI])
inductive uJ where
 | b (n : String) | o (C : Addr)
 deriving DecidableEq
def uJ.v : uJ → Value
 | .b n => .type n
 | .o C => .ref C
def TN (d : D) (w : W) : Option uJ := match d with
 | .non => some (.b "NoneType")
 | .bl _ => some (.b "bool")
 | .int _ => some (.b "int")
 | .str _ => some (.b "str")
 | .tup _ => some (.b "tuple")
 | .gY _ => some (.b "tuple")
 | .lst _ => some (.b "list")
 | .pR _ => some (.b "list")
 | .ref i => (match w[i]? with
  | some (.lst _) => some (.b "list")
  | some (.dK _) => some (.b "dict")
  | some (.dT _) => some (.b "dict")
  | some (.dF _) => some (.b "dict")
  | some (.dG _) => none
  | some (.ins C _) => some (.o C)
  | none => none)
 | .xO _ _ => some (.b "dict")
 | _ => none
def names7 : List String := ["NoneType", "bool", "int", "str", "tuple", "list", "dict"]
def aBv (t n : String) : Bool := t == n || (t == "bool" && n == "int")
theorem XJ : ∀ t ∈ names7, ∀ n ∈ ["bool", "int", "str", "tuple", "list", "dict"], kitB t n = some (aBv t n) := by decide +kernel
structure SS (K : PySem.W.Frag) (C : Addr) : Prop where
 cl : Cls K C
 ha : PySem.W.findIn K (.ref C) "__class__" = some (some (.builtin "object.__class__"))
 hn : PySem.W.specialIn K (.builtin "object.__class__") "__get__" = some (some (.builtin "getset_descriptor.__get__"))
 tk : PySem.W.takesIn K (.builtin "object.__class__") = some true
 hm : PySem.W.mroIn K C (.type "object") = some true
def aBB : List D → Option (List String)
 | [] => some []
 | .ty n :: ds => (aBB ds).map fun ns => n :: ns
 | _ :: _ => none
def fS (kc : uJ → uJ → Option Bool) : MF := fun ds w => match ds with
 | [d, .ty n] => (match TN d w with
  | some (.b t) => if t ∈ names7 ∧ n ∈ ["bool", "int", "str", "tuple", "list", "dict"] then .ok (.bl (aBv t n)) w else .bad
  | some (.o C) => (match kc (.o C) (.b n) with
   | some r => .ok (.bl r) w
   | none => .bad)
  | none => .bad)
 | [d, .con C] => (match TN d w with
  | some t => (match kc t (.o C) with
   | some r => .ok (.bl r) w
   | none => .bad)
  | none => .bad)
 | [d, .tup cs] => (match TN d w, aBB cs with
  | some (.b t), some ns => if t ∈ names7 ∧ ∀ n ∈ ns, n ∈ ["bool", "int", "str", "tuple", "list", "dict"] then .ok (.bl (ns.any (aBv t))) w else .bad
  | _, _ => .bad)
 | _ => .bad
structure aFn (K : PySem.W.Frag) (kc : uJ → uJ → Option Bool) : Prop where
 one : ∀ t c r, kc t c = some r → PySem.W.kitOne K t.v c.v = some r
 ins : ∀ C c r, kc (.o C) c = some r → SS K C
def iB : uJ → uJ → Option Bool := fun _ _ => none
theorem hZ {K : PySem.W.Frag} : aFn K iB := ⟨fun _ _ _ h => (by cases h), fun _ _ _ h => (by cases h)⟩
theorem MX {K : PySem.W.Frag} {I : List Addr} {F G H : Hp} {w : W} (rel : Rel K I F G w H) {d : D} {v : V} (h : aI K I F d v) {t : uJ} (e : TN d w = some t) (hi : ∀ C, t = .o C → SS K C) : TyX K H v t.v := by
 have hT : ∀ {a : Addr} {vs : List V}, SqT K H a vs → TyX K H (.ref a) (.type "tuple") := fun {a vs} q => by
  rcases q with (q | ⟨o, q⟩) | q
  ·exact .base (.tup q)
  ·exact .fTuple q
  ·obtain ⟨o, its, n, q1, q2, _⟩ := q
   exact .kTuple q1 q2
 have hL : ∀ {a : Addr} {vs : List V}, SqL K H a vs → TyX K H (.ref a) (.type "list") := fun {a vs} q => by
  rcases q with (q | ⟨o, q⟩) | q
  ·exact .base (.lst q)
  ·exact .base (.frz q)
  ·obtain ⟨o, its, n, q1, q2, _⟩ := q
   exact .kList q1 q2
 cases d <;> simp only [TN, ah, reduceCtorEq] at e <;> simp only [aI] at h
 case non => subst h; subst e; exact .base .non
 case bl => subst h; subst e; exact .base (.bl _)
 case int => subst h; subst e; exact .base (.int _)
 case str => subst h; subst e; exact .base (.str _)
 case tup => obtain ⟨a, vs, rfl, h1, _⟩ := h; subst e; exact hT (.of (rel.fz _ _ h1))
 case gY => obtain ⟨a, vs, rfl, h1, _⟩ := h; subst e; exact hT (rel.Q8 h1)
 case lst => obtain ⟨a, vs, rfl, h1, _⟩ := h; subst e; exact hL (.of (rel.fz _ _ h1))
 case pR => obtain ⟨a, vs, rfl, h1, _⟩ := h; subst e; exact hL (rel.sqL h1)
 case ref i =>
  obtain ⟨a, rfl, hi'⟩ := h
  split at e
  ·rename_i hw; cases e; obtain ⟨u, hu, vs, rfl, _⟩ := rel.ob i a _ hi' hw; exact .base (.lst hu)
  ·rename_i hw; cases e; obtain ⟨u, hu, vs, rfl, _⟩ := rel.ob i a _ hi' hw; exact .base (.dK hu)
  ·rename_i hw; cases e; obtain ⟨u, hu, vs, rfl, _⟩ := rel.ob i a _ hi' hw; exact .base (.dT hu)
  ·rename_i hw; cases e; obtain ⟨u, hu, o, vs, rfl, _⟩ := rel.ob i a _ hi' hw; exact .fDict hu
  ·cases e
  ·rename_i C fs hw
   cases e
   obtain ⟨u, hu, dx, r, rfl, _⟩ := rel.ob i a _ hi' hw
   have z := hi C rfl
   exact .base (.ins hu z.cl z.ha z.hn z.tk z.hm)
  ·cases e
 case xO =>
  obtain ⟨a, kvs, rfl, h1, _⟩ := h
  subst e
  rcases h1 with h1 | ⟨o, h1⟩
  ·exact .base (.dK (rel.fz _ _ h1))
  ·exact .fDict (rel.fz _ _ h1)
theorem QU {K : PySem.W.Frag} {I : List Addr} {F : Hp} {t : String} (ht : t ∈ names7) : ∀ {cs : List D} {ns : List String} {vs : List V}, aBB cs = some ns → RepL K I F cs vs → (∀ n ∈ ns, n ∈ ["bool", "int", "str", "tuple", "list", "dict"]) → ∃ ws, Paired ClsV vs ws ∧ PySem.W.kitAny K (.type t) ws = some (ns.any (aBv t))
 | [], ns, vs, e, r, _ => by
  simp only [aBB, ah] at e
  subst e
  simp only [RepL] at r
  subst r
  exact ⟨[], .nil, kitAny_nil⟩
 | d :: ds, ns, vs, e, r, hn => by
  cases d <;> simp only [aBB, au, reduceCtorEq] at e
  rename_i n
  obtain ⟨ns', e1, rfl⟩ := e
  simp only [RepL, aI] at r
  obtain ⟨v, r', rfl, rfl, r2⟩ := r
  obtain ⟨ws, p, q⟩ := QU ht e1 r2 fun m hm => hn m (br _ hm)
  refine ⟨.type n :: ws, .cons (.ty n) p, ?_⟩
  have k1 : PySem.W.kitOne K (.type t) (.type n) = some (aBv t n) := kit_ty (XJ t ht n (hn n (bc ..)))
  rw [List.any_cons]
  refine kitAny_cons k1 (fun hb => ?_) fun hb => ?_
  ·rw [hb, Bool.false_or]; exact q
  ·rw [hb, Bool.true_or]
theorem jQ {S : aP} {kc : uJ → uJ → Option Bool} (hk : aFn S.K kc) : CB S (.builtin "isinstance") (fS kc) := vB fun X E c xo I F G ds w H vs Q rel rl p => by
 unfold fS at p
 split at p
 ·rename_i d n
  obtain ⟨v, u, rfl, rv, ru⟩ := rl.two
  simp only [aI] at ru
  subst ru
  split at p
  ·rename_i t ht
   split at p
   ·rename_i hc
    exact ⟨_, call_isi, v, .ty n, _, .type n, _, rfl, .ty n, MX rel rv ht (fun C z => by cases z), kit_ty (XJ t hc.1 n hc.2), p.n5 rel (by simp [aI])⟩
   ·exact p.elim
  ·rename_i C hC
   split at p
   ·rename_i r hr
    exact ⟨_, call_isi, v, .ty n, _, .type n, _, rfl, .ty n, MX rel rv hC (fun C' z => by cases z; rw [c.K]; exact hk.ins _ _ _ hr), by rw [c.K]; exact hk.one _ _ _ hr, p.n5 rel (by simp [aI])⟩
   ·exact p.elim
  ·exact p.elim
 ·rename_i d C
  obtain ⟨v, u, rfl, rv, ru⟩ := rl.two
  simp only [aI] at ru
  subst ru
  split at p
  ·rename_i t ht
   split at p
   ·rename_i r hr
    exact ⟨_, call_isi, v, .ref C, _, .ref C, _, rfl, .own C, MX rel rv ht (fun C' z => by subst z; rw [c.K]; exact hk.ins _ _ _ hr), by rw [c.K]; exact hk.one _ _ _ hr, p.n5 rel (by simp [aI])⟩
   ·exact p.elim
  ·exact p.elim
 ·rename_i d cs
  obtain ⟨v, u, rfl, rv, ru⟩ := rl.two
  simp only [aI] at ru
  obtain ⟨tp, vs, rfl, h2, h3⟩ := ru
  split at p
  ·rename_i t ns ht hn
   split at p
   ·rename_i hc
    obtain ⟨ws, hp, hk2⟩ := QU (K := X.K) hc.1 hn h3 hc.2
    exact ⟨_, call_isiT, v, tp, vs, _, ws, _, rfl, rel.fz _ _ h2, hp, MX rel rv ht (fun C z => by cases z), hk2, p.n5 rel (by simp [aI])⟩
   ·exact p.elim
  ·exact p.elim
 ·exact p.elim
def u3 : List D → Option (List Bool)
 | [] => some []
 | .bl b :: r => (u3 r).map (b :: ·)
 | _ :: _ => none
theorem G7 {K : PySem.W.Frag} {I : List Addr} {F : Hp} : ∀ {ds : List D} {vs : List V} {ns : List Bool}, RepL K I F ds vs → u3 ds = some ns → vs = ns.map V.bl
 | [], vs, ns, h, e => by simp only [u3, ah] at e; subst e; simp only [RepL] at h; exact h
 | d :: ds, vs, ns, h, e => by
  cases d <;> simp only [u3, au, reduceCtorEq] at e
  obtain ⟨r, e1, rfl⟩ := e
  simp only [RepL, aI] at h
  obtain ⟨v, t, rfl, rfl, h2⟩ := h
  rw [G7 h2 e1]
  rfl
def allM : MF := fun ds w => match ds with
 | [d] => (match (xG d w).bind u3 with
  | some bs => .ok (.bl (bs.all id)) w
  | none => .bad)
 | _ => .bad
theorem HV {S : aP} : CB S (.builtin "all") allM := vB fun X E c xo I F G ds w H vs Q rel rl p => by
 unfold allM at p
 split at p
 ·rename_i d
  obtain ⟨v, rfl, rv⟩ := rl.one
  split at p
  ·rename_i bs hn
   obtain ⟨xs, h1, h2⟩ := dz.mp hn
   obtain ⟨a, us, rfl, hq, hr⟩ := EY rel rv h1
   obtain rfl := G7 hr h2
   exact ⟨_, cr_all c.calm, a, bs, rfl, hq, p.n5 rel (by simp [aI])⟩
  ·exact p.elim
 ·exact p.elim
def SR (x y : D) (w : W) : Res D := match x, y with
 | .int a, .int b => .ok (.bl (decide (a < b))) w
 | x, y => match (zI x).bind nB, (zI y).bind nB with
  | some ns, some ms => .ok (.bl (HT.lexLt ns ms)) w
  | _, _ => .bad
theorem aEO {S : aP} : O2 S (compareOp .Lt) SR := jE fun X E c xo I F G d e w H x y Q rel rd re p => by
 unfold SR at p
 split at p
 ·simp only [aI] at rd re
  exact ⟨_, op_lt, _, _, rd, re, p.n5 rel (by simp [aI])⟩
 ·split at p
  ·rename_i ns ms h1 h2
   obtain ⟨xs, q1, q2⟩ := dz.mp h1
   obtain ⟨ys, q3, q4⟩ := dz.mp h2
   obtain ⟨a, us, rfl, g1, g2⟩ := LN rel rd q1
   obtain ⟨b, ts, rfl, g3, g4⟩ := LN rel re q3
   obtain rfl := oP g2 q2
   obtain rfl := oP g4 q4
   exact ⟨_, op_ltT (by have := c.room.un; omega), a, b, ns, ms, rfl, rfl, g1, g3, p.n5 rel (by simp [aI])⟩
  ·exact p.elim
theorem kA {K : PySem.W.Frag} {I : List Addr} {F G H : Hp} {w : W} {q : Addr} {u : HO} (rel : Rel K I F (upd G q u) w H) (hG : G q = none) : Rel K I F G w H :=
 ⟨rel.len, rel.nd, rel.ob, rel.fz, rel.ap, fun a v h => rel.gz a v (by rw [upd_ne (ne_of_none h hG)]; exact h), fun a v h => rel.gf a v (by rw [upd_ne (ne_of_none h hG)]; exact h), fun a xs h => rel.gt a xs (by rw [upd_ne (ne_of_none h hG)]; exact h)⟩
theorem aY.more {α : Type} {K : PySem.W.Frag} {I : List Addr} {F G : Hp} {E : XK} {R R' : List Addr → Hp → Hp → α → W → Prop} {r : Res α} {q : Addr} {u : HO} (p : aY K I F G E R r) (hG : G q = none)
  (k : ∀ I' F' H' a w, r = .ok a w → Ext I F I' F' → Rel K I' F' (upd G q u) w H' → R I' F' H' a w → R' I' F' H' a w) : aY K I F (upd G q u) E R' r := by
 cases r with
 | ok a w => exact fun I' F' H' e rel => k I' F' H' a w rfl e rel (p I' F' H' e (kA rel hG))
 | HW x w => exact fun I' F' H' c d e rel rx => p I' F' H' c d e (kA rel hG) rx
 | bad => exact p
abbrev MP := Sg → W → Res (List (D × D))
def ID : MP := fun _ w => .ok [] w
def eI (mk mv : ME) (r : MP) : MP := fun σ w => (mk σ w).bind fun k w1 => (mv σ w1).bind fun v w2 => (r σ w2).bind fun ps w3 => .ok ((k, v) :: ps) w3
def keyed : List (D × D) → Option (List (Key × D))
 | [] => some []
 | (k, v) :: r => match keyD k, keyed r with
  | some j, some t => some ((j, v) :: t)
  | _, _ => none
def uK {κ : Type} [DecidableEq κ] (kvs more : List (κ × D)) : List (κ × D) := more.foldl (fun acc kv => putD acc kv.1 kv.2) kvs
def GD (m : MP) : ME := fun σ w => (m σ w).bind fun ps w1 => match keyed ps with
 | some kvs => if kvs.length ≤ 15 then .ok (.ref w1.length) (w1 ++ [.dK (uK [] kvs)]) else .bad
 | none => .bad
def sX : ME := fun _ w => .ok (.ref w.length) (w ++ [.dT []])
def aG1 (K : PySem.W.Frag) (I : List Addr) (F : Hp) (ps : List (D × D)) (vs : List (V × V)) : Prop := RepL K I F (ps.map (·.1)) (vs.map (·.1)) ∧ RepL K I F (ps.map (·.2)) (vs.map (·.2))
def RPs (K : PySem.W.Frag) (Q : List (V × V) → Hp → Prop) : List Addr → Hp → Hp → List (D × D) → W → Prop := fun I' F' H' ps _ => ∀ vs, aG1 K I' F' ps vs → Q vs H'
def lowP (K : PySem.W.Frag) (E : XK) (m : MP) : L2.St → Hp → (List (V × V) → Hp → Prop) → Prop := fun σ H Q => ∃ I F G ds w, Rel K I F G w H ∧ gF K I F ds σ ∧ aY K I F G E (RPs K Q) (m ds w)
def JD (S : aP) (pos : Pos) (ks : List (Option Expr)) (vs : List Expr) (m : MP) : Prop := ∀ X E, Ctx S X → pI X E → ∃ trs, PPs X pos ks vs trs ∧ ∀ σ H Q, lowP X.K E m σ H Q → tPairs trs σ H Q
theorem aR.merge {K : PySem.W.Frag} {I : List Addr} {F : Hp} {κ : Type} [DecidableEq κ] : ∀ {more : List (κ × D)} {rs : List (κ × V)} {kvs : List (κ × D)} {vs : List (κ × V)}, aR K I F more rs → aR K I F kvs vs → aR K I F (uK kvs more) (rs.foldl (fun acc kv => putK acc kv.1 kv.2) vs)
 | [], rs, kvs, vs, h, g => by simp only [aR] at h; subst h; exact g
 | (k, d) :: more, rs, kvs, vs, h, g => by
  simp only [aR] at h
  obtain ⟨v, r, rfl, h1, h2⟩ := h
  exact aR.merge (more := more) (rs := r) h2 (g.put k h1)
theorem KD {K : PySem.W.Frag} {I : List Addr} {F : Hp} : ∀ {ps : List (D × D)} {vs : List (V × V)} {kvs : List (Key × D)}, aG1 K I F ps vs → keyed ps = some kvs → ∃ r : List (Key × V), vs = r.map (fun kv => (kV kv.1, kv.2)) ∧ aR K I F kvs r
 | [], vs, kvs, h, e => by
  simp only [keyed, ah] at e
  subst e
  have := h.1
  simp only [List.map_nil, RepL, List.map_eq_nil_iff] at this
  subst this
  exact ⟨[], rfl, by simp [aR]⟩
 | (k, d) :: ps, vs, kvs, h, e => by
  obtain ⟨h1, h2⟩ := h
  cases vs with
  | nil => simp only [cg, List.map_nil, RepL] at h1; obtain ⟨_, _, z, _⟩ := h1; cases z
  | cons x vs =>
   obtain ⟨x1, x2⟩ := x
   simp only [cg, RepL] at h1 h2
   obtain ⟨v, r, z1, g1, g2⟩ := h1
   obtain ⟨u, t, z2, g3, g4⟩ := h2
   cases z1
   cases z2
   simp only [keyed] at e
   split at e
   ·rename_i j tt e1 e2
    cases e
    obtain ⟨rr, e3, e4⟩ := KD ⟨g2, g4⟩ e2
    refine ⟨(j, x2) :: rr, ?_, ?_⟩
    ·rw [cg, ← e3, vS g1 e1]
    ·simp only [aR]; exact ⟨x2, rr, rfl, g3, e4⟩
   ·cases e
section
variable {S : aP} {pos : Pos} {k v : Expr} {ks : List (Option Expr)} {vs : List Expr} {mk mv : ME} {m : MP}
theorem V4 : JD S pos [] [] ID := fun X E cx xo => ⟨[], pps_nil, fun σ H Q ⟨I, F, G, ds, w, rel, rs, p⟩ => p I F H .refl rel [] ⟨by simp [RepL], by simp [RepL]⟩⟩
theorem jF (hk : JE S k mk) (hv : JE S v mv) (hr : JD S pos ks vs m) : JD S pos (some k :: ks) (v :: vs) (eI mk mv m) := fun X E cx xo => by
 obtain ⟨trs, h1, h2⟩ := hr X E cx xo
 refine ⟨(sQ X.K E mk, sQ X.K E mv) :: trs, pps_cons (hk X E cx xo) (hv X E cx xo) h1, fun σ H Q ⟨I, F, G, ds, w, rel, rs, p⟩ => ?_⟩
 refine bY (f := fun ds x w1 => (mv ds w1).bind fun y w2 => (m ds w2).bind fun ps w3 => .ok ((x, y) :: ps) w3) rel rs p fun I1 F1 H1 x w1 a e1 rel1 rs1 ra p1 => ?_
 refine bY (f := fun ds y w2 => (m ds w2).bind fun ps w3 => .ok ((x, y) :: ps) w3) rel1 rs1 p1 fun I2 F2 H2 y w2 b e2 rel2 rs2 rb p2 => ?_
 refine h2 σ H2 _ ⟨I2, F2, G, ds, w2, rel2, rs2, (aY.bind p2).mono fun I3 F3 H3 ps w3 _ e3 rel3 p3 us ru => ?_⟩
 refine p3 I3 F3 H3 .refl rel3 ((a, b) :: us) ⟨?_, ?_⟩
 ·exact RepL.cons (aI.ext (e2.trans e3) _ _ ra) ru.1
 ·exact RepL.cons (aI.ext e3 _ _ rb) ru.2
theorem TQ (h : JD S pos ks vs m) (hall : ks.all (·.isSome) = true := by rfl) (hl : ks.length = vs.length := by rfl) (h0 : ks ≠ [] := by simp) (h15 : ks.length ≤ 15 := by exact ag rfl) : JE S (.Dict ks vs pos) (GD m) := fun X E cx xo => by
 obtain ⟨trs, g1, g2⟩ := h X E cx xo
 refine cR (pe_disp g1 hall hl h0 h15) fun σ H Q ⟨I, F, G, ds, w, rel, rs, p⟩ q hq => ?_
 have hG : G q = none := by
  cases z : G q with
  | none => rfl
  | some u => rw [rel.gz _ _ z] at hq; cases hq
 refine g2 σ _ _ ⟨I, F, upd G q (.dK []), ds, w, rel.keep hq, rs, (aY.bind p).more hG fun I1 F1 H1 ps w1 _ e1 rel1 p1 us ru => ?_⟩
 refine ⟨rel1.gz q _ upd_same, ?_⟩
 split at p1
 ·rename_i kvs hk
  split at p1
  ·rename_i hl'
   obtain ⟨r, e2, e3⟩ := KD ru hk
   refine ⟨r, e2, by rw [← e3.length]; exact hl', ?_⟩
   obtain ⟨ee, rel2⟩ := (rel1.U0 (u' := .dK (mergeK [] r))).owned hG (o := .dK (uK [] kvs)) ⟨_, rfl, aR.merge e3 (by simp [aR])⟩
   refine p1 _ _ _ ee rel2 _ ?_
   simp only [aI]
   refine ⟨q, rfl, ?_⟩
   rw [← rel1.len, bw (bq _)]
   simp
  ·exact p1.elim
 ·exact p1.elim
theorem aBU : JE S (.Dict [] [] pos) sX := fun X E cx xo => cR pe_dnewT fun σ H Q ⟨I, F, G, ds, w, rel, rs, p⟩ => z9 (o := .dT []) rel ⟨[], rfl, by simp [aR]⟩ p
end
def getM : ZO := fun d ds w => match d, ds with
 | .ref i, [k, z] => (match w[i]? with
  | some o => (match rA o k with
   | some r => .ok (r.getD z) w
   | none => .bad)
  | none => .bad)
 | _, _ => .bad
def U5 : ZO := fun d ds w => match d, ds with
 | .ref i, [.ref j] => (match w[i]?, w[j]? with
  | some (.dK kvs), some (.dK more) => if i ≠ j ∧ kvs.length + more.length ≤ sizeLine then .ok .non (w.set i (.dK (uK kvs more))) else .bad
  | _, _ => .bad)
 | _, _ => .bad
theorem aDJ {X : Cx} : MtR X "dict.update" (fun x xs H Q => ∃ a b kvs more, x = V.ref a ∧ xs = [V.ref b] ∧ H a = some (.dK kvs) ∧ H b = some (.dK more) ∧ a ≠ b ∧ kvs.length + more.length ≤ sizeLine ∧ Q .non (upd H a (.dK (mergeK kvs more)))) := by
 intro pins s σ H x xs v us Q J rx rxs h
 obtain ⟨a, b, kvs, more, rfl, rfl, ha, hb, ne, hz, q⟩ := h
 cases rx
 obtain ⟨u, rfl, ru⟩ := rxs.one
 cases ru
 obtain ⟨z1, d1, vs1, r1, dd1⟩ := dk_of J.hok ha
 obtain ⟨z2, d2, vs2, r2, dd2⟩ := dk_of J.hok hb
 refine PySem.call_meetsIn PySem.F.slot_dict_update dd1.typeIs PySem.F.entry_dict_update (PySem.F.args_dict_update_2 _ _) (meets_dict_update (mixKind X.prog X.w) a b ne d2) ⟨vs1, vs2, dd1, dd2, by rw [← r1.length, ← r2.length]; exact hz, fun h' g1 _ hs => ?_⟩
 have he : ∃ q, h'.get? a = some q := by
  obtain ⟨q, _, _, hq, _⟩ := g1
  exact ⟨q, hq⟩
 refine ⟨.non, _, d_write J (t' := s.toks) (by rw [ha]; exact True.intro) hs he (dk_new ?_ d1 (KV.merge r2 r1) g1), rfl, q⟩
 exact di (length_mergeK more kvs) hz
theorem YW {S : aP} : MB S "dict.update" U5 := KI fun X E c xo I F G d ds w H x vs Q rel rd rl p => by
 unfold U5 at p
 split at p
 ·rename_i i j
  simp only [aI] at rd
  obtain ⟨a, rfl, hi⟩ := rd
  obtain ⟨t, rfl, rt⟩ := rl.one
  simp only [aI] at rt
  obtain ⟨b, rfl, hj⟩ := rt
  split at p
  ·rename_i kvs more hw1 hw2
   obtain ⟨u, hu, r, rfl, hr⟩ := rel.ob i a _ hi hw1
   obtain ⟨u2, hu2, r2, rfl, hr2⟩ := rel.ob j b _ hj hw2
   split at p
   ·rename_i hc
    refine ⟨_, aDJ, a, b, r, r2, rfl, rfl, hu, hu2, fun z => hc.1 ?_, by rw [← hr.length, ← hr2.length]; exact hc.2, p.n5 (rel.upd hi hw1 ⟨_, rfl, aR.merge hr2 hr⟩) (by simp [aI])⟩
    subst z
    obtain ⟨l1, e1⟩ := aj.mp hi
    obtain ⟨l2, e2⟩ := aj.mp hj
    exact (List.getElem_inj rel.nd).mp (e1.trans e2.symm)
   ·exact p.elim
  ·exact p.elim
 ·exact p.elim
def iS : Key → D
 | .inl i => .int i
 | .inr x => .str x
theorem D8 {K : PySem.W.Frag} {I : List Addr} {F : Hp} (k : Key) : aI K I F (iS k) (kV k) := by
 cases k <;> simp [iS, aI, kV]
def CQ (d : D) (w : W) : Res lB := match d with
 | .ref i => (match w[i]? with
  | some (.dK kvs) => .ok ⟨kvs.map fun p => .tup [iS p.1, p.2], always⟩ (w.set i (.dF kvs))
  | _ => .bad)
 | _ => .bad
def wM (m : ME) : MI := fun σ w => (m σ w).bind CQ
def tLock (te : TE) : TE := fun σ H Q => te σ H fun x H1 => ∃ d kvs, x = V.ref d ∧ H1 d = some (.dK kvs) ∧ ∀ o, Q x (upd H1 d (.frz o (.dK kvs)))
theorem pe_lock {X : Cx} {e : Expr} {te : TE} (h : PE X e te) : PE X e (tLock te) := ⟨fun pins s σ H Q J q => thn (h.run pins s σ H _ J q) fun u s1 ⟨x, H1, J1, r, d, kvs, ex, hd, k⟩ => by
 obtain ⟨o, J2⟩ := J1.lock hd trivial
 exact ⟨x, _, J2, r, k o⟩⟩
theorem aR.get {K : PySem.W.Frag} {I : List Addr} {F : Hp} {κ : Type} : ∀ {kvs : List (κ × D)} {r : List (κ × V)} {i : Nat} {k : κ} {v : V}, aR K I F kvs r → r[i]? = some (k, v) → ∃ d, kvs[i]? = some (k, d) ∧ aI K I F d v
 | [], r, i, k, v, h, e => by simp only [aR] at h; subst h; simp at e
 | (j, d) :: kvs, r, 0, k, v, h, e => by
  simp only [aR] at h
  obtain ⟨u, t, rfl, h1, h2⟩ := h
  simp at e
  obtain ⟨rfl, rfl⟩ := e
  exact ⟨d, rfl, h1⟩
 | (j, d) :: kvs, r, i + 1, k, v, h, e => by
  simp only [aR] at h
  obtain ⟨u, t, rfl, h1, h2⟩ := h
  obtain ⟨d', h3, h4⟩ := aR.get (i := i) h2 (by simpa using e)
  exact ⟨d', by simpa using h3, h4⟩
theorem LD {K : PySem.W.Frag} {I : List Addr} {F G H : Hp} {w : W} {ds : List D} {vs : List V} (rel : Rel K I F G w H) (r : RepL K I F ds vs) {q : Addr} (hq : H q = none) : ∃ F2, Ext I F I F2 ∧ Rel K I F2 G w (upd H q (.tup vs)) ∧ aI K I F2 (.tup ds) (.ref q) := by
 have hF : F q = none := by
  cases h : F q with
  | none => rfl
  | some u => rw [rel.fz _ _ h] at hq; cases hq
 have e : Ext I F I (upd F q (.tup vs)) := ⟨List.prefix_refl _, fun a u h => by rw [upd_ne (ne_of_none h hF)]; exact h⟩
 refine ⟨_, e, ⟨rel.len, rel.nd, fun i a o h1 h2 => ?_, fun a u h => ?_, fun i a o h h0 hf => ?_, fun a u h => ?_, fun a u h => ?_, rel.gt⟩, ?_⟩
 ·obtain ⟨u, h3, h4⟩ := rel.ob i a o h1 h2
  exact ⟨u, by rw [upd_ne (ne_of_none h3 hq)]; exact h3, lN.ext e h4⟩
 ·by_cases ha : a = q
  ·subst ha; rw [upd_same] at h ⊢; exact h
  ·rw [upd_ne ha] at h ⊢; exact rel.fz a u h
 ·obtain ⟨u, h3, _⟩ := rel.ob i a o h h0
  rw [upd_ne (ne_of_none h3 hq)]; exact rel.ap i a o h h0 hf
 ·rw [upd_ne (ne_of_none (rel.gz a u h) hq)]; exact rel.gz a u h
 ·rw [upd_ne (ne_of_none (rel.gz a u h) hq)]; exact rel.gf a u h
 ·simp only [aI]
  exact ⟨q, vs, rfl, upd_same, RepL.ext e _ _ r⟩
theorem aBW {K : PySem.W.Frag} {I : List Addr} {F G H : Hp} {w : W} {i : Nat} {a : Addr} {kvs : List (Key × D)} {r : List (Key × V)} (o : Obj) (rel : Rel K I F G w H) (hi : I[i]? = some a) (hw : w[i]? = some (.dK kvs)) (hr : aR K I F kvs r) :
  Ext I F I (upd F a (.frz o (.dK r))) ∧ Rel K I (upd F a (.frz o (.dK r))) G (w.set i (.dF kvs)) (upd H a (.frz o (.dK r))) := by
 have hF : F a = none := rel.ap i a _ hi hw rfl
 have rel' := rel.upd (u' := .frz o (.dK r)) (o' := .dF kvs) hi hw ⟨o, r, rfl, hr⟩
 have e : Ext I F I (upd F a (.frz o (.dK r))) := ⟨List.prefix_refl _, fun b u h => by rw [upd_ne (ne_of_none h hF)]; exact h⟩
 refine ⟨e, rel'.len, rel'.nd, fun j b q h1 h2 => ?_, fun b u h => ?_, fun j b q h1 h2 h3 => ?_, rel'.gz, fun b u h => ?_, rel.gt⟩
 ·obtain ⟨u, h3, h4⟩ := rel'.ob j b q h1 h2
  exact ⟨u, h3, lN.ext e h4⟩
 ·by_cases hb : b = a
  ·subst hb; rw [upd_same] at h ⊢; exact h
  ·rw [upd_ne hb] at h; exact rel'.fz b u h
 ·have hb : b ≠ a := fun z => by
   subst z
   obtain ⟨l1, e1⟩ := aj.mp hi
   obtain ⟨l2, e2⟩ := aj.mp h1
   have hij : i = j := (List.getElem_inj rel.nd).mp (e1.trans e2.symm)
   subst hij
   rw [bh (aj.mp hw).1] at h2
   cases h2
   cases h3
  rw [upd_ne hb]; exact rel'.ap j b q h1 h2 h3
 ·obtain ⟨g1, g2⟩ := rel.gf b u h
  have hb : b ≠ a := fun z => g2 (by rw [z]; exact cf hi)
  exact ⟨by rw [upd_ne hb]; exact g1, g2⟩
theorem aB4 {S : aP} {e : Expr} {m : ME} {apos cpos tpos : Pos} {elts : List Expr} {kk : Nat} (he : JE S e m) (hbase : ∀ env : Env, attributeBase e "items" env (eval e env) = eval e env := by intro _; rfl) (hline : (apos.endLine == cpos.line) = true := by rfl) :
  JI S (.Tuple elts kk tpos) (.Call (.Attribute e "items" apos) [] [] cpos) (wM m) := fun X E cx xo =>
 AM (pi_items (pe_lock (he X E cx xo)) (hbase X.env) hline) fun σ H R ⟨I, F, G, ds, w, rel, rs, p⟩ => bY (f := fun _ => CQ) rel rs p fun I1 F1 H1 d w1 v e1 rel1 rs1 rv p1 => by
  unfold CQ at p1
  split at p1
  ·rename_i i
   simp only [aI] at rv
   obtain ⟨a, rfl, hi⟩ := rv
   split at p1
   ·rename_i kvs hw
    obtain ⟨u, hu, r, rfl, hr⟩ := rel1.ob i a _ hi hw
    refine ⟨a, r, rfl, hu, fun o => ⟨a, o, r, rfl, upd_same, ?_⟩⟩
    have hl : i < w1.length := (aj.mp hw).1
    obtain ⟨e2, rel2⟩ := aBW o rel1 hi hw hr
    refine p1 I1 _ _ e2 rel2 trivial _ fun I' F' G' w' H' j e' rel' _ => ?_
    have hH : H' a = some (.frz o (.dK r)) := rel'.fz _ _ (e'.f _ _ upd_same)
    have hr' := aR.ext (e2.trans e') _ _ hr
    have hlen : kvs.length = r.length := hr.length
    refine ⟨fun x hx => ?_, fun hl' => ⟨hH, by rw [ay] at hl'; omega⟩⟩
    rw [cu] at hx
    cases hk : kvs[j]? with
    | none => rw [hk] at hx; cases hx
    | some kd =>
     rw [hk] at hx
     cases hx
     refine ⟨⟨hH, by rw [← hlen]; exact (aj.mp hk).1⟩, fun v H'' y => ?_⟩
     obtain ⟨T, k, v', g1, rfl, g2, rfl⟩ := y
     obtain ⟨d', g3, g4⟩ := hr'.get g1
     rw [hk] at g3
     cases g3
     exact LD rel' (RepL.cons (D8 k) (RepL.cons g4 (by simp [RepL]))) g2
   ·exact p1.elim
  ·exact p1.elim
open Classical in
def inL (it : lB) (vs : List Nat) (g : MG) (t : MT) (e : ME) : List D → List D → Sg → W → Res (List D)
 | acc, [], σ, w => if it.ok w then .ok acc w else .bad
 | acc, x :: xs, σ, w => if it.ok w then (g x (eA σ vs) w).OP.bind fun σ1 w1 => (t σ1 w1).OP.bind fun b w2 =>
   if b = true then (e σ1 w2).OP.bind fun y w3 => if acc.length < sizeLine then inL it vs g t e (acc ++ [y]) xs σ w3 else .bad else inL it vs g t e acc xs σ w2
  else .bad
open Classical in
def AG (it : lB) (vs : List Nat) (g : MG) (t : MT) (mi1 : MI) (vs1 : List Nat) (g1 : MG) (t1 : MT) (e : ME) : List D → List D → Sg → W → Res (List D)
 | acc, [], σ, w => if it.ok w then .ok acc w else .bad
 | acc, x :: xs, σ, w => if it.ok w then (g x (eA σ vs) w).OP.bind fun σ1 w1 => (t σ1 w1).OP.bind fun b w2 =>
   if b = true then (mi1 σ1 w2).OP.bind fun it1 w3 => (inL it1 vs1 g1 t1 e acc it1.xs σ1 w3).bind fun acc' w4 => AG it vs g t mi1 vs1 g1 t1 e acc' xs σ w4
   else AG it vs g t mi1 vs1 g1 t1 e acc xs σ w2
  else .bad
def aAC (m : MI) (vs : List Nat) (g : MG) (t : MT) (mi1 : MI) (vs1 : List Nat) (g1 : MG) (t1 : MT) (e : ME) : MA := fun σ w => (m σ w).bind fun it w1 => AG it vs g t mi1 vs1 g1 t1 e [] it.xs σ w1
def GR (m : MI) (vs : List Nat) (g : MG) (t : MT) (mi1 : MI) (vs1 : List Nat) (g1 : MG) (t1 : MT) (e : ME) : ME := fun σ w => (aAC m vs g t mi1 vs1 g1 t1 e σ w).bind fun ys w1 => .ok (.lst ys) w1
theorem still {α : Type} {K : PySem.W.Frag} {R : List Addr → Hp → Hp → α → W → Prop} {r : Res α} {I : List Addr} {F G : Hp} {q : Addr} {u : HO} (hG : G q = none) (p : aY K I F G E0 R r) :
  aY K I F (upd G q u) E0 (fun I' F' H' a w => Rel K I' F' (upd G q u) w H' ∧ ∀ H'', Rel K I' F' G w H'' → R I' F' H'' a w) r := by
 cases r with
 | ok a w => exact fun I' F' H' e q => ⟨q, fun H'' q' => p I' F' H'' e q'⟩
 | HW x w => exact fun I' F' H' c d e q rx => p I' F' H' c d e (kA q hG) rx
 | bad => exact p
theorem ZW {mi : MI} {g : MG} {t : MT} {mi1 : MI} {g1 : MG} {t1 : MT} {me : ME} {K : PySem.W.Frag} {E : XK} {vs vs1 : List Nat} {f : List D → W → Res D} {σ : L2.St} {H : Hp} {Q : VK} (h : sQ K E (fun σ w => (aAC mi vs g t mi1 vs1 g1 t1 me σ w).bind f) σ H Q)
  (fin : ∀ I F G w H q xs us, Rel K I F (upd G q (.lst us)) w H → G q = none → RepL K I F xs us → aY K I F G E (RV K Q) (f xs w) → Q (.ref q) H) :
  tLc2 (aC0 K E mi) (aC6 K E0 vs g) (U9 K E0 t) (aC0 K E0 mi1) (aC6 K E0 vs1 g1) (U9 K E0 t1) (sQ K E0 me) vs vs1 σ H Q := by
 obtain ⟨I, F, G, ds, w, rel, rs, p⟩ := h
 have p0 : aY K I F G E (RV K Q) ((mi ds w).bind fun it w1 => (AG it vs g t mi1 vs1 g1 t1 me [] it.xs ds w1).bind f) := by
  rw [← Res.bind_assoc]; exact p
 refine ⟨I, F, G, ds, w, rel, rs, (aY.bind p0).mono fun I1 F1 H1 it w1 _ e1 rel1 p1 hok J hJ q hq => ?_⟩
 have hG : G q = none := by
  cases h : G q with
  | none => rfl
  | some u => rw [rel1.gz _ _ h] at hq; cases hq
 refine ⟨fun i n H' => n = it.xs.length - i ∧ i ≤ it.xs.length ∧ ∃ I' F' w' xs us, Ext I1 F1 I' F' ∧ Rel K I' F' (upd G q (.lst us)) w' H' ∧ RepL K I' F' xs us ∧
   aY K I' F' G E (RV K Q) ((AG it vs g t mi1 vs1 g1 t1 me xs (it.xs.drop i) ds w').bind f),
  ⟨it.xs.length, by simp, Nat.zero_le _, I1, F1, w1, [], [], .refl, rel1.keep hq, by simp [RepL], by simpa using p1⟩, ?_⟩
 rintro i n H' ⟨rfl, hi, I', F', w', xs, us, e', rel', rx, p'⟩
 by_cases hlt : i < it.xs.length
 ·rw [List.drop_eq_getElem_cons hlt] at p'
  unfold AG at p'
  split at p'
  ·rename_i hw
   obtain ⟨h1, _⟩ := hJ I' F' _ w' H' i e' rel' hw
   obtain ⟨hgo, hy⟩ := h1 _ (bz hlt)
   refine .inr ⟨hgo, fun H2 => ∃ I2 F2 w2 xs2 us2, Ext I1 F1 I2 F2 ∧ Rel K I2 F2 (upd G q (.lst us2)) w2 H2 ∧ RepL K I2 F2 xs2 us2 ∧ aY K I2 F2 G E (RV K Q) ((AG it vs g t mi1 vs1 g1 t1 me xs2 (it.xs.drop (i + 1)) ds w2).bind f),
    fun H2 q => ⟨it.xs.length - (i + 1), by omega, rfl, hlt, q⟩, fun v H2 y => ?_⟩
   obtain ⟨F2, e2, rel2, rv⟩ := hy v H2 y
   have p2 := p'.ext e2
   rw [Res.bind_assoc] at p2
   refine ⟨I', F2, upd G q (.lst us), _, eA ds vs, w', rel2, (((rs.ext e1).ext e').ext e2).wipe vs, rv, (still hG (aY.AY p2)).mono fun I3 F3 H3 s3 w3 _ e3 rel3 p3 σ3 rs3 ew => ⟨ew.trans BV, ?_⟩⟩
   have p3' := p3.2 H3 (kA rel3 hG)
   rw [Res.bind_assoc] at p3'
   refine ⟨I3, F3, upd G q (.lst us), s3, w3, rel3, rs3, (still hG (aY.AY p3')).mono fun I4 F4 H4 b w4 _ e4 rel4 p4 => ?_⟩
   have p4' := p4.2 H4 (kA rel4 hG)
   cases b with
   | false =>
    simp only [ax, ab] at p4' ⊢
    exact ⟨I4, F4, w4, xs, us, (e'.trans e2).trans (e3.trans e4), rel4, RepL.ext ((e2.trans e3).trans e4) _ _ rx, p4'⟩
   | true =>
    simp only [ae] at p4' ⊢
    rw [Res.bind_assoc] at p4'
    refine ⟨I4, F4, upd G q (.lst us), s3, w4, rel4, rs3.ext e4, (still hG (aY.AY p4')).mono fun I5 F5 H5 it1 w5 _ e5 rel5 p5 hok1 J1 hJ1 => ?_⟩
    have p5' := p5.2 H5 (kA rel5 hG)
    rw [Res.bind_assoc] at p5'
    have ee : Ext I' F' I5 F5 := ((e2.trans e3).trans e4).trans e5
    refine ⟨fun j k H' => k = it1.xs.length - j ∧ j ≤ it1.xs.length ∧ ∃ I' F' w' xs us, Ext I5 F5 I' F' ∧ Rel K I' F' (upd G q (.lst us)) w' H' ∧ RepL K I' F' xs us ∧
      aY K I' F' G E (RV K Q) ((inL it1 vs1 g1 t1 me xs (it1.xs.drop j) s3 w').bind fun xs2 w2 => (AG it vs g t mi1 vs1 g1 t1 me xs2 (it.xs.drop (i + 1)) ds w2).bind f),
     ⟨it1.xs.length, by simp, Nat.zero_le _, I5, F5, w5, xs, us, .refl, rel5, RepL.ext ee _ _ rx, by simpa using p5'⟩, ?_⟩
    rintro j k H6 ⟨rfl, hj, I6, F6, w6, xs6, us6, e6, rel6, rx6, p6⟩
    by_cases hlt1 : j < it1.xs.length
    ·rw [List.drop_eq_getElem_cons hlt1] at p6
     unfold inL at p6
     split at p6
     ·rename_i hw1
      obtain ⟨k1, _⟩ := hJ1 I6 F6 _ w6 H6 j e6 rel6 hw1
      obtain ⟨kgo, ky⟩ := k1 _ (bz hlt1)
      refine .inr ⟨kgo, fun H2 => ∃ I' F' w' xs us, Ext I5 F5 I' F' ∧ Rel K I' F' (upd G q (.lst us)) w' H2 ∧ RepL K I' F' xs us ∧
        aY K I' F' G E (RV K Q) ((inL it1 vs1 g1 t1 me xs (it1.xs.drop (j + 1)) s3 w').bind fun xs2 w2 => (AG it vs g t mi1 vs1 g1 t1 me xs2 (it.xs.drop (i + 1)) ds w2).bind f),
       fun H2 q => ⟨it1.xs.length - (j + 1), by omega, rfl, hlt1, q⟩, fun v1 H7 y1 => ?_⟩
      obtain ⟨F7, e7, rel7, rv7⟩ := ky v1 H7 y1
      have p7 := p6.ext e7
      rw [Res.bind_assoc] at p7
      have e47 : Ext I3 F3 I6 F7 := ((e4.trans e5).trans e6).trans e7
      refine ⟨I6, F7, upd G q (.lst us6), _, eA s3 vs1, w6, rel7, (rs3.ext e47).wipe vs1, rv7, (still hG (aY.AY p7)).mono fun I8 F8 H8 s8 w8 _ e8 rel8 p8 σ8 rs8 ew8 => ⟨ew8.trans BV, ?_⟩⟩
      have p8' := p8.2 H8 (kA rel8 hG)
      rw [Res.bind_assoc] at p8'
      refine ⟨I8, F8, upd G q (.lst us6), s8, w8, rel8, rs8, (still hG (aY.AY p8')).mono fun I9 F9 H9 b9 w9 _ e9 rel9 p9 => ?_⟩
      have p9' := p9.2 H9 (kA rel9 hG)
      cases b9 with
      | false =>
       simp only [ax, ab] at p9' ⊢
       exact ⟨I9, F9, w9, xs6, us6, e6.trans ((e7.trans e8).trans e9), rel9, RepL.ext ((e7.trans e8).trans e9) _ _ rx6, p9'⟩
      | true =>
       simp only [ae] at p9' ⊢
       rw [Res.bind_assoc] at p9'
       refine ⟨I9, F9, upd G q (.lst us6), s8, w9, rel9, rs8.ext e9, (still hG (aY.AY p9')).mono fun Ia Fa Ha ya wa _ ea rela pa ua rua => ?_⟩
       have pa' := pa.2 Ha (kA rela hG)
       split at pa'
       ·rename_i hz
        have eee : Ext I6 F6 Ia Fa := ((e7.trans e8).trans e9).trans ea
        exact ⟨us6, rela.gz _ _ upd_same, by rw [← rx6.length]; exact hz, Ia, Fa, wa, xs6 ++ [ya], us6 ++ [ua], e6.trans eee, rela.U0, (RepL.ext eee _ _ rx6).append (RepL.cons rua (by simp [RepL])), pa'⟩
       ·exact pa'.elim
     ·exact p6.elim
    ·have hl : j = it1.xs.length := by omega
     subst hl
     rw [List.drop_length] at p6
     unfold inL at p6
     split at p6
     ·rename_i hw1
      exact .inl ⟨(hJ1 I6 F6 _ w6 H6 _ e6 rel6 hw1).2 rfl, I6, F6, w6, xs6, us6, (e'.trans ee).trans e6, rel6, rx6, p6⟩
     ·exact p6.elim
  ·exact p'.elim
 ·have hl : i = it.xs.length := by omega
  subst hl
  rw [List.drop_length] at p'
  unfold AG at p'
  split at p'
  ·rename_i hw
   exact .inl ⟨(hJ I' F' _ w' H' _ e' rel' hw).2 rfl, fin I' F' G w' H' q xs us rel' hG rx p'⟩
  ·exact p'.elim
section
variable {S : aP} {pos : Pos} {elt tg iter tg1 iter1 : Expr} {ifs ifs1 : List Expr} {scope : Scope} {own : List (Str × Nat)} {vs1 : List Nat} {mi mi1 : MI} {g g1 : MG} {t t1 : MT} {me : ME}
theorem aCk (hi : JI S tg iter mi) (hb : blkC S.N S.sc scope own = true) (hg : JC (S.blk scope) (own.map (·.2)) tg g) (ht : JTs (S.blk scope) ifs t) (hi1 : JI (S.blk scope) tg1 iter1 mi1) (hg1 : JC (S.blk scope) vs1 tg1 g1) (ht1 : JTs (S.blk scope) ifs1 t1) (he : JE (S.blk scope) elt me)
  (hv : ∀ i ∈ vs1, i ∈ own.map (·.2) := by decide) (hs : ∀ (env : Env) x, foldedSetIterable iter env x = pure x := by intro _ _; rfl) (hs1 : ∀ (env : Env) x, foldedSetIterable iter1 env x = pure x := by intro _ _; rfl) :
  JE S (.ListComp elt [⟨tg, iter, ifs, 0⟩, ⟨tg1, iter1, ifs1, 0⟩] scope pos) (GR mi (own.map (·.2)) g t mi1 vs1 g1 t1 me) := fun X E cx xo =>
 cR (pe_lc2 (own := own) (vs1 := vs1) cx.calm cx.nd (hi X E cx xo) (blkOk_by (by rw [cx.N, cx.sc]; exact hb)) hv (fun s H C cl fp => hg _ E0 (jH cx s H scope C cl fp) (jD ..)) (fun s H C cl fp => ht _ E0 (jH cx s H scope C cl fp) (jD ..))
  (fun s H C cl fp => hi1 _ E0 (jH cx s H scope C cl fp) (jD ..)) (fun s H C cl fp => hg1 _ E0 (jH cx s H scope C cl fp) (jD ..)) (fun s H C cl fp => ht1 _ E0 (jH cx s H scope C cl fp) (jD ..))
  (fun s H C cl fp => he _ E0 (jH cx s H scope C cl fp) (jD ..)) (hs X.env) hs1) fun σ H Q h => ZW h N8
end
structure KTab (K : PySem.W.Frag) (w : World) (d : Addr) (tab : List (Str × Option D)) : Prop where
 ex : ∃ es n, KDict K w d es n
 hit : ∀ z x, tab.lookup z = some (some x) → ∃ u v, PySem.W.nsIn K d z = some (some u) ∧ RelV v u ∧ ∀ I F, aI K I F x v
 miss : ∀ z, tab.lookup z = some none → PySem.W.nsIn K d z = some none
 out : ∀ z, tab.lookup z = none → PySem.W.nsIn K d z = some none
def ZD (d : Addr) (tab : List (Str × Option D)) (x y : D) (w : W) : Res D := match x, y with
 | .str z, .con a => if a = d then (match tab.lookup z with
  | some o => .ok (.bl o.isSome) w
  | none => .ok (.bl false) w) else .bad
 | _, _ => .bad
def U2 (d : Addr) (tab : List (Str × Option D)) (x y : D) (w : W) : Res D := match x, y with
 | .con a, .str z => if a = d then (match tab.lookup z with
  | some (some v) => .ok v w
  | _ => .bad) else .bad
 | _, _ => .bad
theorem aF5 {S : aP} {d : Addr} {tab : List (Str × Option D)} (T : KTab S.K S.w d tab) : O2 S (compareOp .In) (ZD d tab) := jE fun X E c xo I F G a b w H x y Q rel rd re p => by
 unfold ZD at p
 split at p
 ·rename_i z a'
  simp only [aI] at rd re
  subst rd re
  split at p
  ·rename_i hd
   subst hd
   obtain ⟨es, n, T1⟩ := T.ex
   rw [← c.K, ← c.w] at T1
   cases h : tab.lookup z with
   | none => rw [h] at p; exact ⟨_, op_in_kd T1, z, none, rfl, rfl, by rw [c.K]; exact T.out z h, p.n5 rel (by simp [aI])⟩
   | some o =>
    rw [h] at p
    cases o with
    | none => exact ⟨_, op_in_kd T1, z, none, rfl, rfl, by rw [c.K]; exact T.miss z h, p.n5 rel (by simp [aI])⟩
    | some v =>
     obtain ⟨u, v', h1, h2, h3⟩ := T.hit z v h
     exact ⟨_, op_in_kd T1, z, some u, rfl, rfl, by rw [c.K]; exact h1, p.n5 rel (by simp [aI])⟩
  ·exact p.elim
 ·exact p.elim
theorem aFm {S : aP} {d : Addr} {tab : List (Str × Option D)} (T : KTab S.K S.w d tab) : aAx S (U2 d tab) := SN fun X E c xo I F G a b w H x y Q rel rd re p => by
 unfold U2 at p
 split at p
 ·rename_i a' z
  simp only [aI] at rd re
  subst rd re
  split at p
  ·rename_i hd
   subst hd
   obtain ⟨es, n, T1⟩ := T.ex
   rw [← c.K, ← c.w] at T1
   cases h : tab.lookup z with
   | none => rw [h] at p; exact p.elim
   | some o =>
    cases o with
    | none => rw [h] at p; exact p.elim
    | some v =>
    rw [h] at p
    obtain ⟨u, v', h1, h2, h3⟩ := T.hit z v h
    exact ⟨_, ix_kdict, a', z, v', rfl, rfl, ⟨es, n, u, T1.at_, T1.lit, by rw [c.K]; exact h1, h2⟩, p.n5 rel (by rw [c.K]; exact h3 _ _)⟩
  ·exact p.elim
 ·exact p.elim
theorem aGx {S : aP} {d : Addr} {tab : List (Str × Option D)} {a b : Expr} {ma mb : ME} {pos : Pos} (T : KTab S.K S.w d tab) (ha : JE S a ma) (hb : JE S b mb) (hs : PlainIx b := by intro _ _; rfl) : JE S (.Subscript a b pos) (aD (U2 d tab) ma mb) := fun X E c xo =>
 cR (pe_ix (aFm T X E c xo) (ha X E c xo) (hb X E c xo) hs) fun _ _ _ h => zO h
open RZ (nextOf_tuple_item nextOf_tuple_end zipTH1 zipTH2 zipTH3 zipTH4)
abbrev tQ (h : Heap) (z TI TO : Addr) (f0 : Value) : Prop :=
 h.get? z = some { cls := .type "zip", dict := none, data := .fields #[f0, .bool false, .bool true, .ref TI, .ref TO], slots := #[] }
abbrev zsH (h : Heap) (l1 l2 : Addr) : Heap := (zipTH4 h l1 l2).push { cls := .type "zip", data := .fields #[.none, .bool false, .bool true, .ref (zipTH2 h l1 l2).objs.size, .ref (zipTH3 h l1 l2).objs.size] }
theorem P4 (a b c : Value) : checkTypeCall "zip" ⟨[a, b], [(Str.ofString "strict", c)]⟩ = pure () := by kernel_rfl
theorem VW (a b c : Value) : checkBuiltinCall "zip.__new__" ⟨[.type "zip", a, b], [(Str.ofString "strict", c)]⟩ = pure () := by kernel_rfl
theorem aEj (x a b c : Value) : argsOk "object.__init__" ⟨[x, a, b], [(Str.ofString "strict", c)]⟩ := by unfold argsOk; kernel_rfl
theorem aFY (l1 l2 : Addr) (xs ys : Array Value) : Meets (Builtin.«zip.__new__» ⟨[.type "zip", .ref l1, .ref l2], [(Str.ofString "strict", .bool true)]⟩) (fun _ R s => s.heap.IsTuple l1 xs ∧ s.heap.IsTuple l2 ys ∧
   R (.ok (.ret (.ref (zipTH4 s.heap l1 l2).objs.size))) { s with heap := zsH s.heap l1 l2 }) :=
 .of_wp fun prog w A R s ⟨t1, t2, fin⟩ => by
  obtain ⟨hp, gs, dr, tk, os⟩ := s
  have sub0 := sub_zip
  have T1 : Heap.IsTuple (Shared.heap ⟨hp, gs, dr, tk, os⟩) l1 xs := t1
  have T2 : Heap.IsTuple (Shared.heap ⟨hp.push { cls := .type "tuple_iterator", data := .fields #[.ref l1, .int 0 0] }, gs, dr, tk, os⟩) l2 ys := Heap.IsTuple.push t2 _
  have s1 : (Str.ofString "strict" == ("strict" : Str)) = true := by decide +kernel
  have s2 : (Str.ofString "strict" != ("strict" : Str)) = false := by decide +kernel
  wp_walk using wpAny_pyIter_tuple T1, wpAny_pyIter_tuple T2
  exact ⟨_, rfl, fin⟩
open RZ (nextOf_tuple_item nextOf_tuple_end zipTH1 zipTH2 zipTH3 zipTH4)
section
variable {prog : Program} {w : World} {A : Around} {E : Value → Shared → Prop} {s : Shared}
theorem aCT {l1 l2 : Addr} {xs ys : Array Value} {Q : Value → Shared → Prop} (t1 : s.heap.IsTuple l1 xs) (t2 : s.heap.IsTuple l2 ys)
  (fin : ∀ g, tQ g (s.heap.objs.size + 4) (s.heap.objs.size + 2) (s.heap.objs.size + 3) .none → IsPair g (s.heap.objs.size + 2) (.ref s.heap.objs.size) (.ref (s.heap.objs.size + 1)) → IsPair g (s.heap.objs.size + 3) .none .none →
   g.IsTupleIter s.heap.objs.size l1 0 → g.IsTupleIter (s.heap.objs.size + 1) l2 0 → (∀ c o, s.heap.get? c = some o → g.get? c = some o) → Q (.ref (s.heap.objs.size + 4)) { s with heap := g }) :
  wpAny (model prog w) A (call (.type "zip") [.ref l1, .ref l2] [(Str.ofString "strict", .bool true)]) Q E s := by
 refine callType_newKw F.called_zip (by decide) (P4 _ _ _) (VW _ _ _) (fun x => aEj x _ _ _) F.entry_zip_new (aFY l1 l2 xs ys) ⟨t1, t2, ?_⟩
 have n1 : (zipTH1 s.heap l1).objs.size = s.heap.objs.size + 1 := Heap.size_push ..
 have n2 : (zipTH2 s.heap l1 l2).objs.size = s.heap.objs.size + 2 := by rw [Heap.size_push, n1]
 have n3 : (zipTH3 s.heap l1 l2).objs.size = s.heap.objs.size + 3 := by rw [Heap.size_push, n2]
 have n4 : (zipTH4 s.heap l1 l2).objs.size = s.heap.objs.size + 4 := by rw [Heap.size_push, n3]
 have up1 : ∀ {c o}, (zipTH4 s.heap l1 l2).get? c = some o → (zsH s.heap l1 l2).get? c = some o := fun h => Heap.get?_push_of_some _ h
 have up2 : ∀ {c o}, (zipTH3 s.heap l1 l2).get? c = some o → (zsH s.heap l1 l2).get? c = some o := fun h => up1 (Heap.get?_push_of_some _ h)
 have up3 : ∀ {c o}, (zipTH2 s.heap l1 l2).get? c = some o → (zsH s.heap l1 l2).get? c = some o := fun h => up2 (Heap.get?_push_of_some _ h)
 have up4 : ∀ {c o}, (zipTH1 s.heap l1).get? c = some o → (zsH s.heap l1 l2).get? c = some o := fun h => up3 (Heap.get?_push_of_some _ h)
 have k5 : (zsH s.heap l1 l2).get? (zipTH4 s.heap l1 l2).objs.size = some _ := Heap.get?_push_size _ rfl
 have k4 : (zsH s.heap l1 l2).get? (zipTH3 s.heap l1 l2).objs.size = some _ := up1 (Heap.get?_push_size _ rfl)
 have k3 : (zsH s.heap l1 l2).get? (zipTH2 s.heap l1 l2).objs.size = some _ := up2 (Heap.get?_push_size _ rfl)
 have k2 : (zsH s.heap l1 l2).get? (zipTH1 s.heap l1).objs.size = some _ := up3 (Heap.get?_push_size _ rfl)
 have k1 : (zsH s.heap l1 l2).get? s.heap.objs.size = some _ := up4 (Heap.get?_push_size _ rfl)
 show _ ∧ _
 rw [n2, n3, n4] at k5
 rw [n1, n2] at k3
 rw [n3] at k4
 rw [n1] at k2
 rw [n4]
 exact ⟨⟨_, k5, rfl⟩, fin _ k5 k3 k4 ⟨_, k1, rfl, rfl⟩ ⟨_, k2, rfl, rfl⟩ fun c o h => up4 (Heap.get?_push_of_some _ h)⟩
theorem QS {it l : Addr} {i : Nat} {items : Array Value} {x : Value} {Q : Option Value → Shared → Prop} (a : s.heap.IsTupleIter it l i) (b : s.heap.IsTuple l items) (c : items[i]? = some x)
  (q : ∀ g, g.IsTupleIter it l (i + 1) → Heap.SameBut it s.heap g → Q (some x) { s with heap := g }) : wpAny (model prog w) A (Builtin.SmallTypes.nextOrEnd (.ref it)) Q E s := by
 unfold Builtin.SmallTypes.nextOrEnd
 exact wpAny_bind (wpAny_attempt (nextOf_tuple_item a b c fun g g1 g2 => wpAny_pure (q g g1 g2)))
theorem WO {it l : Addr} {i : Nat} {items : Array Value} {Q : Option Value → Shared → Prop} (hh : A.handled = none) (a : s.heap.IsTupleIter it l i) (b : s.heap.IsTuple l items) (c : items[i]? = none)
  (q : ∀ g, Heap.ExtBut it s.heap g → Q none { s with heap := g }) : wpAny (model prog w) A (Builtin.SmallTypes.nextOrEnd (.ref it)) Q E s := by
 unfold Builtin.SmallTypes.nextOrEnd
 refine wpAny_bind (wpAny_attempt (nextOf_tuple_end hh a b c fun g e g1 ⟨o, g2, g3⟩ => ?_))
 refine wpAny_bind (wpAny_isInstance (T := "StopIteration") (b := true) ⟨o, g2, g3⟩ isSubtype_stop ?_)
 exact wpAny_pure (q g g1)
theorem G9 {T : Addr} {a b x : Value} {k : Nat} {Q : Unit → Shared → Prop} (h : IsPair s.heap T a b) (q : ∀ g, g.get? T = some { cls := .type "tuple", data := .seq ((#[a, b] : Array Value).setIfInBounds k x) } → Heap.SameBut T s.heap g → Q () { s with heap := g }) :
  wpAny (model prog w) A (updateSeq T (·.setIfInBounds k x)) Q E s := wpAny_updateSeq_pair h q
theorem aDp {z TI TO i1 i2 l1 l2 : Addr} {k : Nat} {xs ys : Array Value} {x y a b : Value} {Q : Value → Shared → Prop} (D : ZipApart z TI TO i1 i2 l1 l2)
  (hz : tQ s.heap z TI TO .none) (hI : IsPair s.heap TI (.ref i1) (.ref i2)) (hO : IsPair s.heap TO a b) (a1 : s.heap.IsTupleIter i1 l1 k) (a2 : s.heap.IsTupleIter i2 l2 k) (b1 : s.heap.IsTuple l1 xs) (b2 : s.heap.IsTuple l2 ys) (c1 : xs[k]? = some x) (c2 : ys[k]? = some y)
  (fin : ∀ g, tQ g z TI TO (rawInt s.heap.objs.size) → IsPair g TO x y → g.IsTupleIter i1 l1 (k + 1) → g.IsTupleIter i2 l2 (k + 1) → IsPair g s.heap.objs.size x y → (∀ c o, c ≠ z → c ≠ TO → c ≠ i1 → c ≠ i2 → s.heap.get? c = some o → g.get? c = some o) → Q (.ref s.heap.objs.size) { s with heap := g }) :
  wpAny (model prog w) A (Builtin.«zip.__next__» ⟨[.ref z], []⟩) (fun f t => ∃ v, f = .done (.ret v) ∧ Q v t) E s := by
 show wpAny _ _ (field (.ref z) 2 >>= _) _ _ _
 refine wpAny_bind (wpAny_field hz rfl (x := .bool true) rfl ?_)
 show wpAny _ _ (field (.ref z) 3 >>= _) _ _ _
 refine wpAny_bind (wpAny_field hz rfl (x := .ref TI) rfl ?_)
 refine wpAny_bind (wpAny_seqItems hI rfl ?_)
 show wpAny _ _ (Builtin.SmallTypes.ownedTupleIsFree (.ref z) >>= _) _ _ _
 refine wpAny_bind ?_
 unfold Builtin.SmallTypes.ownedTupleIsFree
 refine wpAny_bind (wpAny_field hz rfl (x := .none) rfl (wpAny_pure ?_))
 simp only [ae]
 refine wpAny_bind (wpAny_rule ?_)
 refine wpAny_bind (wpAny_field hz rfl (x := .ref TO) rfl ?_)
 refine wpAny_bind (wpAny_setField_rec hz (by simp) fun g1 z1 s1 => ?_)
 have z1' : tQ g1 z TI TO .ellipsis := z1
 refine wpAny_bind ?_
 simp only [List.zipIdx_cons, List.zipIdx_nil, List.forIn_cons, List.forIn_nil]
 refine wpAny_bind (wpAny_bind (wpAny_onRaise ?_))
 show wpAny _ _ (Builtin.SmallTypes.nextOrEnd (.ref i1)) _ _ _
 refine QS (a1.extBut s1.extBut D.i1z) (b1.extBut s1.extBut D.l1z) c1 fun g2 d1 s2 => ?_
 have O2 : IsPair g2 TO a b := s2.extBut _ _ D.TOi1 (s1.extBut _ _ D.TOz hO)
 refine wpAny_bind (wpAny_seqItems O2 rfl ?_)
 refine wpAny_bind (G9 O2 fun g3 O3 s3 => ?_)
 have O3' : IsPair g3 TO x b := O3
 refine wpAny_bind (wpAny_letGo (wpAny_pure ?_))
 refine wpAny_bind (wpAny_bind (wpAny_onRaise ?_))
 show wpAny _ _ (Builtin.SmallTypes.nextOrEnd (.ref i2)) _ _ _
 refine QS (((a2.extBut s1.extBut D.i2z).extBut s2.extBut D.i12.symm).extBut s3.extBut D.TOi2.symm) (((b2.extBut s1.extBut D.l2z).extBut s2.extBut D.l2i1).extBut s3.extBut D.l2TO) c2 fun g4 d2 s4 => ?_
 have O4 : IsPair g4 TO x b := s4.extBut _ _ D.TOi2 O3'
 refine wpAny_bind (wpAny_seqItems O4 rfl ?_)
 refine wpAny_bind (G9 O4 fun g5 O5 s5 => ?_)
 have O5' : IsPair g5 TO x y := O5
 refine wpAny_bind (wpAny_letGo (wpAny_pure (wpAny_pure ?_)))
 refine wpAny_bind (wpAny_seqItems O5' rfl ?_)
 refine wpAny_bind (wpAny_newTuple ?_)
 have size5 : g5.objs.size = s.heap.objs.size := by rw [s5.1, s4.1, s3.1, s2.1, s1.1]
 have z5 : tQ g5 z TI TO .ellipsis := s5.extBut _ _ D.TOz.symm (s4.extBut _ _ D.i2z.symm (s3.extBut _ _ D.TOz.symm (s2.extBut _ _ D.i1z.symm z1')))
 have kp : ∀ c o, c ≠ z → c ≠ TO → c ≠ i1 → c ≠ i2 → s.heap.get? c = some o → g5.get? c = some o := fun c o n1 n2 n3 n4 e =>
  s5.extBut _ _ n2 (s4.extBut _ _ n4 (s3.extBut _ _ n2 (s2.extBut _ _ n3 (s1.extBut _ _ n1 e))))
 have d1' : g5.IsTupleIter i1 l1 (k + 1) := ((d1.extBut s3.extBut D.TOi1.symm).extBut s4.extBut D.i12).extBut s5.extBut D.TOi1.symm
 have d2' : g5.IsTupleIter i2 l2 (k + 1) := d2.extBut s5.extBut D.TOi2.symm
 have zl : z < g5.objs.size := Heap.lt_size z5
 show wpAny _ _ (Builtin.SmallTypes.ownedTupleHandOut (.ref z) (.ref g5.objs.size) >>= _) _ _ _
 refine wpAny_bind ?_
 unfold Builtin.SmallTypes.ownedTupleHandOut
 have z6 : tQ (g5.push { cls := .type "tuple", data := .seq #[x, y] }) z TI TO .ellipsis := Heap.get?_push_of_some _ z5
 refine wpAny_bind (wpAny_setField_rec z6 (by simp) fun g7 z7 s7 => ?_)
 have z7' : tQ g7 z TI TO (rawInt g5.objs.size) := z7
 refine wpAny_setField_rec z7' (by simp) fun g8 z8 s8 => ?_
 have z8' : tQ g8 z TI TO (rawInt g5.objs.size) := z8
 have up : ∀ c o, c ≠ z → g5.get? c = some o → g8.get? c = some o := fun c o n e => s8.extBut _ _ n (s7.extBut _ _ n (Heap.get?_push_of_some _ e))
 have T8 : IsPair g8 g5.objs.size x y := s8.extBut _ _ (Nat.ne_of_gt zl) (s7.extBut _ _ (Nat.ne_of_gt zl) (Heap.get?_push_size _ rfl))
 rw [size5] at z8' T8
 refine wpAny_pure ⟨_, rfl, ?_⟩
 show Q (.ref g5.objs.size) _
 rw [size5]
 exact fin g8 z8' (up _ _ D.TOz O5') (d1'.at fun o e => up _ o D.i1z e) (d2'.at fun o e => up _ o D.i2z e) T8 fun c o n1 n2 n3 n4 e => up c o n1 (kp c o n1 n2 n3 n4 e)
theorem aFN {z TI TO i1 i2 l1 l2 : Addr} {k : Nat} {xs ys : Array Value} {a b : Value} {Q : Fin → Shared → Prop} (hh : A.handled = none) (D : ZipApart z TI TO i1 i2 l1 l2)
  (hz : tQ s.heap z TI TO .none) (hI : IsPair s.heap TI (.ref i1) (.ref i2)) (hO : IsPair s.heap TO a b) (a1 : s.heap.IsTupleIter i1 l1 k) (a2 : s.heap.IsTupleIter i2 l2 k) (b1 : s.heap.IsTuple l1 xs) (b2 : s.heap.IsTuple l2 ys) (c1 : xs[k]? = none) (c2 : ys[k]? = none)
  (fin : ∀ g e, (∀ c o, c ≠ z → c ≠ TO → c ≠ i1 → c ≠ i2 → s.heap.get? c = some o → g.get? c = some o) → (∃ o, g.get? e = some o ∧ o.cls = .type "StopIteration") → E (.ref e) { s with heap := g }) :
  wpAny (model prog w) A (Builtin.«zip.__next__» ⟨[.ref z], []⟩) Q E s := by
 show wpAny _ _ (field (.ref z) 2 >>= _) _ _ _
 refine wpAny_bind (wpAny_field hz rfl (x := .bool true) rfl ?_)
 show wpAny _ _ (field (.ref z) 3 >>= _) _ _ _
 refine wpAny_bind (wpAny_field hz rfl (x := .ref TI) rfl ?_)
 refine wpAny_bind (wpAny_seqItems hI rfl ?_)
 show wpAny _ _ (Builtin.SmallTypes.ownedTupleIsFree (.ref z) >>= _) _ _ _
 refine wpAny_bind ?_
 unfold Builtin.SmallTypes.ownedTupleIsFree
 refine wpAny_bind (wpAny_field hz rfl (x := .none) rfl (wpAny_pure ?_))
 simp only [ae]
 refine wpAny_bind (wpAny_rule ?_)
 refine wpAny_bind (wpAny_field hz rfl (x := .ref TO) rfl ?_)
 refine wpAny_bind (wpAny_setField_rec hz (by simp) fun g1 z1 s1 => ?_)
 have z1' : tQ g1 z TI TO .ellipsis := z1
 refine wpAny_bind ?_
 simp only [List.zipIdx_cons, List.zipIdx_nil, List.forIn_cons, List.forIn_nil]
 refine wpAny_bind (wpAny_bind (wpAny_onRaise ?_))
 show wpAny _ _ (Builtin.SmallTypes.nextOrEnd (.ref i1)) _ _ _
 refine WO hh (a1.extBut s1.extBut D.i1z) (b1.extBut s1.extBut D.l1z) c1 fun g2 s2 => ?_
 have z2 : tQ g2 z TI TO .ellipsis := s2 _ _ D.i1z.symm z1'
 refine wpAny_bind (wpAny_setField_rec z2 (by simp) fun g3 _ s3 => ?_)
 refine wpAny_bind (wpAny_bind ?_)
 show wpAny _ _ (forIn ((List.drop 1 [Value.ref i1, Value.ref i2]).zipIdx 1) PUnit.unit _) _ _ _
 simp only [List.drop_succ_cons, List.drop_zero, List.zipIdx_cons, List.zipIdx_nil, List.forIn_cons, List.forIn_nil]
 refine wpAny_bind (wpAny_bind (WO hh (((a2.extBut s1.extBut D.i2z).extBut s2 D.i12.symm).extBut s3.extBut D.i2z) (((b2.extBut s1.extBut D.l2z).extBut s2 D.l2i1).extBut s3.extBut D.l2z) c2 fun g4 s4 => ?_))
 show wpAny _ _ (pure (ForInStep.yield PUnit.unit)) _ _ _
 refine wpAny_pure ?_
 refine wpAny_pure ?_
 refine wpAny_bind (wpAny_rule ?_)
 unfold Builtin.SmallTypes.stopIteration
 refine wpAny_bind ?_
 simp only [newExc, newTuple]
 refine wpAny_bind (wpAny_newObj_type ?_ (by size_fits))
 refine wpAny_bind (m := firstArgMember _ _) (wpAny_of_eq (a := Value.none) (by first | rfl | (simp only [firstArgMember]; rfl)) ?_)
 refine wpAny_newObj_type ?_ (by size_fits)
 simp only [raiseNew]
 refine wpAny_bind (wpAny_handled ?_)
 rw [hh]
 refine wpAny_bind (wpAny_pure (wpAny_throw ?_))
 refine fin _ _ (fun c o n1 _ n3 n4 e => ?_) ⟨_, Heap.get?_push_size _ rfl, rfl⟩
 exact Heap.get?_push_of_some _ (Heap.get?_push_of_some _ (s4 _ _ n4 (s3.extBut _ _ n1 (s2 _ _ n3 (s1.extBut _ _ n1 e)))))
theorem Q9 {z TI TO i1 i2 l1 l2 : Addr} {k : Nat} {xs ys : Array Value} {x y a b : Value} {Q : Option Value → Shared → Prop} (D : ZipApart z TI TO i1 i2 l1 l2)
  (hz : tQ s.heap z TI TO .none) (hI : IsPair s.heap TI (.ref i1) (.ref i2)) (hO : IsPair s.heap TO a b) (a1 : s.heap.IsTupleIter i1 l1 k) (a2 : s.heap.IsTupleIter i2 l2 k) (b1 : s.heap.IsTuple l1 xs) (b2 : s.heap.IsTuple l2 ys) (c1 : xs[k]? = some x) (c2 : ys[k]? = some y)
  (fin : ∀ g, tQ g z TI TO (rawInt s.heap.objs.size) → IsPair g TO x y → g.IsTupleIter i1 l1 (k + 1) → g.IsTupleIter i2 l2 (k + 1) → IsPair g s.heap.objs.size x y → (∀ c o, c ≠ z → c ≠ TO → c ≠ i1 → c ≠ i2 → s.heap.get? c = some o → g.get? c = some o) → Q (some (.ref s.heap.objs.size)) { s with heap := g }) :
  wpAny (model prog w) A (pyNext (.ref z)) Q E s := by
 have ty : s.TypeIs (.ref z) "zip" := ⟨_, hz, rfl⟩
 unfold pyNext
 exact wpAny_bind (wpAny_attempt (wpAny_callSpecial?_slot (name := Str.ofString "__next__") ty F.slot_zip_next (wpAny_call_entry F.slot_zip_next ty F.entry_zip_next (aDp D hz hI hO a1 a2 b1 b2 c1 c2 fun g e1 e2 e3 e4 e5 e6 => wpAny_pure (fin g e1 e2 e3 e4 e5 e6)) (F.args_zip_next_1 _))))
theorem WG {z TI TO i1 i2 l1 l2 : Addr} {k : Nat} {xs ys : Array Value} {a b : Value} {Q : Option Value → Shared → Prop} (hh : A.handled = none) (D : ZipApart z TI TO i1 i2 l1 l2)
  (hz : tQ s.heap z TI TO .none) (hI : IsPair s.heap TI (.ref i1) (.ref i2)) (hO : IsPair s.heap TO a b) (a1 : s.heap.IsTupleIter i1 l1 k) (a2 : s.heap.IsTupleIter i2 l2 k) (b1 : s.heap.IsTuple l1 xs) (b2 : s.heap.IsTuple l2 ys) (c1 : xs[k]? = none) (c2 : ys[k]? = none)
  (fin : ∀ g, (∀ c o, c ≠ z → c ≠ TO → c ≠ i1 → c ≠ i2 → s.heap.get? c = some o → g.get? c = some o) → Q none { s with heap := g }) : wpAny (model prog w) A (pyNext (.ref z)) Q E s := by
 have ty : s.TypeIs (.ref z) "zip" := ⟨_, hz, rfl⟩
 unfold pyNext
 refine wpAny_bind (wpAny_attempt (wpAny_callSpecial?_slot (name := Str.ofString "__next__") ty F.slot_zip_next (wpAny_call_entry F.slot_zip_next ty F.entry_zip_next (aFN hh D hz hI hO a1 a2 b1 b2 c1 c2 fun g e kp he => ?_) (F.args_zip_next_1 _))))
 obtain ⟨o, h1, h2⟩ := he
 refine wpAny_bind (wpAny_isInstance (T := "StopIteration") (b := true) ⟨o, h1, h2⟩ isSubtype_stop ?_)
 exact wpAny_pure (fin _ kp)
theorem WU {z TI TO : Addr} {f0 : Value} {Q : Value → Shared → Prop} (hz : tQ s.heap z TI TO f0) (h : Q (.ref z) s) : wpAny (model prog w) A (pyIter (.ref z)) Q E s := by
 have ty : s.TypeIs (.ref z) "zip" := ⟨_, hz, rfl⟩
 refine wpAny_pyIter_slot ty F.slot_zip_iter (wpAny_call_entry F.slot_zip_iter ty F.entry_zip_iter ?_ (F.args_zip_iter_1 _))
 show wpAny _ _ (ret (.ref z)) _ _ s
 exact wpAny_pure ⟨_, rfl, "zip", _, ty, F.slot_zip_next.lookup, h⟩
theorem aAm {elts : List Expr} {x1 : Nat} {pos : Pos} {z TI TO T : Addr} {Q : Unit → Shared → Prop} (hz : tQ s.heap z TI TO (rawInt T))
  (fin : ∀ g, tQ g z TI TO .none → Heap.SameBut z s.heap g → Q () { s with heap := g }) : wpAny (model prog w) A (letOwnedTupleGo (.Tuple elts x1 pos) (.ref z) (.ref T)) Q E s := by
 unfold letOwnedTupleGo
 refine wpAny_bind (wpAny_load hz ?_)
 show wpAny _ _ (if (["enumerate", "zip", "dict_itemiterator", "dict_reverseitemiterator", "odict_iterator", "itertools.zip_longest", "itertools.pairwise"].contains "zip" &&
   (#[rawInt T, .bool false, .bool true, .ref TI, .ref TO] : Array Value)[0]? == some (rawInt T)) = true then _ else _) Q E s
 rw [if_pos (by simp)]
 refine wpAny_bind (wpAny_rule ?_)
 show wpAny _ _ (setField (.ref z) 0 .none) Q E s
 exact wpAny_setField_rec hz (by simp) fun g h1 h2 => fin g h1 h2
end
def aHb (K : PySem.W.Frag) (a b : Addr) : It :=
 ⟨fun i H => ∃ (xs ys : List V) (x y : V), SqT K H a xs ∧ SqT K H b ys ∧ xs[i]? = some x ∧ ys[i]? = some y,
  fun i H v H' => ∃ T x y, v = .ref T ∧ H T = none ∧ H' = upd H T (.tup [x, y]) ∧ (∀ xs, SqT K H a xs → xs[i]? = some x) ∧ ∀ ys, SqT K H b ys → ys[i]? = some y,
  fun i H => ∃ xs ys : List V, SqT K H a xs ∧ SqT K H b ys ∧ xs.length ≤ i ∧ ys.length ≤ i⟩
theorem aDH {P : Program} {w : World} {K : PySem.W.Frag} {elts : List Expr} {kk : Nat} {tpos : Pos} {a b z TI TO i1 i2 : Addr} (D : ZipApart z TI TO i1 i2 a b) :
  Turn P w K (.Tuple elts kk tpos) (aHb K a b) [z, TI, TO, i1, i2] z (fun i h => tQ h z TI TO .none ∧ IsPair h TI (.ref i1) (.ref i2) ∧ (∃ x y, IsPair h TO x y) ∧ h.IsTupleIter i1 a i ∧ h.IsTupleIter i2 b i) where
 mem := by simp
 obj := fun i h st c hc => by
  obtain ⟨f1, f2, ⟨x, y, f3⟩, ⟨o1, e1, _, d1⟩, ⟨o2, e2, _, d2⟩⟩ := st
  have cs : c = z ∨ c = TI ∨ c = TO ∨ c = i1 ∨ c = i2 := by simpa using hc
  rcases cs with rfl | rfl | rfl | rfl | rfl
  ·exact ⟨_, f1, fun v q => nomatch q⟩
  ·exact ⟨_, f2, fun v q => nomatch q⟩
  ·exact ⟨_, f3, fun v q => nomatch q⟩
  ·exact ⟨o1, e1, fun v q => by rw [d1] at q; cases q⟩
  ·exact ⟨o2, e2, fun v q => by rw [d2] at q; cases q⟩
 keep := fun i h h' st k => by
  obtain ⟨f1, f2, ⟨x, y, f3⟩, f4, f5⟩ := st
  exact ⟨k z (by simp) _ f1, k TI (by simp) _ f2, ⟨x, y, k TO (by simp) _ f3⟩, f4.at fun o q => k i1 (by simp) o q, f5.at fun o q => k i2 (by simp) o q⟩
 item := by
  intro X hP hw hK hc i pins s σ H E I fp st go
  subst hP hw hK
  obtain ⟨f1, f2, ⟨x0, y0, f3⟩, f4, f5⟩ := st
  obtain ⟨xs, ys, x, y, qx, qy, gx, gy⟩ := go
  obtain ⟨us, rv, p, _⟩ := I.tuple qx
  obtain ⟨us2, rv2, p2, _⟩ := I.tuple qy
  obtain ⟨u, hu, ru⟩ := rv.get gx
  obtain ⟨u2, hu2, ru2⟩ := rv2.get gy
  have zl : z < s.heap.objs.size := Heap.lt_size f1
  refine Q9 D f1 f2 f3 f4 f5 p p2 (x := u) (y := u2) (by simpa using hu) (by simpa using hu2) fun g z' TO' h1' h2' hT hk => ?_
  refine ⟨_, rfl, aAm (s := { s with heap := g }) z' fun g2 z'' sb => ?_⟩
  have hT2 : g2.get? s.heap.objs.size = some { cls := .type "tuple", data := .seq #[u, u2] } := (sb.2 _ (Nat.ne_of_gt zl)).trans hT
  have new : ObjOk X.prog X.w (upd H s.heap.objs.size (.tup [x, y])) g2 s.heap.objs.size (.tup [x, y]) := ⟨by show 2 ≤ sizeLine; decide, [u, u2], .cons ru (.cons ru2 .nil), ⟨_, hT2, rfl, _, rfl⟩⟩
  have I1 : Inv X pins σ (upd H s.heap.objs.size (.tup [x, y])) { s with heap := g2 } :=
   I.turnedNew (t' := s.toks) (ch := [z, TI, TO, i1, i2]) (fun c o hb q => by
    simp only [bu, cj, cz, not_or] at hb
    exact (sb.2 c hb.1).trans (hk c o hb.1 hb.2.2.1 hb.2.2.2.1 hb.2.2.2.2 q)) fp (bq _) new
  refine ⟨.ref s.heap.objs.size, _, I1, rfl, ⟨_, x, y, rfl, I.hok.fresh (bq _), rfl, fun l hl => by rw [I.tuple_inj hl qx]; exact gx, fun l hl => by rw [I.tuple_inj hl qy]; exact gy⟩, ⟨z'', ?_, ⟨u, u2, ?_⟩, ?_, ?_⟩, fun c hcm => ?_⟩
  ·exact (sb.2 _ D.TIz).trans (hk _ _ D.TIz D.TITO D.TIi1 D.TIi2 f2)
  ·exact (sb.2 _ D.TOz).trans TO'
  ·exact h1'.at fun o q => (sb.2 _ D.i1z).trans q
  ·exact h2'.at fun o q => (sb.2 _ D.i2z).trans q
  ·have hlt : c < s.heap.objs.size := by
    have cs : c = z ∨ c = TI ∨ c = TO ∨ c = i1 ∨ c = i2 := by simpa using hcm
    rcases cs with rfl | rfl | rfl | rfl | rfl
    ·exact zl
    ·exact Heap.lt_size f2
    ·exact Heap.lt_size f3
    ·obtain ⟨_, e1, _⟩ := f4; exact Heap.lt_size e1
    ·obtain ⟨_, e2, _⟩ := f5; exact Heap.lt_size e2
   rw [upd_ne (Nat.ne_of_lt hlt)]
   exact (fp c hcm).1
 done := by
  intro X hP hw hK hc i pins s σ H E I fp st go
  subst hP hw hK
  obtain ⟨f1, f2, ⟨x0, y0, f3⟩, f4, f5⟩ := st
  obtain ⟨xs, ys, qx, qy, e1, e2⟩ := go
  obtain ⟨us, rv, p, _⟩ := I.tuple qx
  obtain ⟨us2, rv2, p2, _⟩ := I.tuple qy
  have l1 := rv.length
  have l2 := rv2.length
  refine WG (I.ok.hd hc) D f1 f2 f3 f4 f5 p p2 (by simp; omega) (by simp; omega) fun g hk => ⟨rfl, I.turnedL (t' := s.toks) (ch := [z, TI, TO, i1, i2]) (fun c o hb q => ?_) fp⟩
  simp only [bu, cj, cz, not_or] at hb
  exact hk c o hb.1 hb.2.2.1 hb.2.2.2.1 hb.2.2.2.2 q
 self := fun A i s Q E st h => WU st.1 h
section
variable {M : Model} {A : Around} {E : Value → Shared → Prop} {s : Shared} {env : Env}
theorem JN {pos : Pos} {T : String} {first : List Value} {args : List (Bool × Sem Value)} {kws : List (Option Str × Sem Value)} {Q : Value → Shared → Prop} (p1 : args.any (·.1) = false) (p2 : kws.any (·.1.isNone) = false)
  (h : wpAny M A (evalArgs (.type T) true args kws) (fun a t => wpAny M A (call (.type T) (first ++ a.pos) a.kw) Q E t) E s) : wpAny M A (callWith pos (.type T) first args kws) Q E s := by
 unfold callWith
 refine wpAny_bind (wpAny_holding (wpAny_mono h (fun a t g => wpAny_bind (wpAny_standAt ?_)) fun _ _ z => z))
 simp only [p1, p2, Bool.or_false]
 refine wpAny_bind (wpAny_pure ?_)
 exact wpAny_bind (wpAny_mono g (fun r t2 hr => wpAny_bind (wpAny_holding (wpAny_point (wpAny_pure hr)))) fun _ _ z => z)
end
section
variable {X : Cx} {e e2 : Expr} {ta : TA} {p pos tpos cp kp : Pos} {elts : List Expr} {kk k : Nat}
def iZs (K : PySem.W.Frag) (ta : TA) : TI := fun σ H R => ta σ H fun vs H1 => ∃ a b xs ys, vs = [V.ref a, V.ref b] ∧ SqT K H1 a xs ∧ SqT K H1 b ys ∧ R (aHb K a b) H1
theorem aHM (hg : Gl X "zip") (hm : X.mg "zip" = none) (ha : PA X [e, e2] ta) (hs : starEach [e, e2] X.env = (false, eval e X.env) :: starEach [e2] X.env := by rfl) (hpl : (backTo pos (starEach [e, e2] X.env)).any (·.1) = false := by rfl)
  (hk1 : (backToKw pos (keywordEach [⟨some "strict", .Constant (.bool true) k cp, kp⟩] X.env)).any (·.1.isNone) = false := by rfl) (hk2 : (backToKw pos (keywordEach [⟨some "strict", .Constant (.bool true) k cp, kp⟩] X.env)).all (·.1.isSome) = true := by rfl)
  (hk3 : (backToKw pos (keywordEach [⟨some "strict", .Constant (.bool true) k cp, kp⟩] X.env)).filterMap (·.1) = [Str.ofString "strict"] := by rfl) :
  PI X (.Tuple elts kk tpos) (.Call (.Name "zip" p) [e, e2] [⟨some "strict", .Constant (.bool true) k cp, kp⟩] pos) (iZs X.K ta) := by
 refine ⟨fun pins s σ H R I h => ?_⟩
 refine wpAny_Call_Name_kw (ld_blt I hg hm PyProof.Rows.boot_zip (JN hpl hk1 ?_))
 have hA := ha.run pos pins s σ H _ I h
 rw [hs] at hA ⊢
 refine evalArgs_kwB hk2 (thn hA fun us s1 ⟨vs, H1, I1, r1, a, b, xs, ys, ex, qx, qy, q⟩ => ?_)
 subst ex
 rw [hk3]
 refine thn ((pk_cons (nm := some "strict") (kpos := kp) (pe_bl (b := true) (j := k) (pos := cp)) pk_nil).run pos pins s1 σ H1 (fun zs H2 => zs = [V.bl true] ∧ H2 = H1) I1 ⟨rfl, rfl⟩) fun ws s2 ⟨zs, H2, I2, rz, ez, eH⟩ => ?_
 subst ez eH
 obtain ⟨w1, rfl, rw1⟩ := rz.one
 cases rw1
 obtain ⟨u1, u2, rfl, ra, rb⟩ := r1.two
 cases ra
 cases rb
 obtain ⟨us1, rv, p1, _⟩ := I2.tuple qx
 obtain ⟨us2, rv2, p2, _⟩ := I2.tuple qy
 obtain ⟨o1, ho1, _⟩ := id p1
 obtain ⟨o2, ho2, _⟩ := id p2
 refine aCT (show s2.heap.IsTuple a us1.toArray from p1) (show s2.heap.IsTuple b us2.toArray from p2) fun g hz hI hO h1 h2 hk => WU hz ?_
 have I3 : Inv X pins σ H2 { s2 with heap := g } := I2.kept (t' := s2.toks) hk
 refine ⟨s2.heap.objs.size + 4, [s2.heap.objs.size + 4, s2.heap.objs.size + 2, s2.heap.objs.size + 3, s2.heap.objs.size, s2.heap.objs.size + 1], _, _, H2, rfl, I3, aDH (PySem.W.ktu_apart s2.heap.objs.size a b (Heap.lt_size ho1) (Heap.lt_size ho2)), ⟨hz, hI, ⟨_, _, hO⟩, h1, h2⟩, fun c hc => ?_, q⟩
 have le : s2.heap.objs.size ≤ c := by
  simp only [bu, cj, cz] at hc
  rcases hc with rfl | rfl | rfl | rfl | rfl <;> omega
 exact I2.fpOk le (I2.hok.fresh le)
end
def zsM (ds : List D) (w : W) : Res lB := match ds with
 | [x, y] => (match zI x, zI y with
  | some xs, some ys => if xs.length = ys.length then .ok ⟨(xs.zip ys).map fun p => .tup [p.1, p.2], always⟩ w else .bad
  | _, _ => .bad)
 | _ => .bad
theorem QQ {K : PySem.W.Frag} {I : List Addr} {F : Hp} {d : D} {v : V} {xs : List D} (h : aI K I F d v) (e : zI d = some xs) : ∃ a vs, v = .ref a ∧ SqT K F a vs ∧ RepL K I F xs vs := by
 cases d <;> simp only [zI, ah, reduceCtorEq] at e <;> simp only [aI] at h
 case tup => subst e; obtain ⟨a, vs, h0, h1, h2⟩ := h; exact ⟨a, vs, h0, .of h1, h2⟩
 case gY => subst e; obtain ⟨a, vs, h0, h1, h2⟩ := h; exact ⟨a, vs, h0, h1, h2⟩
theorem aHS {S : aP} {e e2 : Expr} {ma : MA} {p pos tpos cp kp : Pos} {elts : List Expr} {kk k : Nat} (hg : S.sc.names.lookup ("zip" : Str) = some .globalImplicit) (hm : S.mg "zip" = none) (ha : JA S [e, e2] ma)
  (hs : ∀ env : Env, starEach [e, e2] env = (false, eval e env) :: starEach [e2] env := by intro _; rfl) (hpl : ∀ env : Env, (backTo pos (starEach [e, e2] env)).any (·.1) = false := by intro _; rfl) :
  JI S (.Tuple elts kk tpos) (.Call (.Name "zip" p) [e, e2] [⟨some "strict", .Constant (.bool true) k cp, kp⟩] pos) (fU zsM ma) := fun X E cx xo =>
 AM (aHM (by show X.env.scope.names.lookup _ = _; rw [cx.sc]; exact hg) (by rw [cx.mg]; exact hm) (ha X E cx xo) (hs X.env) (hpl X.env)) fun σ H R ⟨I, F, G, ds, w, rel, rs, p⟩ => fB (f := fun _ => zsM) rel rs p fun I1 F1 H1 xs w1 vs e1 rel1 rs1 rv p1 => by
  unfold zsM at p1
  split at p1
  ·rename_i x y
   obtain ⟨v, u, rfl, rx, ry⟩ := rv.two
   split at p1
   ·rename_i xs ys hx hy
    split at p1
    ·rename_i hl
     obtain ⟨a, us, rfl, q1, q2⟩ := QQ rx hx
     obtain ⟨b, ts, rfl, q3, q4⟩ := QQ ry hy
     refine ⟨a, b, us, ts, rfl, rel1.Q8 q1, rel1.Q8 q3, p1 I1 F1 H1 .refl rel1 trivial _ fun I' F' G' w' H' j e' rel' _ => ?_⟩
     have t1 := rel'.Q8 (EL e' q1)
     have t2 := rel'.Q8 (EL e' q3)
     have r1 := RepL.ext e' _ _ q2
     have r2 := RepL.ext e' _ _ q4
     have l1 : xs.length = us.length := r1.length
     have l2 : ys.length = ts.length := r2.length
     refine ⟨fun x hx => ?_, fun hj => ⟨us, ts, t1, t2, ?_, ?_⟩⟩
     ·rw [cu] at hx
      cases hz : (xs.zip ys)[j]? with
      | none => rw [hz] at hx; cases hx
      | some pr =>
       rw [hz] at hx
       cases hx
       obtain ⟨pa, pb⟩ := pr
       rw [List.getElem?_zip_eq_some] at hz
       obtain ⟨v1, g1, g2⟩ := r1.get hz.1
       obtain ⟨v2, g3, g4⟩ := r2.get hz.2
       refine ⟨⟨us, ts, v1, v2, t1, t2, g1, g3⟩, fun v H'' y => ?_⟩
       obtain ⟨T, x', y', rfl, k1, rfl, k2, k3⟩ := y
       have z1 := k2 us t1
       have z2 := k3 ts t2
       rw [g1] at z1
       rw [g3] at z2
       cases z1
       cases z2
       exact LD rel' (RepL.cons g2 (RepL.cons g4 (by simp [RepL]))) k1
     ·simp only [ay, List.length_zip] at hj; omega
     ·simp only [ay, List.length_zip] at hj; omega
    ·exact p1.elim
   ·exact p1.elim
  ·exact p1.elim
def X6 : D → Value → Bool
 | .non, .none => true
 | .bl b, .bool c => b == c
 | .int i, .int j _ => decide (i = j)
 | .str x, .str y _ => decide (x = y)
 | _, _ => false
def DK : D → V
 | .bl b => .bl b
 | .int i => .int i
 | .str x => .str x
 | _ => .non
theorem S7 {d : D} {u : Value} (h : X6 d u = true) : RelV (DK d) u ∧ ∀ K I F, aI K I F d (DK d) := by
 cases d <;> cases u <;> simp only [X6, ax, beq_iff_eq, aq] at h
 ·exact ⟨rfl, fun _ _ _ => by simp [aI, DK]⟩
 ·subst h; exact ⟨rfl, fun _ _ _ => by simp [aI, DK]⟩
 ·subst h; exact ⟨⟨_, rfl⟩, fun _ _ _ => by simp [aI, DK]⟩
 ·subst h; exact ⟨⟨_, rfl⟩, fun _ _ _ => by simp [aI, DK]⟩
def CH : List D → List Value → Bool
 | [], [] => true
 | d :: ds, u :: us => X6 d u && CH ds us
 | _, _ => false
theorem K7 : ∀ {ds : List D} {us : List Value}, CH ds us = true → Vals (ds.map DK) us ∧ ∀ K I F, RepL K I F ds (ds.map DK)
 | [], [], _ => ⟨.nil, fun _ _ _ => by simp [RepL]⟩
 | d :: ds, u :: us, h => by
  simp only [CH, ak] at h
  obtain ⟨h1, h2⟩ := S7 h.1
  obtain ⟨h3, h4⟩ := K7 h.2
  exact ⟨.cons h1 h3, fun K I F => RepL.cons (h2 K I F) (h4 K I F)⟩
 | [], _ :: _, h => by simp [CH] at h
 | _ :: _, [], h => by simp [CH] at h
def GQ (K : PySem.W.Frag) (d : D) (u : Value) : Bool := match d, u with
 | .gY ds, .ref a => (match K.lookup a with
  | some ⟨.type c, _, .seq its _, _⟩ => decide (c = "tuple") && (decide (its.size ≤ sizeLine) && CH ds its.toList)
  | _ => false)
 | .con a, .ref b => decide (a = b)
 | d, u => X6 d u
theorem BY {K : PySem.W.Frag} {d : D} {u : Value} (h : GQ K d u = true) : ∃ v, RelV v u ∧ ∀ I F, aI K I F d v := by
 unfold GQ at h
 split at h
 ·rename_i ds a
  split at h
  ·rename_i c od its n sl hl
   simp only [ak, aq] at h
   obtain ⟨rfl, h2, h3⟩ := h
   obtain ⟨h4, h5⟩ := K7 h3
   refine ⟨.ref a, rfl, fun I F => ?_⟩
   simp only [aI]
   exact ⟨a, _, rfl, .inr ⟨_, its, n, hl, rfl, rfl, h2, h4⟩, h5 K I F⟩
  ·cases h
 ·rename_i a b
  simp only [aq] at h
  subst h
  exact ⟨.ref a, rfl, fun I F => by simp [aI]⟩
 ·obtain ⟨h1, h2⟩ := S7 h
  exact ⟨_, h1, h2 K⟩
def TB (S : aP) (x : Str) (d : D) : Prop := ∃ v u, S.mg x = some u ∧ RelV v u ∧ ∀ I F, aI S.K I F d v
theorem nU {S : aP} {x : Str} {d : D} {pos : Pos} (G : TB S x d) (hg : S.sc.names.lookup x = some .globalImplicit := by rfl) (hd : (x == ("__debug__" : Str)) = false := by decide) : JE S (.Name x pos) (eC d) := by
 obtain ⟨v, u, h1, h2, h3⟩ := G
 exact aCM hg h1 h2 h3 hd
def zH (K : PySem.W.Frag) (x : Str) (d : D) : Bool := match PySem.W.nsIn K mainGlobals x with
 | some (some u) => GQ K d u
 | _ => false
theorem jJ {S : aP} {h : Heap} {x : Str} {d : D} (kin : S.K.In h) (ns : h.Ns mainGlobals S.mg) (c : zH S.K x d = true) : TB S x d := by
 unfold zH at c
 split at c
 ·rename_i u hu
  obtain ⟨v, h1, h2⟩ := BY c
  exact ⟨v, u, PySem.W.mg_of kin ns hu, h1, h2⟩
 ·cases c
def aCy (K : PySem.W.Frag) (a : Addr) (tab : List (Str × Option D)) : Bool := match K.lookup a with
 | some ⟨_, _, .dict es _, _⟩ => es.toList.all fun e => !e.refKey && tab.any fun p => e.key.isStr p.1
 | _ => false
def aBy (K : PySem.W.Frag) (a : Addr) (tab : List (Str × Option D)) : Bool := aCy K a tab && tab.all fun p => match p.2 with
 | some d => (match PySem.W.nsIn K a p.1 with
  | some (some u) => GQ K d u
  | _ => false)
 | none => He.eqO (PySem.W.nsIn K a p.1) (some none)
theorem Z0 {v : Value} {x y : Str} (h1 : v.isStr x = true) (h2 : v.isStr y = true) : x = y := by
 cases v <;> simp only [Value.isStr, ax] at h1 h2
 simp only [beq_iff_eq] at h1 h2
 rw [← h1, ← h2]
theorem aAS {K : PySem.W.Frag} {a : Addr} {tab : List (Str × Option D)} (h : aCy K a tab = true) (z : Str) (hz : tab.lookup z = none) : PySem.W.nsIn K a z = some none := by
 unfold aCy at h
 unfold PySem.W.nsIn
 split at h
 ·rename_i c od es n sl hl
  simp only [hl]
  rw [bg] at h
  have no : ∀ p ∈ tab, p.1 ≠ z := fun p hp e => by
   rw [List.lookup_eq_none_iff] at hz
   have := hz p hp
   rw [e] at this
   simp at this
  have h1 : es.toList.find? (·.key.isStr z) = none := by
   rw [List.find?_eq_none]
   intro e he q
   have := h e he
   simp only [ak, List.any_eq_true] at this
   obtain ⟨_, p, hp, hk⟩ := this
   exact no p hp (Z0 hk q)
  have h2 : es.toList.any (·.refKey) = false := by
   rw [List.any_eq_false]
   intro e he
   have := h e he
   simp only [ak, Bool.not_eq_true'] at this
   simp [this.1]
  rw [h1, h2]
  rfl
 ·cases h
theorem lookup_mem {α : Type} {k : Str} {x : α} : ∀ {l : List (Str × α)}, l.lookup k = some x → (k, x) ∈ l
 | [], h => by simp at h
 | (j, y) :: r, h => by
  simp only [List.lookup] at h
  split at h
  ·rename_i e
   cases h
   rw [beq_iff_eq] at e
   subst e
   exact bc ..
  ·exact br _ (lookup_mem h)
theorem aCb {K : PySem.W.Frag} {w : World} {a : Addr} {tab : List (Str × Option D)} (ex : ∃ es n, KDict K w a es n) (c : aBy K a tab = true) : KTab K w a tab := by
 unfold aBy at c
 rw [ak] at c
 obtain ⟨c0, c⟩ := c
 rw [bg] at c
 refine ⟨ex, fun z x h => ?_, fun z h => ?_, fun z h => aAS c0 z h⟩
 ·have := c _ (lookup_mem h)
  dsimp only at this
  split at this
  ·rename_i u hu
   obtain ⟨v, h1, h2⟩ := BY this
   exact ⟨u, v, hu, h1, h2⟩
  ·cases this
 ·exact He.eqO_ok (c _ (lookup_mem h))
def j7 {α : Type} (is : List (Nat × Nat)) (us ws mv : List α) : List α := is.filterMap fun p => match p.1 with
 | 0 => us[p.2]?
 | 1 => ws[p.2]?
 | _ => mv[p.2]?
theorem TZ (is : List (Nat × Nat)) {vs zs ms : List V} {us ws mv : List Value} (h1 : Vals vs us) (h2 : Vals zs ws) (h3 : Vals ms mv) : Vals (j7 is vs zs ms) (j7 is us ws mv) := by
 induction is with
 | nil => exact .nil
 | cons p is ih =>
  obtain ⟨b, i⟩ := p
  unfold j7 at ih ⊢
  match b with
  | 0 =>
   rcases Vals.at? h1 i with ⟨e1, e2⟩ | ⟨v, u, e1, e2, r⟩
   ·simpa [List.filterMap_cons, e1, e2] using ih
   ·simpa [List.filterMap_cons, e1, e2] using (show Vals (v :: _) (u :: _) from .cons r ih)
  | 1 =>
   rcases Vals.at? h2 i with ⟨e1, e2⟩ | ⟨v, u, e1, e2, r⟩
   ·simpa [List.filterMap_cons, e1, e2] using ih
   ·simpa [List.filterMap_cons, e1, e2] using (show Vals (v :: _) (u :: _) from .cons r ih)
  | n + 2 =>
   rcases Vals.at? h3 i with ⟨e1, e2⟩ | ⟨v, u, e1, e2, r⟩
   ·simpa [List.filterMap_cons, e1, e2] using ih
   ·simpa [List.filterMap_cons, e1, e2] using (show Vals (v :: _) (u :: _) from .cons r ih)
theorem aAb (is : List (Nat × Nat)) {K : PySem.W.Frag} {I : List Addr} {F : Hp} {xs zs ms : List D} {vs us mv : List V} (h1 : RepL K I F xs vs) (h2 : RepL K I F zs us) (h3 : RepL K I F ms mv) : RepL K I F (j7 is xs zs ms) (j7 is vs us mv) := by
 induction is with
 | nil => simp [j7, RepL]
 | cons p is ih =>
  obtain ⟨b, i⟩ := p
  unfold j7 at ih ⊢
  match b with
  | 0 =>
   rcases RepL.at? h1 i with ⟨e1, e2⟩ | ⟨v, u, e1, e2, r⟩
   ·simpa [List.filterMap_cons, e1, e2] using ih
   ·simpa [List.filterMap_cons, e1, e2] using RepL.cons r ih
  | 1 =>
   rcases RepL.at? h2 i with ⟨e1, e2⟩ | ⟨v, u, e1, e2, r⟩
   ·simpa [List.filterMap_cons, e1, e2] using ih
   ·simpa [List.filterMap_cons, e1, e2] using RepL.cons r ih
  | n + 2 =>
   rcases RepL.at? h3 i with ⟨e1, e2⟩ | ⟨v, u, e1, e2, r⟩
   ·simpa [List.filterMap_cons, e1, e2] using ih
   ·simpa [List.filterMap_cons, e1, e2] using RepL.cons r ih
theorem AN {K : PySem.W.Frag} {x qual : Str} {params : Arguments} {body : List Stmt} {scope : Scope} {kws : List (Str × V)} {f : Addr} {fd : FuncData} {ps : List Str} (F : FunD K x qual params body scope [] kws f fd) (n : Nat) (ks : List Str) (ms : List (Str × V)) (mds : List D) (is : List (Nat × Nat))
  (hk : kws ≠ []) (hms : ∀ q ∈ ms, q ∈ kws) (hmd : ∀ I F', RepL K I F' mds (ms.map (·.2)))
  (h : ∀ (D : Addr) (doc pm : Value) (an : Option Addr) (cdv ct : Value) (us mv ws : List Value), us.length = n → mv.length = ms.length → ws.length = ks.length →
   KwChain D ((ms.map (·.1)).zip mv) (bindArgs (PySem.W.fnOf x qual params body scope .none (.ref D) doc pm an cdv ct) ⟨us, ks.zip ws⟩) (ps.zip (j7 is us ws mv)))
  (hlen : ∀ xs zs : List D, xs.length = n → zs.length = ks.length → (j7 is xs zs mds).length = ps.length) : bO K fd ps n ks fun xs zs => j7 is xs zs mds := by
 obtain ⟨mv, kb⟩ := F.kbinds0 n ks ms (fun us mv ws => j7 is us ws mv) hk hms (fun h1 h2 h3 => TZ is h1 h3 h2) h
 exact ⟨⟨_, _, kb, fun I F' xs vs zs us h1 h2 => aAb is h1 h2 (hmd I F')⟩, hlen⟩
def kwAt (f : Str × Option Str) (x : Str) (K : PySem.W.Frag) : Addr := match K.lookup (He.fAd K f) with
 | some ⟨_, _, .func fd, _⟩ => (match fd.kwdefaults with
  | .ref d => (match PySem.W.nsIn K d x with
   | some (some (.ref a)) => a
   | _ => 0)
  | _ => 0)
 | _ => 0
section
variable {S : aP} {k n j : Nat} {f C : Addr} {fd : FuncData} {ps ks : List Str} {m : MF} {gd : List D → List D → List D} {x : Str} {p pos kpos : Pos} {e : Expr} {es : List Expr} {kws : List Keyword} {ma mk : MA}
theorem jmk (hk : k + 1 ≤ S.k) (M : Mk S.K C f) (Gf : eW S.P S.w S.K S.mg S.base k f fd ps m) (B : bO S.K fd ps (n + 1) ks gd) (hg : S.sc.names.lookup x = some .globalImplicit) (hm : S.mg x = some (.ref C)) (ha : JA S (e :: es) ma) (hkw : JK S kws mk) (hj : ks.length = j := by rfl)
  (hall : ∀ env : Env, (backToKw pos (keywordEach kws env)).all (·.1.isSome) = true := by intro _; rfl) (hks : ∀ env : Env, (backToKw pos (keywordEach kws env)).filterMap (·.1) = ks := by intro _; rfl)
  (hdb : (x == ("__debug__" : Str)) = false := by decide) (he : ∀ env : Env, starEach (e :: es) env = (false, eval e env) :: starEach es env := by intro _; rfl)
  (hpl : ∀ env : Env, ((backTo pos (starEach (e :: es) env)).any (·.1) || (backToKw pos (keywordEach kws env)).any (·.1.isNone)) = false := by intro _; rfl) :
  JE S (.Call (.Name x p) (e :: es) kws pos) (r4 C m n j gd ma mk) := by subst hj; exact aCs hk M Gf B hg hm ha hkw hall hks hdb he hpl
end
theorem E6 {S : aP} {pos : Pos} {a b c : Expr} {ma mb mc : ME} {f g : D → D → W → Res D} {op op' : CmpOp} (ho : O2 S (compareOp op) f) (ho' : O2 S (compareOp op') g) (ha : JE S a ma) (hb : JE S b mb) (hc : JE S c mc) (hm : lastMarks [op, op'] [b, c] = false := by with_unfolding_all rfl) :
  JT S (.Compare a [op, op'] [b, c] pos) (bC (TF f g ma mb mc)) := fun X E cx xo => EW (pt_chain (ho X E cx xo) (ho' X E cx xo) (ha X E cx xo) (hb X E cx xo) (hc X E cx xo) hm) fun σ H Q ⟨I, F, G, ds, w, rel, rs, p⟩ => by
  show tChain _ _ _ _ _ σ H fun x H' => ∃ k, x = .bl k ∧ Q k H'
  refine aCC ⟨I, F, G, ds, w, rel, rs, (aY.bind p).mono fun I1 F1 H1 x w1 _ e1 rel1 p1 v rv => ?_⟩
  cases x <;> first | exact p1.elim | skip
  simp only [aI] at rv
  exact ⟨_, rv, p1 I1 F1 H1 .refl rel1⟩
theorem aGR {x y : Str} {a b : Expr} {px py pt pt2 : Pos} {kt k2 : Nat} {env : Env} (hk : env.scope.kind = .function) (hx : env.scope.names.lookup x = some .local) (hy : env.scope.names.lookup y = some .local) (hl : (py.line == px.line) = true) (hxy : x ≠ y)
  (h1 : ∀ v p, a ≠ .Starred v p) (h2 : ∀ v p, b ≠ .Starred v p) (hf : ([a, b].all (foldedForSure 8)) = false) (hc : ([a, b].all (constantsAlone 8)) = false) : swappedStores [.Tuple [.Name x px, .Name y py] kt pt] (.Tuple [a, b] k2 pt2) env = pure (some [x, y]) := by
 have kx : env.kindOf x = some .local := hx
 have ky : env.kindOf y = some .local := hy
 have hb : env.blockKind = .function := by unfold Env.blockKind; rw [hk]; rfl
 have st : ∀ f : Expr → Bool, (∀ e, f e = true → ∃ v p, e = .Starred v p) → ([a, b].any f) = false := fun f h => by
  rw [List.any_eq_false]
  intro e he z
  obtain ⟨v, p, rfl⟩ := h e z
  simp only [bu, cj, cz] at he
  rcases he with rfl | rfl
  ·exact h1 _ _ rfl
  ·exact h2 _ _ rfl
 unfold swappedStores
 have lx : (px.line == px.line) = true := beq_self_eq_true _
 have nxy : (y == x) = false := beq_eq_false_iff_ne.mpr (Ne.symm hxy)
 have dup : ([x, y].eraseDups).length = 2 := by
  rw [List.eraseDups_cons, List.filter_cons, nxy]
  rfl
 simp only [hb, ck, dc, Nat.zero_add, Nat.reduceAdd, beq_self_eq_true, Bool.true_or, bf, bne_self_eq_false, Bool.false_or, ax, ab, List.filterMap_cons, kx, ky, List.head?_cons, Option.map_some, Option.getD_some, Expr.pos, lx, hl, Bool.and_self, ae, List.filterMap_nil, hf, hc, dup]
 split
 ·rename_i z
  rw [st] at z
  ·cases z
  ·intro e he
   split at he
   ·exact ⟨_, _, rfl⟩
   ·cases he
 ·rfl
def MC (i j : Nat) (ma : MA) : MS := fun σ w => (ma σ w).bind fun xs w1 => match xs with
 | [u, v] => .ok (.nx ((σ.set i (some u)).set j (some v))) w1
 | _ => .bad
theorem aB3 {S : aP} (i j : Nat) {x y : Str} {a b : Expr} {ma : MA} {px py pt pt2 pos : Pos} {kt k2 : Nat} (ha : JA S [a, b] ma) (hi : S.N[i]? = some x := by rfl) (hj : S.N[j]? = some y := by rfl) (hij : i ≠ j := by decide) (hx : S.sc.names.lookup x = some .local := by rfl) (hy : S.sc.names.lookup y = some .local := by rfl)
  (hk : S.sc.kind = .function := by rfl) (hl : (py.line == px.line) = true := by rfl) (hxy : x ≠ y := by decide) (h1 : ∀ v p, a ≠ .Starred v p := by intro _ _ h; cases h) (h2 : ∀ v p, b ≠ .Starred v p := by intro _ _ h; cases h) (hf : ([a, b].all (foldedForSure 8)) = false := by rfl) (hc : ([a, b].all (constantsAlone 8)) = false := by rfl)
  (hs : ∀ env : Env, swapsWithSole [.Tuple [.Name x px, .Name y py] kt pt] (.Tuple [a, b] k2 pt2) pos.line env = pure false := by intro _; rfl) : JS S (.Assign [.Tuple [.Name x px, .Name y py] kt pt] (.Tuple [a, b] k2 pt2) pos) (MC i j ma) := fun X E cx xo =>
 kQ (ps_par (i := i) (j := j) cx.calm cx.nd (by rw [cx.N]; exact hi) (by rw [cx.N]; exact hj) hij (by rw [cx.sc]; exact hx) (by rw [cx.sc]; exact hy) (ha X E cx xo) (aGR (by rw [cx.sc]; exact hk) (by rw [cx.sc]; exact hx) (by rw [cx.sc]; exact hy) hl hxy h1 h2 hf hc) (hs X.env)) fun Z σ H ⟨I, F, G, ds, w, rel, rs, p⟩ =>
  fB (f := fun ds xs w1 => match xs with
   | [u, v] => Res.ok (Fl.nx ((ds.set i (some u)).set j (some v))) w1
   | _ => .bad) rel rs p fun I1 F1 H1 xs w1 vs e1 rel1 rs1 rv p1 => by
   split at p1
   ·obtain ⟨v, u, rfl, r1, r2⟩ := rv.two
    exact ⟨v, u, rfl, p1 I1 F1 H1 .refl rel1 _ ((rs1.set i r1).set j r2)⟩
   ·exact p1.elim
section
variable {S : aP} {elt tg iter : Expr} {ifs : List Expr} {scope : Scope} {pos py spos : Pos} {y : Str} {mi : MI} {g : MG} {t : MT} {me : ME} {own : List (Str × Nat)}
theorem jsc (i : Nat) (hi : JI S tg iter mi) (hb : blkC S.N S.sc scope own = true) (hg : JC (S.blk scope) (own.map (·.2)) tg g) (ht : JTs (S.blk scope) ifs t) (he : JE (S.blk scope) elt me)
  (hy : S.N[i]? = some y := by rfl) (hyl : S.sc.names.lookup y = some .local := by rfl) (hl : (py.line == pos.line) = true := by rfl) (ha : (scope.names.any fun (n, k) => n == y && (k == .local || k == .cell)) = false := by rfl)
  (hk : S.sc.kind = .function := by rfl) (hs : ∀ (env : Env) x, foldedSetIterable iter env x = pure x := by intro _ _; rfl) : JS S (.Assign [.Name y py] (.ListComp elt [⟨tg, iter, ifs, 0⟩] scope pos) spos) (aT (cG mi (own.map (·.2)) g t me) (aU i)) :=
 WA hy hyl (fun env e k => sw_true k (by rw [e]; exact hyl) hl ha) hi hb hg ht he hk hs
end
def uC (C : Addr) (m : MF) : MF := fun ds w => match ds with
 | [.ref i] => (match w[i]? with
  | some (.ins C' _) => if C' = C then (m [.ref i] w).bind fun d w1 => (match d with
    | .int n => if 0 ≤ n ∧ n < 2 ^ 62 then .ok (.int n) w1 else .bad
    | _ => .bad) else .bad
  | _ => cX [.ref i] w)
 | _ => cX ds w
section
variable {S : aP} {k n : Nat} {f C : Addr} {fd : FuncData} {ps ks : List Str} {m : MF} {gd : List D → List D → List D}
theorem aDh (hk : k + 1 ≤ S.k) (cl : Cls S.K C) (hs : Meth S.K C "__len__" f) (Gf : eW S.P S.w S.K S.mg S.base k f fd ps m) (B : bO S.K fd ps 1 [] aM) : CB S (.builtin "len") (uC C m) :=
 fun X E cx xo pins s σ H vs us Q J r ⟨I, F, G, ds, w, rel, rl, p⟩ => by
  have old : ∀ {ds : List D}, RepL X.K I F ds vs → aY X.K I F G E (RV X.K Q) (cX ds w) → wpAny (model X.prog X.w) X.A (call (.builtin "len") us) (EP X pins σ Q) X.xe s := fun rl p => (fR (S := S)) X E cx xo pins s σ H vs us Q J r ⟨I, F, G, _, w, rel, rl, p⟩
  unfold uC at p
  split at p
  ·rename_i i
   split at p
   ·rename_i C' fs hw
    split at p
    ·rename_i hC
     subst hC
     obtain ⟨v, rfl, rv⟩ := rl.one
     obtain ⟨u, rfl, ru⟩ := vals1 r
     have rv0 := rv
     simp only [aI] at rv
     obtain ⟨a, rfl, hi⟩ := rv
     obtain rfl : u = Value.ref a := ru
     obtain ⟨ob, hu, dx, rr, rfl, hr⟩ := rel.ob i a _ hi hw
     obtain ⟨mA, O, _, _, _, _⟩ := ins_get J.hok hu
     obtain ⟨od, IA, _⟩ := O.look
     have Gf' : eW X.prog X.w X.K X.mg X.base k f fd ps m := by rw [cx.P, cx.w, cx.K, cx.mg, cx.base]; exact Gf
     have hs' : Meth X.K C' "__len__" f := by rw [cx.K]; exact hs
     obtain ⟨⟨g, gV, kb, rep⟩, _⟩ : bO X.K fd ps 1 [] aM := by rw [cx.K]; exact B
     have r1 : Vals [V.ref a] [Value.ref a] := .cons rfl .nil
     have r2 := kb.rel r1 (.nil : Vals [] [])
     have r3 := rep I F [.ref i] [.ref a] [] [] rl (by simp [RepL])
     have hl : (gV [V.ref a] []).length = ps.length := by
      rw [← r3.length]
      exact B.len [.ref i] [] rfl rfl
     have room : Room k X.A.in1 := (cx.room.mono hk).in1
     have pp : aY X.K I F G E (RV X.K fun v H2 => ∃ n : Int, v = .int n ∧ 0 ≤ n ∧ n < 2 ^ 62 ∧ Q (.int n) H2) (m (aM [.ref i] []) w) := by
      refine (aY.bind p).mono fun I1 F1 H1 d w1 _ e1 rel1 p1 v rv => ?_
      cases d <;> first | exact p1.elim | skip
      rename_i n hh
      simp only [aI] at rv
      subst rv
      simp only [] at p1
      split at p1
      ·rename_i hb
       exact ⟨n, rfl, hb.1, hb.2, p1.n5 rel1 (by simp [aI])⟩
      ·exact p1.elim
     have run : wpAny (model X.prog X.w) X.A.in1 (call (.ref f) [.ref a]) (EP X pins σ fun v H2 => ∃ n : Int, v = .int n ∧ 0 ≤ n ∧ n < 2 ^ 62 ∧ Q (.int n) H2) X.xe s := by
      refine wpAny_call (codeAny_mono (Gf'.run X.A.in1 X.stack s H ⟨[.ref a], []⟩ (g [.ref a] []) (gV [.ref a] []) _ E room cx.OQ J.env0.in1 (kb.to s [.ref a] [] J.kIn rfl rfl) r2 hl ⟨I, F, G, _, w, rel, r3, pp⟩) fun fl s' hq => ?_)
      cases fl with
      | error e => exact passes_call xo.tk (fun _ _ _ _ h => h) pins σ H s e s' J hq
      | ok fl =>
       cases fl with
       | ret u => exact J.after hq
       | next => exact hq.elim
       | brk => exact hq.elim
       | cont => exact hq.elim
     refine Calls.call_function_entry PySem.kind_len PySem.plain_len PySem.entry_len (PySem.args_len1 _) ?_
     unfold Builtin.«len»
     refine wpAny_bind (m := oneArg "len" _) (wpAny_pure ?_)
     refine wpAny_bind (m := callSpecial? (.ref a) (PySem.Str.ofString "__len__")) (PySem.W.special_fn J.kIn IA hs'.at_ (beq_iff_eq.mp hs'.fn) (wpAny_mono run (fun u s1 hq => ?_) fun _ _ y => y))
     obtain ⟨v, H2, J2, rv2, n, rfl, n0, n1, q⟩ := hq
     obtain ⟨t, rfl⟩ : ∃ t, u = Value.int n t := rv2
     refine wpAny_bind (wpAny_holding (wpAny_pure ?_))
     refine wpAny_bind (wpAny_letGo ?_)
     show wpAny _ _ (if n < 0 then _ else _) _ _ _
     rw [if_neg (by omega)]
     show wpAny _ _ (if n ≥ 2 ^ 63 then _ else _) _ _ _
     rw [if_neg (by omega)]
     exact wpAny_bind (wpAny_mkInt (wpAny_pure ⟨_, rfl, .int n, H2, J2.tok _, ⟨_, rfl⟩, q⟩))
    ·exact p.elim
   ·exact old rl p
  ·exact old rl p
end
open AutoSeq1 (wpAny_loadPart')
open RZ (nextOf_tuple_item nextOf_tuple_end)
def FN (ds : List D) (w : W) : Res lB := match ds with
 | [x] => (match zI x with
  | some xs => .ok ⟨(List.range xs.length).zipWith (fun i x => D.tup [.int (i : Nat), x]) xs, always⟩ w
  | none => .bad)
 | _ => .bad
def EE (d : D) (w : W) : Option (List D) := match d with
 | .lst xs => some xs
 | .ref i => (match w[i]? with
  | some (.lst xs) => some xs
  | _ => none)
 | _ => none
theorem BA {K : PySem.W.Frag} {I : List Addr} {F G H : Hp} {w : W} (rel : Rel K I F G w H) {d : D} {v : V} {xs : List D} (h : aI K I F d v) (e : EE d w = some xs) : ∃ a vs, v = .ref a ∧ H a = some (.lst vs) ∧ RepL K I F xs vs := by
 cases d <;> simp only [EE, ah, reduceCtorEq] at e <;> simp only [aI] at h
 case lst =>
  subst e
  obtain ⟨a, vs, h0, h1, h2⟩ := h
  exact ⟨a, vs, h0, rel.fz _ _ h1, h2⟩
 case ref i =>
  obtain ⟨a, h0, h1⟩ := h
  split at e
  ·rename_i ys hw
   cases e
   obtain ⟨u, h2, vs, rfl, h3⟩ := rel.ob i a _ h1 hw
   exact ⟨a, vs, h0, h2, h3⟩
  ·cases e
def T7 (x y : D) (w : W) : Res D := match EE x w, EE y w with
 | some a, some b => if a.length + b.length ≤ sizeLine then .ok (.lst (a ++ b)) w else .bad
 | _, _ => .bad
theorem aDD {S : aP} : O2 S (binaryOp .Add) T7 := jE fun X E c xo I F G d e w H x y Q rel rd re p => by
 unfold T7 at p
 split at p
 ·rename_i a b ha hb
  obtain ⟨q, vs, rfl, h1, h2⟩ := BA rel rd ha
  obtain ⟨q', vs', rfl, h1', h2'⟩ := BA rel re hb
  split at p
  ·rename_i hl
   exact ⟨_, op_cat, q, q', vs, vs', rfl, rfl, h1, h1', by rw [← h2.length, ← h2'.length]; exact hl, oI rel (h2.append h2') p⟩
  ·exact p.elim
 ·exact p.elim
theorem Rel.less {K : PySem.W.Frag} {I : List Addr} {F G H : Hp} {w : W} {q : Addr} {u : HO} (rel : Rel K I F (L2.upd G q u) w H) (hG : G q = none) : Rel K I F G w H :=
 ⟨rel.len, rel.nd, rel.ob, rel.fz, rel.ap, fun a v h => rel.gz a v (by rw [upd_ne (ne_of_none h hG)]; exact h), fun a v h => rel.gf a v (by rw [upd_ne (ne_of_none h hG)]; exact h), fun a xs h => rel.gt a xs (by rw [upd_ne (ne_of_none h hG)]; exact h)⟩
theorem aG3 {f : Expr → Option Str} {t1 t2 : Expr} (h : f t1 = none ∨ f t2 = none) : (([t1, t2].filterMap f).length != 2) = true := by
 have : ([t1, t2].filterMap f).length ≤ 1 := by
  rcases h with h | h <;> rw [List.filterMap_cons, List.filterMap_cons, h]
  ·exact di (List.length_filterMap_le f []|> fun _ => by cases f t2 <;> simp) (bq 1)
  ·cases f t1 <;> simp
 simp; omega
theorem aDO {x y : Str} {a b : Expr} {px py pt pt2 : Pos} {kt k2 : Nat} {env : Env} (h : env.scope.names.lookup x ≠ some .local ∨ env.scope.names.lookup y ≠ some .local) :
  swappedStores [.Tuple [.Name x px, .Name y py] kt pt] (.Tuple [a, b] k2 pt2) env = pure none := by
 unfold swappedStores
 simp only [ck, dc, Nat.zero_add, Nat.reduceAdd, beq_self_eq_true, Bool.true_or, bf, bne_self_eq_false, Bool.false_or]
 cases hb : (env.blockKind != .function) with
 | true => rfl
 | false =>
  simp only [ax, ab]
  split
  ·rfl
  ·split
   ·rfl
   ·rename_i h2
    exfalso
    apply h2
    rw [Bool.or_eq_true]
    refine .inl (aG3 ?_)
    rcases h with h | h
    ·refine .inl ?_
     have : (env.kindOf x == some .local) = false := beq_eq_false_iff_ne.mpr h
     simp [this]
    ·refine .inr ?_
     have : (env.kindOf y == some .local) = false := beq_eq_false_iff_ne.mpr h
     simp [this]
theorem aDV {S : aP} {x y : Str} {a b : Expr} {px py pt pt2 pos : Pos} {kt k2 : Nat} {m : ME} {g : MG} (he : JE S (.Tuple [a, b] k2 pt2) m) (hg : JG S (.Tuple [.Name x px, .Name y py] kt pt) g)
  (h : S.sc.names.lookup x ≠ some .local ∨ S.sc.names.lookup y ≠ some .local) (hs : ∀ env : Env, swapsWithSole [.Tuple [.Name x px, .Name y py] kt pt] (.Tuple [a, b] k2 pt2) pos.line env = pure false := by intro _; rfl)
  (h1 : ∀ env : Env, (assignEach [.Tuple [.Name x px, .Name y py] kt pt] env).map (·.2) = [assign (.Tuple [.Name x px, .Name y py] kt pt) env] := by intro _; rfl) : JS S (.Assign [.Tuple [.Name x px, .Name y py] kt pt] (.Tuple [a, b] k2 pt2) pos) (aT m g) := fun X E cx xo =>
 kQ (ps_asg (he X E cx xo) (hg X E cx xo) (hs X.env) (aDO (by rw [cx.sc]; exact h)) (h1 X.env)) fun Z σ H h => XY h
theorem aCd {S : aP} {x y : Str} {a b : Expr} {px py pt pt2 pos : Pos} {kt k2 : Nat} {m : ME} {g : MG} (he : JE S (.Tuple [a, b] k2 pt2) m) (hg : JG S (.Tuple [.Name x px, .Name y py] kt pt) g)
  (h : S.sc.names.lookup x = some .cell := by rfl) (hs : ∀ env : Env, swapsWithSole [.Tuple [.Name x px, .Name y py] kt pt] (.Tuple [a, b] k2 pt2) pos.line env = pure false := by intro _; rfl)
  (h1 : ∀ env : Env, (assignEach [.Tuple [.Name x px, .Name y py] kt pt] env).map (·.2) = [assign (.Tuple [.Name x px, .Name y py] kt pt) env] := by intro _; rfl) : JS S (.Assign [.Tuple [.Name x px, .Name y py] kt pt] (.Tuple [a, b] k2 pt2) pos) (aT m g) :=
 aDV he hg (.inl (by rw [h]; decide)) hs h1
def noM : MF := fun _ _ => .bad
theorem eW.bad {P : Program} {w : World} {K : PySem.W.Frag} {mg : Str → Option Value} {base : Heap} {k : Nat} {f : Addr} {fd : FuncData} {ps : List Str} : eW P w K mg base k f fd ps noM :=
 ⟨fun A outer s H args us vs Q E hr hg e0 hb r hl ⟨_, _, _, _, _, _, _, p⟩ => p.elim⟩
def XM (n : Nat) (r : Y8) : MG := fun d σ w => match zI d with
 | some xs => if n ≤ xs.length ∧ xs.length ≤ sizeLine then r (xs.take n ++ [.lst (xs.drop n)]) σ w else .bad
 | none => .bad
def anyM : MF := fun ds w => match ds with
 | [d] => (match (zI d).bind nB with
  | some ns => .ok (.bl (ns.any fun n => n != 0)) w
  | none => match (xG d w).bind u3 with
   | some bs => .ok (.bl (bs.any id)) w
   | none => .bad)
 | _ => .bad
def T4 (xs : List D) : List D := (List.range xs.length).zipWith (fun i x => D.tup [.int (i : Nat), x]) xs
def DR (ds : List D) (w : W) : Res lB := match ds with
 | [.lst xs] => .ok ⟨T4 xs, always⟩ w
 | [.ref i] => (match w[i]? with
  | some (.lst xs) => .ok ⟨T4 xs, holds i (.lst xs)⟩ w
  | _ => .bad)
 | _ => .bad
end Pc
namespace L2
open PySem PySem.Spec PyProof.Rows
def smallKey : List Key → Bool
 | [.inl a, .inl s, .inl r] => (decide (0 ≤ a) && decide (a < 4)) && ((decide (0 ≤ s) && decide (s < 6)) && (decide (0 ≤ r) && decide (r < 10)))
 | _ => false
end L2
namespace Pc
open PySem PySem.Spec PyProof.Rows L2
open Classical in
def dcL (it : lB) (vs : List Nat) (g : MG) (t : MT) (ek ev : ME) : List D → List (List Key × D) → Sg → W → Res (List (List Key × D))
 | [], acc, σ, w => if it.ok w then .ok acc w else .bad
 | x :: xs, acc, σ, w => if it.ok w then (g x (eA σ vs) w).OP.bind fun σ1 w1 => (t σ1 w1).OP.bind fun b w2 =>
   if b = true then (ek σ1 w2).OP.bind fun k w3 => (ev σ1 w3).OP.bind fun v w4 => match k with
    | .tup ks => (match xK ks with
     | some kk => if acc.length < sizeLine then dcL it vs g t ek ev xs (putD acc kk v) σ w4 else .bad
     | none => .bad)
    | _ => .bad
   else dcL it vs g t ek ev xs acc σ w2
  else .bad
def aIT (m : MI) (vs : List Nat) (g : MG) (t : MT) (ek ev : ME) : ME := fun σ w => (m σ w).bind fun it w1 => (dcL it vs g t ek ev it.xs [] σ w1).bind fun kvs w2 => .ok (.ref w2.length) (w2 ++ [.dT kvs])
theorem aR.len {κ : Type} {K : PySem.W.Frag} {I : List Addr} {F : Hp} : ∀ {ds : List (κ × D)} {vs : List (κ × V)}, aR K I F ds vs → ds.length = vs.length
 | [], vs, h => by simp only [aR] at h; subst h; rfl
 | (k, d) :: ds, vs, h => by
  simp only [aR] at h
  obtain ⟨v, r, rfl, _, h3⟩ := h
  simp [aR.len h3]
def pairOf : D → Option (List Key × D)
 | .tup [.tup ks, v] => (xK ks).map fun k => (k, v)
 | _ => none
def pairsOf : List D → Option (List (List Key × D))
 | [] => some []
 | d :: ds => match pairOf d, pairsOf ds with
  | some p, some ps => some (p :: ps)
  | _, _ => none
def aHI : MF := fun ds w => match ds with
 | [.ref i] => (match w[i]? with
  | some (.dK kvs) => .ok (.ref w.length) (w ++ [.dK kvs])
  | some (.dT kvs) => if (kvs.all fun p => smallKey p.1) = true then .ok (.ref w.length) (w ++ [.dT kvs]) else .bad
  | _ => .bad)
 | [.lst ps] => (match pairsOf ps with
  | some kvs => .ok (.ref w.length) (w ++ [.dT (uK [] kvs)])
  | none => .bad)
 | _ => .bad
def aHB (tab : List (Str × Option D)) (ys : List D) (w : W) : Res D := match ys with
 | [.str z, y] => (match tab.lookup z with
  | some o => .ok (o.getD y) w
  | none => .ok y w)
 | _ => .bad
def aHT (d : Addr) (tab : List (Str × Option D)) (mo : ME) (ma : MA) : ME := fun σ w => (mo σ w).bind fun x w1 => match x with
 | .con a => if a = d then (ma σ w1).bind fun ys w2 => aHB tab ys w2 else .bad
 | _ => .bad
end Pc
namespace L2
open PySem PySem.Spec PyProof.Rows
open PySem.W (EachIs AllAlike Sortable dataLe)
def leI (a b : Int) : Bool := decide (a ≤ b)
end L2
namespace Pc
open PySem PySem.Spec PyProof.Rows L2
def aC5 : MF := fun ds w => match ds with
 | [.tup xs] => (match nB xs with
  | some ns => .ok (.lst ((ns.mergeSort leI).map D.int)) w
  | none => .bad)
 | ds => oF ds w
def aEA (n : Nat) (r : Y8) : MG := fun d σ w => match EE d w with
 | some xs => if xs.length = n then r xs σ w else .bad
 | none => .bad
def aG2 (K : PySem.W.Frag) (f : Str × Option Str) (x : Str) (d : D) : Bool := GQ K d (.ref (kwAt f x K))
theorem aCP {K : PySem.W.Frag} {f : Str × Option Str} {x : Str} {d : D} (h : aG2 K f x d = true) : ∀ I F, aI K I F d (.ref (kwAt f x K)) := fun I F => by
 obtain ⟨v, r, hv⟩ := BY h
 have e : v = .ref (kwAt f x K) := by
  cases v with
  | ref a =>
   have e : Value.ref (kwAt f x K) = .ref a := r
   injection e with e
   rw [e]
  | int i => obtain ⟨_, r⟩ := r; exact nomatch r
  | str z => obtain ⟨_, r⟩ := r; exact nomatch r
  | _ => first | exact nomatch r | (obtain ⟨_, r⟩ := r; exact nomatch r)
 rw [← e]
 exact hv I F
open RZ (nextOf_tuple_item nextOf_tuple_end)
def zmM (ds : List D) (w : W) : Res lB := match ds with
 | [.tup xs, .lst ys] => if xs.length = ys.length then .ok ⟨(xs.zip ys).map fun p => .tup [p.1, p.2], always⟩ w else .bad
 | _ => .bad
end Pc
namespace Pc
open PySem PySem.Spec PyProof.Rows L2 PySem.W
def eqE (x y : D) (w : W) : Res D := match x, y with
 | .ref i, .ref j => (match w[i]?, w[j]? with
  | some (.dT kvs), some (.dT []) => .ok (.bl kvs.isEmpty) w
  | _, _ => .bad)
 | _, _ => .bad
end Pc
namespace Pc
open PySem PySem.Spec PyProof.Rows L2
def BO (C : Addr) (nm : Str) (x : D) (w : W) : Option Nat := match x with
 | .ref i => (match w[i]? with
  | some (.ins C' fs) => if C' = C ∧ fs.lookup nm = none then some i else none
  | _ => none)
 | _ => none
def kP (C : Addr) (nm : Str) (m : MF) (n : Nat) (gd : List D → List D → List D) (mo : ME) (ma : MA) : ME := fun σ w => (mo σ w).bind fun x w1 => match BO C nm x w1 with
 | some i => (ma σ w1).bind fun xs w2 => if xs.length + 1 = n then m (gd (.ref i :: xs) []) w2 else .bad
 | none => .bad
section
variable {S : aP} {k n : Nat} {C f : Addr} {fd : FuncData} {ps ks : List Str} {m : MF} {gd : List D → List D → List D} {nm : Str} {o e : Expr} {es : List Expr} {mo : ME} {ma : MA} {apos pos : Pos}
theorem Y3 {x : D} {w : W} {i : Nat} (h : BO C nm x w = some i) : x = .ref i ∧ ∃ fs, w[i]? = some (.ins C fs) ∧ fs.lookup nm = none := by
 unfold BO at h
 split at h
 ·rename_i j
  split at h
  ·rename_i C' fs hw
   split at h
   ·rename_i hc
    cases h
    exact ⟨rfl, fs, by rw [hw, hc.1], hc.2⟩
   ·cases h
  ·cases h
 ·cases h
theorem KA {pl : Env → Sem Bool} (hk : k ≤ S.k) (cl : Cls S.K C) (hs : Meth S.K C nm f) (Gf : eW S.P S.w S.K S.mg S.base k f fd ps m) (B : bO S.K fd ps 1 [] gd) (ho : JE S o mo)
  (ht : ∀ env : Env, eval (.Call (.Attribute o nm apos) [] [] pos) env = (do
   let ov ← eval o env
   standAt apos.atName
   let (f, first) ← holding [ov] (getMethod ov nm (pl env))
   callWith pos f first (backTo pos (starEach [] env)) (backToKw pos (keywordEach [] env))) := by intro _; rfl) :
  JE S (.Call (.Attribute o nm apos) [] [] pos) (kP C nm m 1 gd mo aE) := fun X E cx xo => by
 refine ⟨fun pins s σ H Q J ⟨I, F, G, ds, w, rel, rs, p⟩ => ?_⟩
 refine PySem.W.methodCall_KW (pl := pl X.env) (thn ((ho X E cx xo).run pins s σ H _ J (bY (f := fun ds x w1 => match BO C nm x w1 with
  | some i => (aE ds w1).bind fun xs w2 => if xs.length + 1 = 1 then m (gd (.ref i :: xs) []) w2 else .bad
  | none => .bad) (Q := fun v H1 => ∃ I1 F1 x w1, Rel X.K I1 F1 G w1 H1 ∧ gF X.K I1 F1 ds σ ∧ aI X.K I1 F1 x v ∧ aY X.K I1 F1 G E (RV X.K Q) (match BO C nm x w1 with
  | some i => (aE ds w1).bind fun xs w2 => if xs.length + 1 = 1 then m (gd (.ref i :: xs) []) w2 else .bad
  | none => .bad)) rel rs p fun I1 F1 H1 x w1 v e1 rel1 rs1 rv p1 => ⟨I1, F1, x, w1, rel1, rs1, rv, p1⟩)) fun u s1 ⟨v, H1, J1, rx, I1, F1, x, w1, rel1, rs1, rv, p1⟩ => ?_) (ht X.env)
 cases hi : BO C nm x w1 with
 | none => rw [hi] at p1; exact p1.elim
 | some i =>
  rw [hi] at p1
  obtain ⟨rfl, fs, hw, hl⟩ := Y3 hi
  have rv0 := rv
  simp only [aI] at rv
  obtain ⟨a, rfl, ha1⟩ := rv
  obtain rfl : u = Value.ref a := rx
  obtain ⟨u1, hu, dx, r, rfl, hr⟩ := rel1.ob i a _ ha1 hw
  have l2 : r.lookup nm = none := by
   have := hr.lookup nm
   rw [hl] at this
   exact this
  refine getmeth_ok J1 hu (by rw [cx.K]; exact cl) (by rw [cx.K]; exact hs) l2 ?_
  have Gf' : eW X.prog X.w X.K X.mg X.base k f fd ps m := by rw [cx.P, cx.w, cx.K, cx.mg, cx.base]; exact Gf
  have B' : bO X.K fd ps 1 [] gd := by rw [cx.K]; exact B
  exact PySem.W.callWith_K0 (first := [.ref a]) J1.kIn (by rw [cx.K]; exact hs.kp) (QX (ks := []) (ws := []) (zs := []) (ys := []) (us := [.ref a]) (vs := [.ref a]) (xs := [.ref i]) xo Gf' B' (cx.room.mono hk) cx.OQ J1 rel1 (RepL.cons rv0 (by simp [RepL])) (by simp [RepL]) (.cons rfl .nil) .nil rfl rfl p1)
end
def aEt : ZO := fun d ds w => match d, ds with
 | .ref i, [.tup zs] => (match w[i]? with
  | some (.lst xs) => if xs.length + zs.length ≤ sizeLine then .ok .non (w.set i (.lst (xs ++ zs))) else .bad
  | _ => .bad)
 | _, _ => .bad
def lexLeI (ns ms : List Int) : Bool := Ob.lexAt (fun j => decide (ns.getD j 0 = ms.getD j 0)) (fun j => decide (ns.getD j 0 ≤ ms.getD j 0)) (decide (ns.length ≤ ms.length)) 0 (min ns.length ms.length)
def leA (x y : D) (w : W) : Res D := match x, y with
 | .int a, .int b => .ok (.bl (decide (a ≤ b))) w
 | .tup a, .tup b => (match nB a, nB b with
  | some ns, some ms => .ok (.bl (lexLeI ns ms)) w
  | _, _ => .bad)
 | _, _ => .bad
theorem aFf {S : aP} : O2 S (compareOp .LtE) leA := jE fun X E c xo I F G d e w H x y Q rel rd re p => by
 cases d <;> cases e <;> first | exact p.elim | skip
 ·simp only [aI] at rd re
  exact ⟨_, RW op_le, _, _, rd, re, trivial, p I F H .refl rel _ (by simp [aI])⟩
 ·rename_i as bs
  simp only [leA] at p
  split at p
  ·rename_i ns ms h1 h2
   obtain ⟨a, us, rfl, g1, g2⟩ := LN rel rd (show zI (.tup as) = some as from rfl)
   obtain ⟨b, ts, rfl, g3, g4⟩ := LN rel re (show zI (.tup bs) = some bs from rfl)
   obtain rfl := oP g2 h1
   obtain rfl := oP g4 h2
   exact ⟨_, op_leT (by have := c.room.un; omega), a, b, ns, ms, rfl, rfl, g1, g3, p.n5 rel (by simp [aI, lexLeI])⟩
  ·exact p.elim
def AA (x y : D) (w : W) : Res D := match EE x w, EE y w with
 | some a, some b => if a.length + b.length ≤ sizeLine then .ok (.ref w.length) (w ++ [.lst (a ++ b)]) else .bad
 | _, _ => .bad
theorem Q7 {S : aP} : O2 S (binaryOp .Add) AA := jE fun X E c xo I F G d e w H x y Q rel rd re p => by
 unfold AA at p
 split at p
 ·rename_i a b ha hb
  obtain ⟨q, vs, rfl, h1, h2⟩ := BA rel rd ha
  obtain ⟨q', vs', rfl, h1', h2'⟩ := BA rel re hb
  split at p
  ·rename_i hl
   exact ⟨_, op_cat, q, q', vs, vs', rfl, rfl, h1, h1', by rw [← h2.length, ← h2'.length]; exact hl, z9 (o := .lst (a ++ b)) rel ⟨_, rfl, h2.append h2'⟩ p⟩
  ·exact p.elim
 ·exact p.elim
end Pc
namespace He
open PySem PySem.Spec PyProof.Rows L2
abbrev AlY : Type := AlT × Bool
def aDy (as : List Addr) (fa : List Fa) (fn : List DefD) (ts : List Tab) (ex : PySem.W.Frag → Bool) (g : Addr → Option Obj) : AlY := (obsT fa fn ts (frT g as), ex (frT g as))
def aHo (fn : List DefD) (ts : List Tab) (w : World) : AlY := (valT fn ts w, true)
theorem aBM {as : List Addr} {fa : List Fa} {fn : List DefD} {ts : List Tab} {ex : PySem.W.Frag → Bool} {w : World} {h : Heap} (e : aDy as fa fn ts ex h.get? = aHo fn ts w) : SaysX fa fn ts [] ex w h (frT h.get? as) :=
 ⟨congrArg (fun z : AlY => z.1) e, congrArg (fun z : AlY => z.2) e, (fun _ hp => nomatch hp), (fun _ hp => nomatch hp), (fun _ hp => nomatch hp)⟩
def aEU (as : List Addr) (fa : List Fa) (fn : List DefD) (ts : List Tab) (ex : PySem.W.Frag → Bool) : PySem.W.Hook where
 α := AlY
 obs := fun s => aDy as fa fn ts ex s.heap.get?
 val := fun w => aHo fn ts w
 says := fun w h => ∃ K : PySem.W.Frag, K.In h ∧ SaysX fa fn ts [] ex w h K
 of := fun _ _ e => ⟨_, frT_in, aBM e⟩
 keeps := fun _ _ _ ⟨K, hK, c⟩ k => ⟨K, PySem.W.Frag.In.keeps hK k, ⟨c.t, c.more, c.hd, c.out, (fun _ hp => nomatch hp)⟩⟩
theorem aDS {as : List Addr} {fa : List Fa} {fn : List DefD} {ts : List Tab} {ex : PySem.W.Frag → Bool} {g : Addr → Option Obj} {s : Shared} (h : ∀ a, g a = s.heap.get? a) : aDy as fa fn ts ex g = (aEU as fa fn ts ex).obs s := by
 have e : g = s.heap.get? := funext h
 rw [e]
 rfl
theorem aEW {α β γ δ : Type} {e : Option α} {f : α → β} {g : α → γ} {h : α → δ} {a : β} {b : γ} {c : δ} (h1 : e.map (fun s => (f s, g s)) = some (a, b)) (h2 : e.map h = some c) : e.map (fun s => (f s, g s, h s)) = some (a, b, c) := by
 cases e with
 | none => exact nomatch h1
 | some s => 
  have q : (f s, g s) = (a, b) := Option.some.inj h1
  have q2 : h s = c := Option.some.inj h2
  have q3 := congrArg Prod.fst q
  have q4 := congrArg Prod.snd q
  show some (f s, g s, h s) = some (a, b, c)
  rw [q2, show f s = a from q3, show g s = b from q4]
end He
namespace Pc
open PySem PySem.Spec PyProof.Rows L2
def wA : ZO := fun d ds w => match d, ds with
 | .ref i, [.int j, y] => (match w[i]? with
  | some (.lst xs) => if xs.length < sizeLine ∧ 0 ≤ j ∧ j < 2 ^ 63 then .ok .non (w.set i (.lst (xs.take j.toNat ++ [y] ++ xs.drop j.toNat))) else .bad
  | _ => .bad)
 | _, _ => .bad
theorem Z6 {S : aP} : MB S "list.insert" wA := KI fun X E c xo I F G d ds w H x vs Q rel rd rl p => by
 unfold wA at p
 split at p
 ·rename_i i j y
  simp only [aI] at rd
  obtain ⟨a, rfl, hi⟩ := rd
  obtain ⟨v, u0, rfl, rj, ry⟩ := rl.two
  simp only [aI] at rj
  subst rj
  split at p
  ·rename_i xs hw
   obtain ⟨u, hu, us, rfl, hr⟩ := rel.ob i a _ hi hw
   split at p
   ·rename_i hl
    exact ⟨_, mt_insert, a, us, j, u0, rfl, rfl, hu, by rw [← hr.length]; exact hl.1, hl.2.1, hl.2.2, p.n5 (rel.upd hi hw ⟨_, rfl, ((hr.take _).append (RepL.cons ry (by simp [RepL]))).append (hr.drop _)⟩) (by simp [aI])⟩
   ·exact p.elim
  ·exact p.elim
 ·exact p.elim
def aEw (C : Addr) (f : Str) (mo mv : ME) : MS := fun σ w => (mo σ w).bind fun x w1 => (tD C f x w1).bind fun u w2 => (mv σ w2).bind fun v w3 => match u, v with
 | .int i, .int j => (pM C f x (.int (i + j)) w3).bind fun _ w4 => .ok (.nx σ) w4
 | _, _ => .bad
def aIL (mb mf : MS) : MS := fun σ w => match mb σ w with
 | .ok (.nx σ1) w1 => (match mf σ1 w1 with
  | .ok (.nx σ2) w2 => .ok (.nx σ2) w2
  | _ => .bad)
 | _ => .bad
def aDP (C : Addr) (nm : Str) (m : MF) (n j : Nat) (gd : List D → List D → List D) (mo : ME) (ma mk : MA) : ME := fun σ w => (mo σ w).bind fun x w1 => match BO C nm x w1 with
 | some i => (ma σ w1).bind fun xs w2 => (mk σ w2).bind fun zs w3 => if xs.length + 1 = n ∧ zs.length = j then m (gd (.ref i :: xs) zs) w3 else .bad
 | none => .bad
def eqI (C : Addr) (m : MF) : D → D → W → Res D := fun x y w => match x, y with
 | .ref i, .ref j => (match w[i]?, w[j]? with
  | some (.ins C1 _), some (.ins C2 _) => if C1 = C ∧ C2 = C then m [.ref i, .ref j] w else .bad
  | _, _ => .bad)
 | _, _ => .bad
theorem aGt {S : aP} {k : Nat} {f C : Addr} {fd : FuncData} {ps : List Str} {m : MF} (hk : k ≤ S.k) (hs : Meth S.K C "__eq__" f) (Gf : eW S.P S.w S.K S.mg S.base k f fd ps m) (B : bO S.K fd ps 2 [] aM) : O2 S (compareOp .Eq) (eqI C m) :=
 fun X E c xo pins s σ H x y v u Q J rx ry ⟨I, F, G, d, e, w, rel, rd, re, p⟩ => by
  unfold eqI at p
  split at p
  ·rename_i i j
   split at p
   ·rename_i C1 fs C2 gs hw1 hw2
    split at p
    ·rename_i hC
     obtain ⟨h1, h2⟩ := hC
     subst h1
     subst h2
     have rd0 := rd
     have re0 := re
     simp only [aI] at rd re
     obtain ⟨a, rfl, hi⟩ := rd
     obtain ⟨b, rfl, hj⟩ := re
     obtain rfl : v = Value.ref a := rx
     obtain rfl : u = Value.ref b := ry
     obtain ⟨u1, hu1, dx, r1, rfl, hr1⟩ := rel.ob i a _ hi hw1
     obtain ⟨u2, hu2, dy, r2, rfl, hr2⟩ := rel.ob j b _ hj hw2
     obtain ⟨mA, O, _⟩ := ins_get J.hok hu1
     obtain ⟨mB, O', _⟩ := ins_get J.hok hu2
     obtain ⟨od, O, _⟩ := O.look
     obtain ⟨od', O', _⟩ := O'.look
     obtain ⟨mm, hF⟩ := J.fr
     have hs' : Meth X.K C2 "__eq__" f := by rw [c.K]; exact hs
     have Gf' : eW X.prog X.w X.K X.mg X.base k f fd ps m := by rw [c.P, c.w, c.K, c.mg, c.base]; exact Gf
     have B' : bO X.K fd ps 2 [] aM := by rw [c.K]; exact B
     refine PySem.W.cmp_K (op := .Eq) (tb := .ref C2) (c.room.mono hk).units0 hF J.ok.mod.kin O O'.type (by simp [PySem.W.notFirst]) hs'.at_ hs'.fn ?_
     refine PySem.wpAny_mono (QX (ks := []) (ws := []) (zs := []) (ys := []) (us := [.ref a, .ref b]) (vs := [.ref a, .ref b]) (xs := [.ref i, .ref j]) xo Gf' B' (c.room.mono hk) c.OQ J rel (RepL.cons rd0 (RepL.cons re0 (by simp [RepL]))) (by simp [RepL]) (.cons rfl (.cons rfl .nil)) .nil rfl rfl p) (fun z s2 hz => ?_) fun _ _ z => z
     obtain ⟨v0, H2, J2, r2, q2⟩ := hz
     exact SlX.cmpback r2 ⟨v0, H2, J2, r2, q2⟩
    ·exact p.elim
   ·exact p.elim
  ·exact p.elim
def aFV (K : PySem.W.Frag) (C : Addr) : Bool := He.eqO (PySem.W.findIn K (.ref C) "__class__") (some (some (.builtin "object.__class__"))) && He.eqO (PySem.W.specialIn K (.builtin "object.__class__") "__get__") (some (some (.builtin "getset_descriptor.__get__"))) &&
 decide (PySem.W.takesIn K (.builtin "object.__class__") = some true) && decide (PySem.W.mroIn K C (.type "object") = some true)
theorem aDu {K : PySem.W.Frag} {C : Addr} (cl : Cls K C) (h : aFV K C = true) : SS K C := by
 unfold aFV at h
 simp only [ak, aq] at h
 obtain ⟨⟨⟨h1, h2⟩, h3⟩, h4⟩ := h
 exact ⟨cl, He.eqO_ok h1, He.eqO_ok h2, h3, h4⟩
def kcI (C : Addr) : uJ → uJ → Option Bool := fun t c => if t = .o C ∧ c = .o C then some true else none
section
open PySem.W
section
variable {prog : Program} {w : World} {A : Around} {E : Value → Shared → Prop} {s : Shared} {K : PySem.W.Frag} {x y C L f : Addr} {h₀ : Heap} {m : Str → Option Value} {ox : Obj} {od : Option Obj} {tb : Value}
theorem rY {M : Model} {id owner n : String} {rest : List Value} {Q : Unit → Shared → Prop} (X : K.In s.heap) (I : InstAt s.heap x ox C od) (hm : mroIn K C (.type owner) = some true) (hk : builtinKind id = some .slot) (hs : splitId id = some (owner, n))
  (ha : argsOk id ⟨.ref x :: rest, []⟩) (hq : Q () s) : wpAny M A (checkBuiltinCall id ⟨.ref x :: rest, []⟩) Q E s := by
 simp only [checkBuiltinCall, hk, hs]
 refine wpAny_bind ?_
 unfold isInstance
 refine wpAny_bind (I.type.here ((looks_mroIn X hm).here ?_))
 cases hsig : Manifest.signature? id with
 | none => exact wpAny_pure hq
 | some sig =>
  simp only [argsOk, hsig] at ha
  have h2 : Bind.checkArgs id sig ⟨.ref x :: rest, []⟩ = pure () := ha
  show wpAny M A (Bind.checkArgs id sig ⟨.ref x :: rest, []⟩) Q E _
  rw [h2]; exact wpAny_pure hq
theorem aDg (X : K.In s.heap) (I : InstAt s.heap x ox C od) (hs : findIn K (.ref C) "__eq__" = some (some (.ref f))) (hf : isFn K (.ref f) = true) (hu : A.units < cLine) {Q : Fin → Shared → Prop}
    (hcall : wpAny (model prog w) A (call (.ref f) [.ref x, .ref y]) (fun v s' => ∃ b, v = .bool b ∧ Q (.done (.ret (.bool (!b)))) s') E s) :
    wpAny (model prog w) A (Builtin.«object.__ne__» ⟨[.ref x, .ref y], []⟩) Q E s := by
  unfold Builtin.«object.__ne__»
  repeat (first
    | with_reducible refine wpAny_cRoomFor hu ?_
    | (refine wpAny_bind (m := callSpecialIfBound? (.ref x) (Str.ofString "__eq__") [.ref y])
        (ifBound_K X I hs hf (wpAny_mono hcall (fun r s' hr => by
          obtain ⟨b, rfl, hq⟩ := hr
          repeat (first | exact hq | exact wpAny_pure hq | exact wpAny_truthy_bool hq | (refine wpAny_bind (m := truthy (.bool _)) (wpAny_truthy_bool ?_)) | wp_step)) fun _ _ e => e)))
    | wp_step)
theorem aG8 {Q : Value → Shared → Prop} (hu : A.units + 1 < cLine) (Fh : Fr h₀ L s.heap m) (X₀ : K.In h₀) (I : InstAt s.heap x ox C od) (hb : Looks (model prog w) s.heap (typeOf (.ref y)) (.ref C))
  (hn : findIn K (.ref C) "__ne__" = some (some (.builtin "object.__ne__"))) (hm : mroIn K C (.type "object") = some true) (hs : findIn K (.ref C) "__eq__" = some (some (.ref f))) (hf : isFn K (.ref f) = true)
  (h : wpAny (model prog w) A.in1 (call (.ref f) [.ref x, .ref y]) (fun v s' => ∃ b, v = .bool b ∧ Q (.bool (!b)) s') E s) : wpAny (model prog w) A (richCompare .NotEq (.ref x) (.ref y)) Q E s := by
 have X := X₀.keeps Fh.keep
 have one : wpAny (model prog w) A (tryCompare (.ref x) "__ne__" (.ref y)) (fun r s' => ∃ v, r = some v ∧ Q v s') E s := by
  unfold tryCompare
  refine wpAny_bind ?_
  simp only [callSpecialIfBound?, bindSpecialIfBound?]
  refine wpAny_holding (wpAny_bind (wpAny_bind (wpAny_bind (I.type.here ((looks_findIn X hn).here ?_)))))
  simp only [PySem.F.cmp_object.ne.bind]
  refine wpAny_bind (wpAny_askSetting (wpAny_ite ?_))
  have core : wpAny (model prog w) A (call (.builtin "object.__ne__") ([.ref x] ++ [.ref y])) (fun v s' => ∃ b : Bool, v = .bool b ∧ Q (.bool b) s') E s :=
   wpAny_call (codeAny_call_builtin PySem.F.cmp_object.ne.plain PySem.F.cmpEntry_ne
    (rY X I hm PySem.F.cmpKind_ne PySem.F.cmpSplit_ne (PySem.F.cmpArgs_ne _ _) (aDg (A := A.in1) X I hs hf hu (wpAny_mono h (fun v s' hv => by
     obtain ⟨b, rfl, q⟩ := hv
     exact ⟨b, rfl, _, rfl, q⟩) fun _ _ e => e))))
  have fin : wpAny (model prog w) A (call (.builtin "object.__ne__") ([.ref x] ++ [.ref y]) >>= fun v => pure (some v)) (fun r s' => ∃ b : Bool, r = some (.bool b) ∧ Q (.bool b) s') E s :=
   wpAny_bind (wpAny_mono core (fun v s' ⟨b, e, q⟩ => wpAny_pure ⟨b, by rw [e], q⟩) fun _ _ e => e)
  split
  ·exact wpAny_bind (wpAny_pure (wpAny_pure (by
    refine wpAny_mono fin (fun r s' hr => ?_) fun _ _ e => e
    obtain ⟨b, rfl, q⟩ := hr
    exact wpAny_pure ⟨_, rfl, q⟩)))
  ·exact wpAny_tryCatch (wpAny_bind (wpAny_pure (wpAny_pure (by
    refine wpAny_mono fin (fun r s' hr => ?_) fun _ _ e => e
    obtain ⟨b, rfl, q⟩ := hr
    exact wpAny_pure ⟨_, rfl, q⟩))))
 unfold richCompare
 simp only [oneThing_ref]
 refine wpAny_holding (wpAny_bind (wpAny_cRoomFor (by omega) ?_))
 refine wpAny_bind (I.type.here (wpAny_bind (hb.here ?_)))
 rw [show (Value.ref C != Value.ref C) = false from by simp]
 simp only [ax, ab]
 refine wpAny_bind (wpAny_pure ?_)
 simp only [ax, ab]
 refine wpAny_bind (wpAny_mono one (fun r s' z => ?_) fun _ _ e => e)
 obtain ⟨v, rfl, hq⟩ := z
 exact wpAny_pure hq
end
end
def neI (C : Addr) (m : MF) : D → D → W → Res D := fun x y w => match x, y with
 | .ref i, .ref j => (match w[i]?, w[j]? with
  | some (.ins C1 _), some (.ins C2 _) => if C1 = C ∧ C2 = C then (m [.ref i, .ref j] w).bind fun d w1 => (match d with
    | .bl b => .ok (.bl (!b)) w1
    | _ => .bad) else .bad
  | _, _ => .bad)
 | _, _ => .bad
structure L9 (K : PySem.W.Frag) (C : Addr) : Prop where
 ne : PySem.W.findIn K (.ref C) "__ne__" = some (some (.builtin "object.__ne__"))
 hm : PySem.W.mroIn K C (.type "object") = some true
def neB (K : PySem.W.Frag) (C : Addr) : Bool := He.eqO (PySem.W.findIn K (.ref C) "__ne__") (some (some (.builtin "object.__ne__"))) && decide (PySem.W.mroIn K C (.type "object") = some true)
theorem aF9 {K : PySem.W.Frag} {C : Addr} (h : neB K C = true) : L9 K C := by
 unfold neB at h
 simp only [ak, aq] at h
 exact ⟨He.eqO_ok h.1, h.2⟩
theorem aFa {S : aP} {k : Nat} {f C : Addr} {fd : FuncData} {ps : List Str} {m : MF} (hk : k + 1 ≤ S.k) (hn : L9 S.K C) (hs : Meth S.K C "__eq__" f) (Gf : eW S.P S.w S.K S.mg S.base k f fd ps m) (B : bO S.K fd ps 2 [] aM) : O2 S (compareOp .NotEq) (neI C m) :=
 fun X E c xo pins s σ H x y v u Q J rx ry ⟨I, F, G, d, e, w, rel, rd, re, p⟩ => by
  unfold neI at p
  split at p
  ·rename_i i j
   split at p
   ·rename_i C1 fs C2 gs hw1 hw2
    split at p
    ·rename_i hC
     obtain ⟨h1, h2⟩ := hC
     subst h1
     subst h2
     have rd0 := rd
     have re0 := re
     simp only [aI] at rd re
     obtain ⟨a, rfl, hi⟩ := rd
     obtain ⟨b, rfl, hj⟩ := re
     obtain rfl : v = Value.ref a := rx
     obtain rfl : u = Value.ref b := ry
     obtain ⟨u1, hu1, dx, r1, rfl, hr1⟩ := rel.ob i a _ hi hw1
     obtain ⟨u2, hu2, dy, r2, rfl, hr2⟩ := rel.ob j b _ hj hw2
     obtain ⟨mA, O, _⟩ := ins_get J.hok hu1
     obtain ⟨mB, O', _⟩ := ins_get J.hok hu2
     obtain ⟨od, O, _⟩ := O.look
     obtain ⟨od', O', _⟩ := O'.look
     obtain ⟨mm, hF⟩ := J.fr
     have hs' : Meth X.K C2 "__eq__" f := by rw [c.K]; exact hs
     have hn' : L9 X.K C2 := by rw [c.K]; exact hn
     have Gf' : eW X.prog X.w X.K X.mg X.base k f fd ps m := by rw [c.P, c.w, c.K, c.mg, c.base]; exact Gf
     obtain ⟨⟨g, gV, kb, rep⟩, bl⟩ : bO X.K fd ps 2 [] aM := by rw [c.K]; exact B
     have r1 : Vals [V.ref a, V.ref b] [Value.ref a, Value.ref b] := .cons rfl (.cons rfl .nil)
     have r2 := kb.rel r1 (.nil : Vals [] [])
     have r3 := rep I F [.ref i, .ref j] [.ref a, .ref b] [] [] (RepL.cons rd0 (RepL.cons re0 (by simp [RepL]))) (by simp [RepL])
     have hl : (gV [V.ref a, V.ref b] []).length = ps.length := by
      rw [← r3.length]
      exact bl [.ref i, .ref j] [] rfl rfl
     have room : Room k X.A.in1 := (c.room.mono hk).in1
     have pp : aY X.K I F G E (RV X.K fun v H2 => ∃ z : Bool, v = .bl z ∧ Q (.bl (!z)) H2) (m (aM [.ref i, .ref j] []) w) := by
      refine (aY.bind p).mono fun I1 F1 H1 d w1 _ e1 rel1 p1 v rv => ?_
      cases d <;> first | exact p1.elim | skip
      rename_i z hh
      simp only [aI] at rv
      subst rv
      exact ⟨z, rfl, aY.n5 p1 rel1 (by simp [aI])⟩
     have run : wpAny (model X.prog X.w) X.A.in1 (call (.ref f) [.ref a, .ref b]) (EP X pins σ fun v H2 => ∃ z : Bool, v = .bl z ∧ Q (.bl (!z)) H2) X.xe s := by
      refine wpAny_call (codeAny_mono (Gf'.run X.A.in1 X.stack s H ⟨[.ref a, .ref b], []⟩ (g [.ref a, .ref b] []) (gV [.ref a, .ref b] []) _ E room c.OQ J.env0.in1 (kb.to s [.ref a, .ref b] [] J.kIn rfl rfl) r2 hl ⟨I, F, G, _, w, rel, r3, pp⟩) fun fl s' hq => ?_)
      cases fl with
      | error e => exact passes_call xo.tk (fun _ _ _ _ h => h) pins σ H s e s' J hq
      | ok fl =>
       cases fl with
       | ret u => exact J.after hq
       | next => exact hq.elim
       | brk => exact hq.elim
       | cont => exact hq.elim
     refine aG8 (by have := (c.room.mono hk).units; omega) hF J.ok.mod.kin O O'.type hn'.ne hn'.hm hs'.at_ hs'.fn (wpAny_mono run (fun z s2 hz => ?_) fun _ _ e => e)
     obtain ⟨v0, H2, J2, rv2, z0, rfl, q⟩ := hz
     obtain rfl : z = Value.bool z0 := rv2
     exact ⟨z0, rfl, .bl (!z0), H2, J2, rfl, q⟩
    ·exact p.elim
   ·exact p.elim
  ·exact p.elim
def calm {α : Type} : Res α → Res α
 | .ok a w => .ok a w
 | _ => .bad
def Top (X : Cx) : Prop := X.stack = X.env :: X.outer ∧ X.env.frame = some X.env.locals
def JST (S : aP) (st : Stmt) (m : MS) : Prop := ∀ X E, Ctx S X → pI X E → Top X → PS X st (IS X.K E m)
def aIE (S : aP) (st : List Stmt) (m : MS) : Prop := ∀ X E, Ctx S X → pI X E → Top X → PSs X st (IS X.K E m)
theorem JS.t {S : aP} {st : Stmt} {m : MS} (h : JS S st m) : JST S st m := fun X E cx xo _ => h X E cx xo
theorem rR.t {S : aP} {st : List Stmt} {m : MS} (h : rR S st m) : aIE S st m := fun X E cx xo _ => h X E cx xo
def zA (d : D) (w : W) : Res lB := match d with
 | .ref i => (match w[i]? with
  | some (.dT kvs) => .ok ⟨kvs.map fun p => .tup (p.1.map iS), always⟩ (w.set i (.dG kvs))
  | some (.dG kvs) => .ok ⟨kvs.map fun p => .tup (p.1.map iS), always⟩ w
  | _ => .bad)
 | _ => .bad
def vX (m : ME) : MI := fun σ w => (m σ w).bind zA
def aF3 (te : TE) : TE := fun σ H Q => te σ H fun x H1 => ∃ d, x = V.ref d ∧ ((∃ kvs, H1 d = some (.dT kvs) ∧ ∀ o, Q x (upd H1 d (.frz o (.dT kvs)))) ∨ ∃ o kvs, H1 d = some (.frz o (.dT kvs)) ∧ Q x H1)
theorem aCz {X : Cx} {e : Expr} {te : TE} (h : PE X e te) : PE X e (aF3 te) := ⟨fun pins s σ H Q J q => thn (h.run pins s σ H _ J q) fun u s1 ⟨x, H1, J1, r, d, ex, k⟩ => by
 rcases k with ⟨kvs, hd, k⟩ | ⟨o, kvs, hd, k⟩
 ·obtain ⟨o, J2⟩ := J1.lock hd trivial
  exact ⟨x, _, J2, r, k o⟩
 ·exact ⟨x, _, J1, r, k⟩⟩
theorem Q3 {K : PySem.W.Frag} {I : List Addr} {F : Hp} : ∀ ks : List Key, RepL K I F (ks.map iS) (ks.map kV)
 | [] => by simp [RepL]
 | k :: ks => RepL.cons (D8 k) (Q3 ks)
theorem aBC {K : PySem.W.Frag} {I : List Addr} {F G H : Hp} {w : W} {ds : List D} {vs : List V} (rel : Rel K I F G w H) (r : ∀ F', RepL K I F' ds vs) {q : Addr} (hq : H q = some (.tup vs)) : ∃ F2, Ext I F I F2 ∧ Rel K I F2 G w H ∧ aI K I F2 (.tup ds) (.ref q) := by
 cases hF : F q with
 | some u =>
  have := rel.fz _ _ hF
  rw [hq] at this
  cases this
  refine ⟨F, .refl, rel, ?_⟩
  simp only [aI]
  exact ⟨q, vs, rfl, hF, r F⟩
 | none =>
  have e : Ext I F I (upd F q (.tup vs)) := ⟨List.prefix_refl _, fun a u h => by rw [upd_ne (ne_of_none h hF)]; exact h⟩
  refine ⟨_, e, ⟨rel.len, rel.nd, fun i a o h1 h2 => ?_, fun a u h => ?_, fun i a o h h0 hf => ?_, rel.gz, fun a u h => ?_, rel.gt⟩, ?_⟩
  ·obtain ⟨u, h3, h4⟩ := rel.ob i a o h1 h2
   exact ⟨u, h3, lN.ext e h4⟩
  ·by_cases ha : a = q
   ·subst ha; rw [upd_same] at h; cases h; exact hq
   ·rw [upd_ne ha] at h; exact rel.fz a u h
  ·have ha : a ≠ q := fun z => by
    subst z
    obtain ⟨u, h3, h4⟩ := rel.ob i a o h h0
    rw [hq] at h3
    cases h3
    cases o with
    | lst xs => obtain ⟨_, z, _⟩ := h4; cases z
    | dK xs => obtain ⟨_, z, _⟩ := h4; cases z
    | dT xs => obtain ⟨_, z, _⟩ := h4; cases z
    | dF xs => cases hf
    | dG xs => cases hf
    | ins C xs => obtain ⟨_, _, z, _⟩ := h4; cases z
   rw [upd_ne ha]; exact rel.ap i a o h h0 hf
  ·have ha : a ≠ q := fun z => by
    subst z
    have := rel.gz a u h
    rw [hq] at this
    cases this
    exact rel.gt a vs h
   rw [upd_ne ha]; exact rel.gf a u h
  ·simp only [aI]
   exact ⟨q, vs, rfl, upd_same, r _⟩
theorem aAa {K : PySem.W.Frag} {I : List Addr} {F G H : Hp} {w : W} {i : Nat} {a : Addr} {kvs : List (List Key × D)} {r : List (List Key × V)} (o : Obj) (rel : Rel K I F G w H) (hi : I[i]? = some a) (hw : w[i]? = some (.dT kvs)) (hr : aR K I F kvs r) :
  Ext I F I (upd F a (.frz o (.dT r))) ∧ Rel K I (upd F a (.frz o (.dT r))) G (w.set i (.dG kvs)) (upd H a (.frz o (.dT r))) := by
 have hF : F a = none := rel.ap i a _ hi hw rfl
 have rel' := rel.upd (u' := .frz o (.dT r)) (o' := .dG kvs) hi hw ⟨o, r, rfl, hr⟩
 have e : Ext I F I (upd F a (.frz o (.dT r))) := ⟨List.prefix_refl _, fun b u h => by rw [upd_ne (ne_of_none h hF)]; exact h⟩
 refine ⟨e, rel'.len, rel'.nd, fun j b q h1 h2 => ?_, fun b u h => ?_, fun j b q h1 h2 h3 => ?_, rel'.gz, fun b u h => ?_, rel.gt⟩
 ·obtain ⟨u, h3, h4⟩ := rel'.ob j b q h1 h2
  exact ⟨u, h3, lN.ext e h4⟩
 ·by_cases hb : b = a
  ·subst hb; rw [upd_same] at h ⊢; exact h
  ·rw [upd_ne hb] at h; exact rel'.fz b u h
 ·have hb : b ≠ a := fun z => by
   subst z
   obtain ⟨l1, e1⟩ := aj.mp hi
   obtain ⟨l2, e2⟩ := aj.mp h1
   have hij : i = j := (List.getElem_inj rel.nd).mp (e1.trans e2.symm)
   subst hij
   rw [bh (aj.mp hw).1] at h2
   cases h2
   cases h3
  rw [upd_ne hb]; exact rel'.ap j b q h1 h2 h3
 ·obtain ⟨g1, g2⟩ := rel.gf b u h
  have hb : b ≠ a := fun z => g2 (by rw [z]; exact cf hi)
  exact ⟨by rw [upd_ne hb]; exact g1, g2⟩
theorem aBw {K : PySem.W.Frag} {I : List Addr} {F G H : Hp} {w : W} {i : Nat} {a : Addr} {kvs : List (List Key × D)} {o : Obj} {r : List (List Key × V)} (rel : Rel K I F G w H) (hi : I[i]? = some a) (hw : w[i]? = some (.dG kvs)) (ha : H a = some (.frz o (.dT r))) :
  ∃ F2, Ext I F I F2 ∧ Rel K I F2 G w H ∧ F2 a = some (.frz o (.dT r)) := by
 cases hF : F a with
 | some u =>
  have := rel.fz _ _ hF
  rw [ha] at this
  cases this
  exact ⟨F, .refl, rel, hF⟩
 | none =>
  have e : Ext I F I (upd F a (.frz o (.dT r))) := ⟨List.prefix_refl _, fun b u h => by rw [upd_ne (ne_of_none h hF)]; exact h⟩
  refine ⟨_, e, ⟨rel.len, rel.nd, fun j b q h1 h2 => ?_, fun b u h => ?_, fun j b q h1 h2 h3 => ?_, rel.gz, fun b u h => ?_, rel.gt⟩, upd_same⟩
  ·obtain ⟨u, h3, h4⟩ := rel.ob j b q h1 h2
   exact ⟨u, h3, lN.ext e h4⟩
  ·by_cases hb : b = a
   ·subst hb; rw [upd_same] at h; cases h; exact ha
   ·rw [upd_ne hb] at h; exact rel.fz b u h
  ·have hb : b ≠ a := fun z => by
    subst z
    obtain ⟨l1, e1⟩ := aj.mp hi
    obtain ⟨l2, e2⟩ := aj.mp h1
    have hij : i = j := (List.getElem_inj rel.nd).mp (e1.trans e2.symm)
    subst hij
    rw [hw] at h2
    cases h2
    cases h3
   rw [upd_ne hb]; exact rel.ap j b q h1 h2 h3
  ·obtain ⟨g1, g2⟩ := rel.gf b u h
   have hb : b ≠ a := fun z => g2 (by rw [z]; exact cf hi)
   exact ⟨by rw [upd_ne hb]; exact g1, g2⟩
theorem W0 {K : PySem.W.Frag} {I1 : List Addr} {F2 : Hp} {a : Addr} {o : Obj} {kvs : List (List Key × D)} {r : List (List Key × V)} (hF : F2 a = some (.frz o (.dT r))) (hr : aR K I1 F2 kvs r) : E4 K I1 F2 (Itkt a o r) ⟨kvs.map fun p => .tup (p.1.map iS), always⟩ := fun I' F' G' w' H' j e' rel' _ => by
 have hH : H' a = some (.frz o (.dT r)) := rel'.fz _ _ (e'.f _ _ hF)
 have hr' := aR.ext e' _ _ hr
 have hlen : kvs.length = r.length := hr.length
 refine ⟨fun x hx => ?_, fun hl' => ⟨hH, by rw [ay] at hl'; omega⟩⟩
 rw [cu] at hx
 cases hk : kvs[j]? with
 | none => rw [hk] at hx; cases hx
 | some kd =>
  rw [hk] at hx
  cases hx
  refine ⟨⟨hH, by rw [← hlen]; exact (aj.mp hk).1⟩, fun v H'' y => ?_⟩
  obtain ⟨rfl, k, v', q, g1, rfl, g2⟩ := y
  obtain ⟨d', g3, _⟩ := hr'.get g1
  rw [hk] at g3
  cases g3
  exact aBC rel' (fun F' => Q3 k) g2
theorem aCS {S : aP} {tg e : Expr} {m : ME} (he : JE S e m) : JI S tg e (vX m) := fun X E cx xo =>
 AM (pi_keys (aCz (he X E cx xo))) fun σ H R ⟨I, F, G, ds, w, rel, rs, p⟩ => bY (f := fun _ => zA) rel rs p fun I1 F1 H1 d w1 v e1 rel1 rs1 rv p1 => by
  unfold zA at p1
  split at p1
  ·rename_i i
   simp only [aI] at rv
   obtain ⟨a, rfl, hi⟩ := rv
   split at p1
   ·rename_i kvs hw
    obtain ⟨u, hu, r, rfl, hr⟩ := rel1.ob i a _ hi hw
    refine ⟨a, rfl, .inl ⟨r, hu, fun o => ⟨a, o, rfl, .inr ⟨r, upd_same, ?_⟩⟩⟩⟩
    obtain ⟨e2, rel2⟩ := aAa o rel1 hi hw hr
    exact p1 I1 _ _ e2 rel2 trivial _ (W0 upd_same (aR.ext e2 _ _ hr))
   ·rename_i kvs hw
    obtain ⟨u, hu, o, r, rfl, hr⟩ := rel1.ob i a _ hi hw
    refine ⟨a, rfl, .inr ⟨o, r, hu, a, o, rfl, .inr ⟨r, hu, ?_⟩⟩⟩
    obtain ⟨F2, e2, rel2, hF2⟩ := aBw rel1 hi hw hu
    exact p1 I1 F2 _ e2 rel2 trivial _ (W0 hF2 (aR.ext e2 _ _ hr))
   ·exact p1.elim
  ·exact p1.elim
abbrev Ez : XK := fun _ _ _ => False
theorem aY.calm {α β : Type} {K : PySem.W.Frag} {I : List Addr} {F G : Hp} {E : XK} {R : List Addr → Hp → Hp → β → W → Prop} {r : Res α} {f : α → W → Res β} (p : aY K I F G E R ((Pc.calm r).bind f)) : aY K I F G Ez (fun I1 F1 _ x w1 => aY K I1 F1 G E R (f x w1)) r := by
 cases r with
 | ok a w => exact fun I' F' H' e rel => aY.ext p e
 | HW x w => exact False.elim p
 | bad => exact False.elim p
def aGW (X : Cx) : Prop := Top X ∧ X.ex = []
def aIG (S : aP) (st : Stmt) (m : MS) : Prop := ∀ X E, Ctx S X → pI X E → aGW X → PS X st (IS X.K E m)
def aHr (S : aP) (st : List Stmt) (m : MS) : Prop := ∀ X E, Ctx S X → pI X E → aGW X → PSs X st (IS X.K E m)
theorem JS.t3 {S : aP} {st : Stmt} {m : MS} (h : JS S st m) : aIG S st m := fun X E cx xo _ => h X E cx xo
theorem rR.t3 {S : aP} {st : List Stmt} {m : MS} (h : rR S st m) : aHr S st m := fun X E cx xo _ => h X E cx xo
theorem Rel.hold {K : PySem.W.Frag} {I : List Addr} {F G H : Hp} {w : W} {x : XD} {c : Value} {d : Option Addr} (rel : Rel K I F G w H) (rx : E1 K I F H x c d) :
  ∃ G', Rel K I F G' w H ∧ (∀ I2 F2 w2 H2, Ext I F I2 F2 → Rel K I2 F2 G' w2 H2 → Rel K I2 F2 G w2 H2 ∧ E1 K I2 F2 H2 x c d) := by
 obtain ⟨ec, hx⟩ := rx
 cases hf : x.fs with
 | none =>
  rw [hf] at hx
  exact ⟨G, rel, fun I2 F2 w2 H2 e r2 => ⟨r2, ec, by rw [hf]; exact hx⟩⟩
 | some fs =>
  rw [hf] at hx
  obtain ⟨a, r, e1, e2, e3⟩ := hx
  have fin : ∀ {I2 F2 H2}, Ext I F I2 F2 → H2 a = some (.xd r) → E1 K I2 F2 H2 x c d := fun e h => ⟨ec, by rw [hf]; exact ⟨a, r, e1, h, aR.ext e _ _ e3⟩⟩
  have nI : a ∉ I := fun hm => by
   obtain ⟨i, hi⟩ := List.mem_iff_getElem?.mp hm
   have li : i < w.length := by rw [← rel.len]; exact (aj.mp hi).1
   obtain ⟨u, h1, h2⟩ := rel.ob i a w[i] hi (bz li)
   rw [e2] at h1
   cases h1
   cases hw : w[i] with
   | lst xs => rw [hw] at h2; obtain ⟨_, z, _⟩ := h2; cases z
   | dK xs => rw [hw] at h2; obtain ⟨_, z, _⟩ := h2; cases z
   | dT xs => rw [hw] at h2; obtain ⟨_, z, _⟩ := h2; cases z
   | dF xs => rw [hw] at h2; obtain ⟨_, _, z, _⟩ := h2; cases z
   | dG xs => rw [hw] at h2; obtain ⟨_, _, z, _⟩ := h2; cases z
   | ins C xs => rw [hw] at h2; obtain ⟨_, _, z, _⟩ := h2; cases z
  cases hF : F a with
  | some u =>
   have hu := rel.fz a u hF
   rw [e2] at hu
   cases hu
   exact ⟨G, rel, fun I2 F2 w2 H2 e r2 => ⟨r2, fin e (r2.fz a _ (e.f a _ hF))⟩⟩
  | none =>
   cases hG : G a with
   | some u =>
    have hu := rel.gz a u hG
    rw [e2] at hu
    cases hu
    exact ⟨G, rel, fun I2 F2 w2 H2 e r2 => ⟨r2, fin e (r2.gz a _ hG)⟩⟩
   | none =>
    refine ⟨L2.upd G a (.xd r), ⟨rel.len, rel.nd, rel.ob, rel.fz, rel.ap, fun b v hb => ?_, fun b v hb => ?_, fun b xs hb => ?_⟩, fun I2 F2 w2 H2 e r2 => ⟨r2.less hG, fin e (r2.gz a _ upd_same)⟩⟩
    ·by_cases q : b = a
     ·subst q
      rw [upd_same] at hb
      cases hb
      exact e2
     ·rw [upd_ne q] at hb
      exact rel.gz b v hb
    ·by_cases q : b = a
     ·subst q
      exact ⟨hF, nI⟩
     ·rw [upd_ne q] at hb
      exact rel.gf b v hb
    ·by_cases q : b = a
     ·subst q
      rw [upd_same] at hb
      cases hb
     ·rw [upd_ne q] at hb
      exact rel.gt b xs hb
def MW (K : PySem.W.Frag) : Prop := ∃ o, K.lookup sysModules = some o ∧ o.cls = .type "dict"
def aGo (K : PySem.W.Frag) : Bool := match K.lookup sysModules with
 | some o => (match o.cls with
  | .type n => n == "dict"
  | _ => false)
 | none => false
theorem aDs {K : PySem.W.Frag} (h : aGo K = true) : MW K := by
 unfold aGo at h
 split at h
 ·rename_i o e
  split at h
  ·rename_i n e2
   exact ⟨o, e, by rw [e2]; exact congrArg Value.type (eq_of_beq h)⟩
  ·cases h
 ·cases h
mutual
inductive Dq (K : PySem.W.Frag) (H : Hp) : V → PyData → Prop
 | non : Dq K H .non .none
 | bl (b : Bool) : Dq K H (.bl b) (.bool b)
 | int (i : Int) : Dq K H (.int i) (.int i)
 | str (x : Str) : Dq K H (.str x) (.str x)
 | lst {a : Addr} {xs : List V} {ds : List PyData} : SqL K H a xs → DqAll K H xs ds → Dq K H (.ref a) (.list ds)
 | tup {a : Addr} {xs : List V} {ds : List PyData} : SqT K H a xs → DqAll K H xs ds → Dq K H (.ref a) (.tuple ds)
 | emp {a : Addr} : (H a = some (.dK []) ∨ H a = some (.dT [])) → Dq K H (.ref a) (.dict [])
inductive DqAll (K : PySem.W.Frag) (H : Hp) : List V → List PyData → Prop
 | nil : DqAll K H [] []
 | cons {v : V} {vs : List V} {d : PyData} {ds : List PyData} : Dq K H v d → DqAll K H vs ds → DqAll K H (v :: vs) (d :: ds)
end
theorem aDd {P : Program} {w : World} {H : Hp} {h : Heap} {a : Addr} {o : HO} (x : ObjOk P w H h a o) (e : o = .dK [] ∨ o = .dT []) : (a == sysModules) = false ∧ ∃ ob es n, h.get? a = some ob ∧ ob.cls = .type "dict" ∧ ob.data = .dict es n ∧ es.toList = [] := by
 rcases e with rfl | rfl
 ·obtain ⟨_, ns, vs, kv, o, es, n, e1, e2, e3, e4, e5⟩ := x
  cases kv
  have e6 := e5.1
  refine ⟨ns, o, es, n, e1, e2.1, e3, ?_⟩
  generalize es.toList = l at e6
  cases l with
  | nil => rfl
  | cons x l => cases e6
 ·obtain ⟨_, ns, xs, pr, o, es, n, e1, e2, e3, e4, e5⟩ := x
  cases pr
  exact ⟨ns, o, es, n, e1, e2.1, e3, by rw [e4]; rfl⟩
section
variable {X : Cx} {pins : List (Addr × Obj)} {σ : L2.St} {H : Hp} {s : Shared}
mutual
theorem Dq.reads (hS : MW X.K) (I : Inv X pins σ H s) : ∀ (d : PyData) (v : V) (u : Value), Dq X.K H v d → RelV v u → ∃ as, Reads s.heap u d as ∧ sysModules ∉ as
 | .none, _, _, h, r => by
  cases h
  cases r
  exact ⟨_, Reads.none, by simp⟩
 | .bool b, _, _, h, r => by
  cases h
  cases r
  exact ⟨_, Reads.bool b, by simp⟩
 | .int i, _, _, h, r => by
  cases h
  obtain ⟨t, rfl⟩ := r
  exact ⟨_, Reads.int i t, by simp⟩
 | .str x, _, _, h, r => by
  cases h
  obtain ⟨t, rfl⟩ := r
  exact ⟨_, Reads.str x t, by simp⟩
 | .list ds, _, _, h, r => by
  cases h with
  | lst hs ha =>
   cases r
   obtain ⟨its, rv, ⟨o, n, ho, hc, _, hd⟩, _⟩ := I.list hs
   obtain ⟨as, hr, ns⟩ := Dq.readsAll hS I ds _ its ha rv
   refine ⟨_, Reads.list ho hc hd hr, fun hm => ?_⟩
   rcases bu.mp hm with e | e
   ·obtain ⟨o2, h1, h2⟩ := hS
    have := I.kIn _ _ h1
    rw [e, ho] at this
    cases this
    rw [h2] at hc
    exact absurd (Value.type.inj hc) (by decide)
   ·exact ns e
 | .tuple ds, _, _, h, r => by
  cases h with
  | tup hs ha =>
   cases r
   obtain ⟨its, rv, ⟨o, ho, hc, n, hd⟩, _⟩ := I.tuple hs
   obtain ⟨as, hr, ns⟩ := Dq.readsAll hS I ds _ its ha rv
   exact ⟨_, Reads.tuple ho hc hd hr, ns⟩
 | .dict kvs, _, _, h, r => by
  cases h with
  | emp he =>
   cases r
   rename_i a
   have hx : ∃ o, H a = some o ∧ (o = .dK [] ∨ o = .dT []) := by
    rcases he with he | he
    ·exact ⟨_, he, .inl rfl⟩
    ·exact ⟨_, he, .inr rfl⟩
   obtain ⟨o, h1, h2⟩ := hx
   obtain ⟨ne, ob, es, n, e1, e2, e3, e4⟩ := aDd (I.hok a o h1) h2
   have r0 : ReadsAll s.heap (es.toList.map (·.key)) (([] : List (PyData × PyData)).map (·.1)) [] := by rw [e4]; exact .nil
   have r1 : ReadsAll s.heap (es.toList.map (·.val)) (([] : List (PyData × PyData)).map (·.2)) [] := by rw [e4]; exact .nil
   refine ⟨_, Reads.dict e1 e2 e3 r0 r1, fun hm => ?_⟩
   have : sysModules = a := by simpa using hm
   rw [← this] at ne
   simp at ne
theorem Dq.readsAll (hS : MW X.K) (I : Inv X pins σ H s) : ∀ (ds : List PyData) (vs : List V) (us : List Value), DqAll X.K H vs ds → Vals vs us → ∃ as, ReadsAll s.heap us ds as ∧ sysModules ∉ as
 | [], _, _, h, r => by
  cases h
  cases r
  exact ⟨_, ReadsAll.nil, by simp⟩
 | d :: ds, _, _, h, r => by
  cases h with
  | cons h1 h2 =>
   cases r with
   | cons r1 r2 =>
    obtain ⟨as, q1, n1⟩ := Dq.reads hS I d _ _ h1 r1
    obtain ⟨bs, q2, n2⟩ := Dq.readsAll hS I ds _ _ h2 r2
    exact ⟨_, ReadsAll.cons q1 q2, fun hm => by
     rcases dh.mp hm with e | e
     ·exact n1 e
     ·exact n2 e⟩
end
end
section
variable {K : PySem.W.Frag} {I : List Addr} {F G H : Hp} {w : W}
mutual
theorem aGJ (rel : Rel K I F G w H) {f : Nat → Option PyData} (hf : ∀ i a p, I[i]? = some a → f i = some p → Dq K H (.ref a) p) : ∀ (d : D) (v : V) (p : PyData), aI K I F d v → d.eP f = some p → Dq K H v p
 | .non, v, p, h, e => by simp only [aI] at h; simp only [D.eP, ah] at e; subst h; subst e; exact .non
 | .bl b, v, p, h, e => by simp only [aI] at h; simp only [D.eP, ah] at e; subst h; subst e; exact .bl b
 | .int i, v, p, h, e => by simp only [aI] at h; simp only [D.eP, ah] at e; subst h; subst e; exact .int i
 | .str x, v, p, h, e => by simp only [aI] at h; simp only [D.eP, ah] at e; subst h; subst e; exact .str x
 | .ty _, v, p, h, e => by simp [D.eP] at e
 | .con _, v, p, h, e => by simp [D.eP] at e
 | .xO _ _, v, p, h, e => by simp [D.eP] at e
 | .tup xs, v, p, h, e => by
  simp only [aI] at h
  obtain ⟨a, vs, rfl, h2, h3⟩ := h
  simp only [D.eP, au] at e
  obtain ⟨ps, e1, rfl⟩ := e
  exact .tup (.of (rel.fz _ _ h2)) (dq_pysR rel hf xs vs ps h3 e1)
 | .gY xs, v, p, h, e => by
  simp only [aI] at h
  obtain ⟨a, vs, rfl, h2, h3⟩ := h
  simp only [D.eP, au] at e
  obtain ⟨ps, e1, rfl⟩ := e
  exact .tup (rel.Q8 h2) (dq_pysR rel hf xs vs ps h3 e1)
 | .lst xs, v, p, h, e => by
  simp only [aI] at h
  obtain ⟨a, vs, rfl, h2, h3⟩ := h
  simp only [D.eP, au] at e
  obtain ⟨ps, e1, rfl⟩ := e
  exact .lst (.of (rel.fz _ _ h2)) (dq_pysR rel hf xs vs ps h3 e1)
 | .pR xs, v, p, h, e => by
  simp only [aI] at h
  obtain ⟨a, vs, rfl, h2, h3⟩ := h
  simp only [D.eP, au] at e
  obtain ⟨ps, e1, rfl⟩ := e
  exact .lst (rel.sqL h2) (dq_pysR rel hf xs vs ps h3 e1)
 | .ref i, v, p, h, e => by
  simp only [aI] at h
  obtain ⟨a, rfl, h2⟩ := h
  simp only [D.eP] at e
  exact hf i a p h2 e
theorem dq_pysR (rel : Rel K I F G w H) {f : Nat → Option PyData} (hf : ∀ i a p, I[i]? = some a → f i = some p → Dq K H (.ref a) p) : ∀ (ds : List D) (vs : List V) (ps : List PyData), RepL K I F ds vs → D.pysR f ds = some ps → DqAll K H vs ps
 | [], vs, ps, h, e => by simp only [RepL] at h; simp only [D.pysR, ah] at e; subst h; subst e; exact .nil
 | d :: ds, vs, ps, h, e => by
  simp only [RepL] at h
  obtain ⟨v, r, rfl, h2, h3⟩ := h
  simp only [D.pysR] at e
  split at e
  ·rename_i p ps' e1 e2
   cases e
   exact .cons (aGJ rel hf d v p h2 e1) (dq_pysR rel hf ds r ps' h3 e2)
  ·cases e
end
end
def zD : MF := fun ds w => match ds with
 | [.int i] => if i.natAbs.log2 < 1920 then .ok (.str (toString i)) w else .bad
 | [.str a] => .ok (.str a) w
 | _ => .bad
theorem aAP {S : aP} : CB S (.type "str") zD := vB fun X E c xo I F G ds w H vs Q rel rl p => by
 unfold zD at p
 split at p
 ·rename_i i
  obtain ⟨v, rfl, rv⟩ := rl.one
  simp only [aI] at rv
  subst rv
  split at p
  ·rename_i hi
   exact ⟨_, call_str_int, i, rfl, hi, p.n5 rel (by simp [aI])⟩
  ·exact p.elim
 ·rename_i a
  obtain ⟨v, rfl, rv⟩ := rl.one
  simp only [aI] at rv
  subst rv
  exact ⟨_, SkE.call_str_str, a, rfl, p.n5 rel (by simp [aI])⟩
 ·exact p.elim
def FC : MF := fun ds w => match ds with
 | [.ref i] => (match w[i]? with
  | some (.dT kvs) => .ok (.int ((kvs.length : Nat) : Int)) w
  | _ => .bad)
 | _ => .bad
theorem aBh {S : aP} : CB S (.builtin "len") FC := vB fun X E c xo I F G ds w H vs Q rel rl p => by
 unfold FC at p
 split at p
 ·rename_i i
  obtain ⟨v, rfl, rv⟩ := rl.one
  simp only [aI] at rv
  obtain ⟨a, rfl, hi⟩ := rv
  split at p
  ·rename_i kvs hw
   obtain ⟨u, hu, r, rfl, hr⟩ := rel.ob i a _ hi hw
   refine ⟨_, call_len_dT, a, r, rfl, hu, p.n5 rel ?_⟩
   rw [← aR.len hr]
   simp [aI]
  ·exact p.elim
 ·exact p.elim
def E2 : ME := fun _ w => .ok (.xO [] []) w
section
variable {S : aP} {pos : Pos} {ks : List (Option Expr)} {vs : List Expr} {m : MP}
theorem aBn : JE S (.Dict [] [] pos) E2 := fun X E cx xo => cR pe_dnewK fun σ H Q ⟨I, F, G, ds, w, rel, rs, p⟩ q hq => by
 have hG : G q = none := by
  cases z : G q with
  | none => rfl
  | some u => rw [rel.gz _ _ z] at hq; cases hq
 obtain ⟨e, rel2⟩ := (rel.keep (u := .dK []) hq).aEM hG
 refine p _ _ _ e rel2 _ ?_
 simp only [aI]
 exact ⟨q, [], rfl, .inl upd_same, by simp [RepL], by simp [RepL]⟩
end
def vF : List D → Option (List PyData)
 | [] => some []
 | .int i :: ds => (vF ds).map fun ps => .int i :: ps
 | .str x :: ds => (vF ds).map fun ps => .str x :: ps
 | _ :: _ => none
mutual
def D.EJ (f : Nat → Option PyData) : D → Option PyData
 | .non => some .none
 | .bl b => some (.bool b)
 | .int i => some (.int i)
 | .str x => some (.str x)
 | .ty _ => none
 | .con _ => none
 | .tup xs => (D.pysV f xs).map .tuple
 | .gY xs => (D.pysV f xs).map .tuple
 | .lst xs => (D.pysV f xs).map .list
 | .pR xs => (D.pysV f xs).map .list
 | .xO ks vs => (match vF ks, D.pysV f vs with
  | some kp, some vp => if kp.length = vp.length then some (.dict (kp.zip vp)) else none
  | _, _ => none)
 | .ref i => f i
def D.pysV (f : Nat → Option PyData) : List D → Option (List PyData)
 | [] => some []
 | d :: ds => match D.EJ f d, D.pysV f ds with
  | some p, some ps => some (p :: ps)
  | _, _ => none
end
theorem UQ {d : D} {ds : List D} {kp : List PyData} (h : vF (d :: ds) = some kp) : ∃ p ps, kp = p :: ps ∧ vF ds = some ps ∧ ((∃ i, d = .int i ∧ p = .int i) ∨ ∃ x, d = .str x ∧ p = .str x) := by
 cases d <;> simp only [vF, au, reduceCtorEq] at h
 ·obtain ⟨ps, h1, rfl⟩ := h
  exact ⟨_, ps, rfl, h1, .inl ⟨_, rfl, rfl⟩⟩
 ·obtain ⟨ps, h1, rfl⟩ := h
  exact ⟨_, ps, rfl, h1, .inr ⟨_, rfl, rfl⟩⟩
theorem DU {h : Heap} {P : Program} {w : World} {K : PySem.W.Frag} {I : List Addr} {F : Hp} : ∀ {ks : List D} {kp : List PyData} {kvs : List (Key × V)} {kvs2 : List (Key × Value)} {es : List DictEntry}, vF ks = some kp → RepL K I F ks (kvs.map fun p => kV p.1) → KV kvs kvs2 → Pairs (mixKind P w) es kvs2 → ReadsAll h (es.map (·.key)) kp []
 | [], kp, kvs, kvs2, es, e, r, kv, ps => by
  simp only [vF, ah] at e
  subst e
  simp only [RepL, List.map_eq_nil_iff] at r
  subst r
  cases kv
  cases ps
  exact .nil
 | d :: ds, kp, kvs, kvs2, es, e, r, kv, ps => by
  obtain ⟨p, pp, rfl, e2, e3⟩ := UQ e
  cases kvs with
  | nil => simp only [List.map_nil, RepL] at r; obtain ⟨_, _, z, _⟩ := r; cases z
  | cons kv1 kvs =>
   simp only [cg, RepL] at r
   obtain ⟨v, t, z, r1, r2⟩ := r
   cases z
   cases kv with
   | cons k1 k2 =>
    cases ps with
    | @cons en kv0 es0 kvs0 p1 p2 p3 =>
     have ih := DU (h := h) e2 r2 k2 p3
     have hp : Reads h en.key p [] := by
      obtain ⟨q1, q2⟩ := k1
      obtain ⟨k, v0⟩ := kv1
      simp only at q1
      subst q1
      rcases keyIs_shape p1 with ⟨i, t, e5, e6⟩ | ⟨x, t, e5, e6⟩
      ·rw [e6]
       simp only [e5] at r1
       rcases e3 with ⟨j, rfl, rfl⟩ | ⟨x, rfl, rfl⟩
       ·simp only [aI, kV, V.int.injEq] at r1
        subst r1
        exact Reads.int _ t
       ·simp [aI, kV] at r1
      ·rw [e6]
       simp only [e5] at r1
       rcases e3 with ⟨j, rfl, rfl⟩ | ⟨y, rfl, rfl⟩
       ·simp [aI, kV] at r1
       ·simp only [aI, kV, V.str.injEq] at r1
        subst r1
        exact Reads.str _ t
     exact ReadsAll.cons (as := []) (bs := []) hp ih
theorem WL {P : Program} {w : World} : ∀ {kvs : List (Key × V)} {kvs2 : List (Key × Value)} {es : List DictEntry}, KV kvs kvs2 → Pairs (mixKind P w) es kvs2 → Vals (kvs.map fun p => p.2) (es.map (·.val))
 | [], _, _, kv, ps => by
  cases kv
  cases ps
  exact .nil
 | p :: kvs, _, _, kv, ps => by
  cases kv with
  | cons k1 k2 =>
   cases ps with
   | cons p1 p2 p3 =>
    exact .cons (by show L2.RelV p.2 (DictEntry.val _); rw [p2]; exact k1.2) (WL k2 p3)
section
variable {X : Cx} {pins : List (Addr × Obj)} {σ : L2.St} {H : Hp} {s : Shared} {I : List Addr} {F G : Hp} {w : W}
mutual
theorem K5 (hS : MW X.K) (J : Inv X pins σ H s) (rel : Rel X.K I F G w H) {f : Nat → Option PyData} (hf : ∀ i a p, I[i]? = some a → f i = some p → ∃ as, Reads s.heap (.ref a) p as ∧ sysModules ∉ as) : ∀ (d : D) (v : V) (u : Value) (p : PyData), aI X.K I F d v → RelV v u → d.EJ f = some p → ∃ as, Reads s.heap u p as ∧ sysModules ∉ as
 | .non, v, u, p, h, r, e => by
  simp only [aI] at h
  simp only [D.EJ, ah] at e
  subst h e
  cases r
  exact ⟨_, Reads.none, by simp⟩
 | .bl b, v, u, p, h, r, e => by
  simp only [aI] at h
  simp only [D.EJ, ah] at e
  subst h e
  cases r
  exact ⟨_, Reads.bool b, by simp⟩
 | .int i, v, u, p, h, r, e => by
  simp only [aI] at h
  simp only [D.EJ, ah] at e
  subst h e
  obtain ⟨t, rfl⟩ := r
  exact ⟨_, Reads.int i t, by simp⟩
 | .str x, v, u, p, h, r, e => by
  simp only [aI] at h
  simp only [D.EJ, ah] at e
  subst h e
  obtain ⟨t, rfl⟩ := r
  exact ⟨_, Reads.str x t, by simp⟩
 | .ty _, v, u, p, h, r, e => by simp [D.EJ] at e
 | .con _, v, u, p, h, r, e => by simp [D.EJ] at e
 | .tup xs, v, u, p, h, r, e => by
  simp only [aI] at h
  obtain ⟨a, vs, rfl, h2, h3⟩ := h
  simp only [D.EJ, au] at e
  obtain ⟨ps, e1, rfl⟩ := e
  cases r
  obtain ⟨its, rv, ⟨o, ho, hc, n, hd⟩, _⟩ := J.tuple (show SqT X.K H a vs from .of (rel.fz _ _ h2))
  obtain ⟨as, hr, ns⟩ := pysV_reads hS J rel hf xs vs its ps h3 rv e1
  exact ⟨_, Reads.tuple ho hc hd hr, ns⟩
 | .gY xs, v, u, p, h, r, e => by
  simp only [aI] at h
  obtain ⟨a, vs, rfl, h2, h3⟩ := h
  simp only [D.EJ, au] at e
  obtain ⟨ps, e1, rfl⟩ := e
  cases r
  obtain ⟨its, rv, ⟨o, ho, hc, n, hd⟩, _⟩ := J.tuple (rel.Q8 h2)
  obtain ⟨as, hr, ns⟩ := pysV_reads hS J rel hf xs vs its ps h3 rv e1
  exact ⟨_, Reads.tuple ho hc hd hr, ns⟩
 | .lst xs, v, u, p, h, r, e => by
  simp only [aI] at h
  obtain ⟨a, vs, rfl, h2, h3⟩ := h
  simp only [D.EJ, au] at e
  obtain ⟨ps, e1, rfl⟩ := e
  cases r
  obtain ⟨its, rv, ⟨o, n, ho, hc, _, hd⟩, _⟩ := J.list (show SqL X.K H a vs from .of (rel.fz _ _ h2))
  obtain ⟨as, hr, ns⟩ := pysV_reads hS J rel hf xs vs its ps h3 rv e1
  refine ⟨_, Reads.list ho hc hd hr, fun hm => ?_⟩
  rcases bu.mp hm with e | e
  ·obtain ⟨o2, h1, h2⟩ := hS
   have := J.kIn _ _ h1
   rw [e, ho] at this
   cases this
   rw [h2] at hc
   exact absurd (Value.type.inj hc) (by decide)
  ·exact ns e
 | .pR xs, v, u, p, h, r, e => by
  simp only [aI] at h
  obtain ⟨a, vs, rfl, h2, h3⟩ := h
  simp only [D.EJ, au] at e
  obtain ⟨ps, e1, rfl⟩ := e
  cases r
  obtain ⟨its, rv, ⟨o, n, ho, hc, _, hd⟩, _⟩ := J.list (rel.sqL h2)
  obtain ⟨as, hr, ns⟩ := pysV_reads hS J rel hf xs vs its ps h3 rv e1
  refine ⟨_, Reads.list ho hc hd hr, fun hm => ?_⟩
  rcases bu.mp hm with e | e
  ·obtain ⟨o2, h1, h2⟩ := hS
   have := J.kIn _ _ h1
   rw [e, ho] at this
   cases this
   rw [h2] at hc
   exact absurd (Value.type.inj hc) (by decide)
  ·exact ns e
 | .xO ks xs, v, u, p, h, r, e => by
  simp only [aI] at h
  obtain ⟨a, kvs, rfl, h2, h3, h4⟩ := h
  simp only [D.EJ] at e
  split at e
  ·rename_i kp vp e1 e2
   split at e
   ·rename_i el
    cases e
    cases r
    have hx : ∃ u, H a = some u ∧ (u = .dK kvs ∨ ∃ o, u = .frz o (.dK kvs)) := by
     rcases h2 with h2 | ⟨o, h2⟩
     ·exact ⟨_, rel.fz _ _ h2, .inl rfl⟩
     ·exact ⟨_, rel.fz _ _ h2, .inr ⟨o, rfl⟩⟩
    obtain ⟨u, h5, h6⟩ := hx
    have ok := J.hok a u h5
    have ok2 : ObjOk X.prog X.w H s.heap a (.dK kvs) := by
     rcases h6 with rfl | ⟨o, rfl⟩
     ·exact ok
     ·exact ok.2
    obtain ⟨_, ns, kv2, kv, o, es, n, q1, q2, q3, q4, q5, q6⟩ := ok2
    have rk := DU (h := s.heap) e1 h3 kv q5
    have hv : Vals (kvs.map fun p => p.2) (es.toList.map (·.val)) := WL kv q5
    obtain ⟨as, hr, ns2⟩ := pysV_reads hS J rel hf xs _ _ vp h4 hv e2
    have f1 : ((kp.zip vp).map fun p => p.1) = kp := by
     rw [List.map_fst_zip]
     omega
    have f2 : ((kp.zip vp).map fun p => p.2) = vp := by
     rw [List.map_snd_zip]
     omega
    refine ⟨_, Reads.dict (kvs := kp.zip vp) q1 q2.1 q3 (by rw [f1]; exact rk) (by rw [f2]; exact hr), fun hm => ?_⟩
    simp only [List.append_nil, bp, bu] at hm
    rcases hm with e | e
    ·rw [← e] at ns
     simp at ns
    ·exact ns2 e
   ·cases e
  ·cases e
 | .ref i, v, u, p, h, r, e => by
  simp only [aI] at h
  obtain ⟨a, rfl, h2⟩ := h
  simp only [D.EJ] at e
  cases r
  exact hf i a p h2 e
theorem pysV_reads (hS : MW X.K) (J : Inv X pins σ H s) (rel : Rel X.K I F G w H) {f : Nat → Option PyData} (hf : ∀ i a p, I[i]? = some a → f i = some p → ∃ as, Reads s.heap (.ref a) p as ∧ sysModules ∉ as) : ∀ (ds : List D) (vs : List V) (us : List Value) (ps : List PyData), RepL X.K I F ds vs → Vals vs us → D.pysV f ds = some ps → ∃ as, ReadsAll s.heap us ps as ∧ sysModules ∉ as
 | [], vs, us, ps, h, r, e => by
  simp only [RepL] at h
  simp only [D.pysV, ah] at e
  subst h e
  cases r
  exact ⟨_, ReadsAll.nil, by simp⟩
 | d :: ds, vs, us, ps, h, r, e => by
  simp only [RepL] at h
  obtain ⟨v, t, rfl, h2, h3⟩ := h
  simp only [D.pysV] at e
  split at e
  ·rename_i p ps' e1 e2
   cases e
   cases r with
   | cons r1 r2 =>
    obtain ⟨as, q1, n1⟩ := K5 hS J rel hf d v _ p h2 r1 e1
    obtain ⟨bs, q2, n2⟩ := pysV_reads hS J rel hf ds t _ ps' h3 r2 e2
    exact ⟨_, ReadsAll.cons q1 q2, fun hm => by
     rcases dh.mp hm with e | e
     ·exact n1 e
     ·exact n2 e⟩
  ·cases e
end
end
def R3 : Nat → W → Nat → Option PyData
 | 0, _, _ => none
 | n + 1, w, i => match w[i]? with
  | some (.lst xs) => (D.pysV (R3 n w) xs).map .list
  | _ => none
theorem DF {X : Cx} {pins : List (Addr × Obj)} {σ : L2.St} {H : Hp} {s : Shared} {I : List Addr} {F G : Hp} {w : W} (hS : MW X.K) (J : Inv X pins σ H s) (rel : Rel X.K I F G w H) : ∀ (n i : Nat) (a : Addr) (p : PyData), I[i]? = some a → R3 n w i = some p → ∃ as, Reads s.heap (.ref a) p as ∧ sysModules ∉ as
 | 0, i, a, p, _, e => by simp [R3] at e
 | n + 1, i, a, p, h, e => by
  simp only [R3] at e
  split at e
  ·rename_i xs hw
   simp only [au] at e
   obtain ⟨ps, e1, rfl⟩ := e
   obtain ⟨u, hu, ho⟩ := rel.ob i a _ h hw
   obtain ⟨vs, rfl, h3⟩ := ho
   obtain ⟨its, rv, ⟨o, n', ho, hc, _, hd⟩, _⟩ := J.list (show SqL X.K H a vs from .of hu)
   obtain ⟨as, hr, ns⟩ := pysV_reads hS J rel (fun i a p => DF hS J rel n i a p) xs vs its ps h3 rv e1
   refine ⟨_, Reads.list ho hc hd hr, fun hm => ?_⟩
   rcases bu.mp hm with e | e
   ·obtain ⟨o2, h1, h2⟩ := hS
    have := J.kIn _ _ h1
    rw [e, ho] at this
    cases this
    rw [h2] at hc
    exact absurd (Value.type.inj hc) (by decide)
   ·exact ns e
  ·cases e
def LS (d : D) (w : W) : Option Str := match d.EJ (R3 8 w) with
 | some p => if p.showable = true ∧ p.depth ≤ 60 ∧ p.shown.length ≤ sizeLine then some p.shown else none
 | none => none
def n7 : MF := fun ds w => match ds with
 | [d] => (match LS d w with
  | some z => .ok (.str z) w
  | none => .bad)
 | _ => .bad
theorem AR {S : aP} (hS : MW S.K) : CB S (.builtin "repr") n7 := fun X E c xo pins s σ H vs us Q J r ⟨I, F, G, ds, w, rel, rl, p⟩ => by
 have hS' : MW X.K := by rw [c.K]; exact hS
 unfold n7 at p
 split at p
 ·rename_i d
  obtain ⟨v, rfl, rv⟩ := rl.one
  obtain ⟨u, rfl, ru⟩ := vals1 r
  split at p
  ·rename_i z hz
   unfold LS at hz
   split at hz
   ·rename_i q hq
    split at hz
    ·rename_i hc
     cases hz
     obtain ⟨c1, c3, c4⟩ := hc
     obtain ⟨as, rd, ns⟩ := K5 hS' J rel (fun i a p => DF hS' J rel 8 i a p) d v u q rv ru hq
     have fin : ∀ (h' : Heap) (t tk : Nat), (∀ b o, s.heap.get? b = some o → h'.get? b = some o) → EP X pins σ Q (.str q.shown t) { s with heap := h', toks := tk } := fun h' t tk hk => ⟨.str q.shown, H, J.kept hk, ⟨_, rfl⟩, p.n5 rel (by simp [aI])⟩
     cases u with
     | ref a => exact repr_of_reads' rd c1 (fun _ => ns) c.OQ (by have := c.room.units; omega) (fun _ _ h => h) (fun h' t tk hk => fin h' t tk hk) c4
     | none => cases rd; exact PySem.P.repr_of_none (by have := fin s.heap s.toks (s.toks + 1) fun _ _ h => h; simpa [PyData.shown] using this)
     | bool b => cases rd; exact PySem.P.repr_of_bool (by have := fin s.heap s.toks (s.toks + 1) fun _ _ h => h; simpa [PyData.shown] using this)
     | int i t => cases rd; exact PySem.P.repr_of_int (by simpa [PyData.showable] using c1) (by have := fin s.heap s.toks (s.toks + 1) fun _ _ h => h; simpa [PyData.shown] using this)
     | str x t => cases rd; exact PySem.P.repr_of_str (by have := fin s.heap s.toks (s.toks + 1) fun _ _ h => h; simpa [PyData.shown] using this) (by simpa [PyData.shown] using c4)
     | _ => cases rd
    ·cases hz
   ·cases hz
  ·exact p.elim
 ·exact p.elim
def AU : List D → Option (List Str)
 | [] => some []
 | .str x :: ds => (AU ds).map fun xs => x :: xs
 | _ :: _ => none
theorem KU {K : PySem.W.Frag} {I : List Addr} {F : Hp} : ∀ {ds : List D} {vs : List V} {ys : List Str}, RepL K I F ds vs → AU ds = some ys → vs = ys.map V.str
 | [], vs, ys, r, e => by
  simp only [AU, ah] at e
  subst e
  simp only [RepL] at r
  exact r
 | d :: ds, vs, ys, r, e => by
  cases d <;> simp only [AU, au, reduceCtorEq] at e
  rename_i x
  obtain ⟨xs, e1, rfl⟩ := e
  simp only [RepL, aI] at r
  obtain ⟨v, t, rfl, rfl, r2⟩ := r
  rw [cg, KU r2 e1]
def joinM : ZO := fun d ds w => match d, ds with
 | .str a, [y] => (match (y.items w).bind AU with
  | some ys => if (ys.map (·.length)).sum + ys.length * a.length ≤ 16777216 then .ok (.str (Txt.join a ys)) w else .bad
  | none => .bad)
 | _, _ => .bad
theorem WI {S : aP} : MB S "str.join" joinM := KI fun X E c xo I F G d ds w H x vs Q rel rd rl p => by
 unfold joinM at p
 split at p
 ·rename_i a y
  simp only [aI] at rd
  subst rd
  obtain ⟨v, rfl, rv⟩ := rl.one
  split at p
  ·rename_i ys hy
   obtain ⟨xs, h1, h2⟩ := dz.mp hy
   obtain ⟨b, us, rfl, h3, h4⟩ := AE rel rv h1
   obtain rfl := KU h4 h2
   split at p
   ·rename_i hz
    exact ⟨_, mt_join, a, b, ys, rfl, rfl, h3, hz, p.n5 rel (by simp [aI])⟩
   ·exact p.elim
  ·exact p.elim
 ·exact p.elim
def X3 (d : D) (w : W) : Res D := match d with
 | .str y => if (reprText y).length ≤ sizeLine then .ok (.str (reprText y)) w else .bad
 | .int i => if i.natAbs.log2 < 1920 then .ok (.str (toString i)) w else .bad
 | _ => .bad
def KC (m : ME) : ME := fun σ w => (m σ w).bind X3
theorem aDT {S : aP} {e : Expr} {m : ME} {pos : Pos} (h : JE S e m) : JE S (.FormattedValue e 114 none pos) (KC m) := fun X E cx xo =>
 cR (pe_fmtR (h X E cx xo)) fun σ H Q ⟨I, F, G, ds, w, rel, rs, p⟩ => bY (f := fun _ => X3) rel rs p fun I1 F1 H1 d w1 v e1 rel1 rs1 rv p1 => by
  unfold X3 at p1
  split at p1
  ·rename_i y
   simp only [aI] at rv
   subst rv
   split at p1
   ·rename_i hz
    exact .inl ⟨y, rfl, hz, p1 I1 F1 H1 .refl rel1 _ (by simp [aI])⟩
   ·exact p1.elim
  ·rename_i i
   simp only [aI] at rv
   subst rv
   split at p1
   ·rename_i hz
    exact .inr ⟨i, rfl, hz, p1 I1 F1 H1 .refl rel1 _ (by simp [aI])⟩
   ·exact p1.elim
  ·exact p1.elim
abbrev MJ := Str → Sg → W → Res D
def aAd : MJ := fun acc _ w => .ok (.str acc) w
def xS (m : ME) (r : MJ) : MJ := fun acc σ w => (m σ w).bind fun d w1 => match d with
 | .str y => if (acc ++ y).length ≤ sizeLine then r (acc ++ y) σ w1 else .bad
 | _ => .bad
def eFs (r : MJ) : ME := fun σ w => r Str.empty σ w
def aHm (K : PySem.W.Frag) (E : XK) (r : Sg → W → Res D) : L2.St → Hp → (Str → Hp → Prop) → Prop := fun σ H Q => ∃ I F G ds w, Rel K I F G w H ∧ gF K I F ds σ ∧ aY K I F G E (RV K fun v H' => ∃ y, v = .str y ∧ Q y H') (r ds w)
def JFs (S : aP) (es : List Expr) (r : MJ) : Prop := ∀ X E, Ctx S X → pI X E → ∃ ts, PJ X es ts ∧ ∀ acc σ H Q, aHm X.K E (r acc) σ H Q → tJs ts acc σ H Q
section
variable {S : aP} {e v1 v2 : Expr} {es : List Expr} {m : ME} {r : MJ} {pos : Pos}
theorem aFJ : JFs S [] aAd := fun X E cx xo => ⟨[], .nil, fun acc σ H Q ⟨I, F, G, ds, w, rel, rs, p⟩ => by
 obtain ⟨y, e, q⟩ := p I F H .refl rel (.str acc) (by simp [aI])
 cases e
 exact q⟩
theorem LP (h : JE S e m) (hr : JFs S es r) : JFs S (e :: es) (xS m r) := fun X E cx xo => by
 obtain ⟨ts, h1, h2⟩ := hr X E cx xo
 refine ⟨sQ X.K E m :: ts, .cons (h X E cx xo) h1, fun acc σ H Q ⟨I, F, G, ds, w, rel, rs, p⟩ => ?_⟩
 refine bY (f := fun ds d w1 => match d with
  | .str y => if (acc ++ y).length ≤ sizeLine then r (acc ++ y) ds w1 else .bad
  | _ => .bad) rel rs p fun I1 F1 H1 d w1 v e1 rel1 rs1 rv p1 => ?_
 split at p1
 ·rename_i y
  simp only [aI] at rv
  subst rv
  split at p1
  ·rename_i hz
   exact ⟨y, rfl, hz, h2 _ _ _ _ ⟨I1, F1, G, ds, w1, rel1, rs1, p1⟩⟩
  ·exact p1.elim
 ·exact p1.elim
theorem aHj (h : JFs S (v1 :: v2 :: es) r) (hs : ∀ acc σ w, ∀ d w', r acc σ w = .ok d w' → ∃ y, d = .str y) : JE S (.JoinedStr (v1 :: v2 :: es) pos) (eFs r) := fun X E cx xo => by
 obtain ⟨ts, h1, h2⟩ := h X E cx xo
 refine cR (pe_joined h1) fun σ H Q ⟨I, F, G, ds, w, rel, rs, p⟩ => h2 _ _ _ _ ⟨I, F, G, ds, w, rel, rs, ?_⟩
 unfold eFs at p
 cases hr : r Str.empty ds w with
 | ok d w1 =>
  rw [hr] at p
  obtain ⟨y, rfl⟩ := hs _ _ _ _ _ hr
  exact fun I' F' H' e rel' v rv => by
   have rv0 := rv
   simp only [aI] at rv
   subst rv
   exact ⟨y, rfl, p I' F' H' e rel' _ rv0⟩
 | HW x w1 =>
  rw [hr] at p
  exact p
 | bad =>
  rw [hr] at p
  exact p.elim
theorem aBz : ∀ (acc : Str) (σ : Sg) (w : W) (d : D) (w' : W), aAd acc σ w = .ok d w' → ∃ y, d = .str y := fun acc σ w d w' h => by
 unfold aAd at h
 cases h
 exact ⟨_, rfl⟩
theorem C3 (hr : ∀ (acc : Str) (σ : Sg) (w : W) (d : D) (w' : W), r acc σ w = .ok d w' → ∃ y, d = .str y) : ∀ (acc : Str) (σ : Sg) (w : W) (d : D) (w' : W), xS m r acc σ w = .ok d w' → ∃ y, d = .str y := fun acc σ w d w' h => by
 unfold xS at h
 cases hm : m σ w with
 | ok x w1 =>
  rw [hm] at h
  simp only [Res.BG] at h
  split at h
  ·split at h
   ·exact hr _ _ _ _ _ h
   ·cases h
  ·cases h
 | HW x w1 => rw [hm] at h; cases h
 | bad => rw [hm] at h; cases h
end
def GX (nm : MF) (C : Addr) (m : MF) : MF := fun ds w => match ds with
 | [.ref i] => (match w[i]? with
  | some (.ins C' _) => if C' = C then (m [.ref i] w).bind fun d w1 => (match d with
    | .str z => .ok (.str z) w1
    | _ => .bad) else .bad
  | _ => nm [.ref i] w)
 | _ => nm ds w
section
variable {S : aP} {k n : Nat} {f C : Addr} {fd : FuncData} {ps : List Str} {m : MF}
theorem X4 {X : Cx} {E : XK} {pins : List (Addr × Obj)} {σ : L2.St} {H : Hp} {s : Shared} {Q : VK} {A' : Around} (xo : pI X E) (Gf : eW X.prog X.w X.K X.mg X.base k f fd ps m) (B : bO X.K fd ps 1 [] aM) (room : Room k A') (OQ : A'.guards = some []) (env : Env0 X.prog X.w X.K X.mg X.base A' X.stack s H) (J : Inv X pins σ H s) {I : List Addr} {F G : Hp} {w : W} (rel : Rel X.K I F G w H) {i : Nat} {a : Addr} (rl : RepL X.K I F [.ref i] [.ref a])
  (p : aY X.K I F G E (RV X.K Q) ((m [.ref i] w).bind fun d w1 => match d with
    | .str z => .ok (.str z) w1
    | _ => .bad)) : wpAny (model X.prog X.w) A' (call (.ref f) [.ref a]) (PySem.W.StrBack (EP X pins σ Q)) X.xe s := by
 obtain ⟨⟨g, gV, kb, rep⟩, bl⟩ := B
 have r1 : Vals [V.ref a] [Value.ref a] := .cons rfl .nil
 have r2 := kb.rel r1 (.nil : Vals [] [])
 have r3 := rep I F [.ref i] [.ref a] [] [] rl (by simp [RepL])
 have hl : (gV [V.ref a] []).length = ps.length := by
  rw [← r3.length]
  exact bl [.ref i] [] rfl rfl
 have pp : aY X.K I F G E (RV X.K fun v H2 => ∃ z : Str, v = .str z ∧ Q (.str z) H2) (m (aM [.ref i] []) w) := by
  refine (aY.bind p).mono fun I1 F1 H1 d w1 _ e1 rel1 p1 v rv => ?_
  cases d <;> first | exact p1.elim | skip
  rename_i z hh
  simp only [aI] at rv
  subst rv
  exact ⟨z, rfl, p1.n5 rel1 (by simp [aI])⟩
 have run : wpAny (model X.prog X.w) A' (call (.ref f) [.ref a]) (EP X pins σ fun v H2 => ∃ z : Str, v = .str z ∧ Q (.str z) H2) X.xe s := by
  refine wpAny_call (codeAny_mono (Gf.run A' X.stack s H ⟨[.ref a], []⟩ (g [.ref a] []) (gV [.ref a] []) _ E room OQ env (kb.to s [.ref a] [] J.kIn rfl rfl) r2 hl ⟨I, F, G, _, w, rel, r3, pp⟩) fun fl s' hq => ?_)
  cases fl with
  | error e => exact passes_call xo.tk (fun _ _ _ _ h => h) pins σ H s e s' J hq
  | ok fl =>
   cases fl with
   | ret u => exact J.after hq
   | next => exact hq.elim
   | brk => exact hq.elim
   | cont => exact hq.elim
 refine wpAny_mono run (fun u s1 hq => ?_) fun _ _ y => y
 obtain ⟨v, H2, J2, rv2, z, rfl, q⟩ := hq
 obtain ⟨t, rfl⟩ : ∃ t, u = Value.str z t := rv2
 exact ⟨.str z, H2, J2, ⟨t, rfl⟩, q⟩
theorem W9 (hk : k + 2 ≤ S.k) (hs : Meth S.K C "__str__" f) (Gf : eW S.P S.w S.K S.mg S.base k f fd ps m) (B : bO S.K fd ps 1 [] aM) : CB S (.type "str") (GX zD C m) :=
 fun X E cx xo pins s σ H vs us Q J r ⟨I, F, G, ds, w, rel, rl, p⟩ => by
  have old : ∀ {ds : List D}, RepL X.K I F ds vs → aY X.K I F G E (RV X.K Q) (zD ds w) → wpAny (model X.prog X.w) X.A (call (.type "str") us) (EP X pins σ Q) X.xe s := fun rl p => (aAP (S := S)) X E cx xo pins s σ H vs us Q J r ⟨I, F, G, _, w, rel, rl, p⟩
  unfold GX at p
  split at p
  ·rename_i i
   split at p
   ·rename_i C' fs hw
    split at p
    ·rename_i hC
     subst hC
     obtain ⟨v, rfl, rv⟩ := rl.one
     obtain ⟨u, rfl, ru⟩ := vals1 r
     have rv0 := rv
     simp only [aI] at rv
     obtain ⟨a, rfl, hi⟩ := rv
     obtain rfl : u = Value.ref a := ru
     obtain ⟨ob, hu, dx, rr, rfl, hr⟩ := rel.ob i a _ hi hw
     obtain ⟨mA, O, _, _, _, _⟩ := ins_get J.hok hu
     obtain ⟨od, IA, _⟩ := O.look
     have Gf' : eW X.prog X.w X.K X.mg X.base k f fd ps m := by rw [cx.P, cx.w, cx.K, cx.mg, cx.base]; exact Gf
     have hs' : Meth X.K C' "__str__" f := by rw [cx.K]; exact hs
     have B' : bO X.K fd ps 1 [] aM := by rw [cx.K]; exact B
     have room : Room k X.A.in1.in1 := (cx.room.mono hk).in1.in1
     exact PySem.W.kso_call (by have := (cx.room.mono hk).in1.in1.units0; exact this) J.kIn IA hs'.at_ hs'.fn (X4 xo Gf' B' room cx.OQ J.env0.in1.in1 J rel rl p)
    ·exact p.elim
   ·exact old rl p
  ·exact old rl p
theorem aAL (hk : k + 1 ≤ S.k) (hs : Meth S.K C "__repr__" f) (Gf : eW S.P S.w S.K S.mg S.base k f fd ps m) (B : bO S.K fd ps 1 [] aM) : CB S (.builtin "repr") (GX qZ C m) :=
 fun X E cx xo pins s σ H vs us Q J r ⟨I, F, G, ds, w, rel, rl, p⟩ => by
  have old : ∀ {ds : List D}, RepL X.K I F ds vs → aY X.K I F G E (RV X.K Q) (qZ ds w) → wpAny (model X.prog X.w) X.A (call (.builtin "repr") us) (EP X pins σ Q) X.xe s := fun rl p => (zU (S := S)) X E cx xo pins s σ H vs us Q J r ⟨I, F, G, _, w, rel, rl, p⟩
  unfold GX at p
  split at p
  ·rename_i i
   split at p
   ·rename_i C' fs hw
    split at p
    ·rename_i hC
     subst hC
     obtain ⟨v, rfl, rv⟩ := rl.one
     obtain ⟨u, rfl, ru⟩ := vals1 r
     have rv0 := rv
     simp only [aI] at rv
     obtain ⟨a, rfl, hi⟩ := rv
     obtain rfl : u = Value.ref a := ru
     obtain ⟨ob, hu, dx, rr, rfl, hr⟩ := rel.ob i a _ hi hw
     obtain ⟨mA, O, _, _, _, _⟩ := ins_get J.hok hu
     obtain ⟨od, IA, _⟩ := O.look
     have Gf' : eW X.prog X.w X.K X.mg X.base k f fd ps m := by rw [cx.P, cx.w, cx.K, cx.mg, cx.base]; exact Gf
     have hs' : Meth X.K C' "__repr__" f := by rw [cx.K]; exact hs
     have B' : bO X.K fd ps 1 [] aM := by rw [cx.K]; exact B
     have room : Room k X.A.in1 := (cx.room.mono hk).in1
     obtain ⟨mm, hF⟩ := J.fr
     exact PySem.W.repr_K room.units0 hF J.ok.mod.kin IA hs'.at_ hs'.fn (X4 xo Gf' B' room cx.OQ J.env0.in1 J rel rl p)
    ·exact p.elim
   ·exact old rl p
  ·exact old rl p
end
def eZ (K : PySem.W.Frag) (C : Addr) : Prop := ∀ T ∈ (["int", "bool", "str", "NoneType", "tuple", "list", "dict"] : List String), PySem.W.notFirst K C (.type T) = true
def aCe (K : PySem.W.Frag) (C : Addr) : Bool := (["int", "bool", "str", "NoneType", "tuple", "list", "dict"] : List String).all fun T => PySem.W.notFirst K C (.type T)
theorem YT {K : PySem.W.Frag} {C : Addr} (h : aCe K C = true) : eZ K C := fun T hT => bg.mp h T hT
def gK : D → Bool
 | .non | .bl _ | .int _ | .str _ | .tup _ | .lst _ | .xO _ _ => true
 | _ => false
def eqL (C : Addr) (m : MF) : D → D → W → Res D := fun x y w => match x with
 | .ref i => (match w[i]? with
  | some (.ins C1 _) => if C1 = C ∧ gK y = true then m [.ref i, y] w else .bad
  | _ => .bad)
 | _ => .bad
theorem wH {X : Cx} {pins : List (Addr × Obj)} {σ : L2.St} {H : Hp} {s : Shared} {I : List Addr} {F G : Hp} {w : W} {b : Addr} {kvs : List (Key × V)} (J : Inv X pins σ H s) (rel : Rel X.K I F G w H) (h : Rd F b (.dK kvs)) : ∃ o es n, s.heap.get? b = some o ∧ o.ExactDict ∧ o.data = .dict es n := by
 have ok2 : ObjOk X.prog X.w H s.heap b (.dK kvs) := by
  rcases h with h | ⟨o, h⟩
  ·exact J.hok b _ (rel.fz _ _ h)
  ·exact (J.hok b _ (rel.fz _ _ h)).2
 obtain ⟨_, _, _, _, o, es, n, e1, e2, e3, _⟩ := ok2
 exact ⟨o, es, n, e1, e2, e3⟩
theorem cD {M : Model} {h : Heap} {v : Value} {T : String} (ht : ∀ s : Shared, (∀ b o, h.get? b = some o → s.heap.get? b = some o) → s.TypeIs v T) : PySem.W.Looks M h (typeOf v) (.type T) := fun A Q E s k q => wpAny_typeOf (ht s k) q
theorem aFp {S : aP} {k : Nat} {f C : Addr} {fd : FuncData} {ps : List Str} {m : MF} (hk : k ≤ S.k) (hl : eZ S.K C) (hs : Meth S.K C "__eq__" f) (Gf : eW S.P S.w S.K S.mg S.base k f fd ps m) (B : bO S.K fd ps 2 [] aM) : O2 S (compareOp .Eq) (eqL C m) :=
 fun X E c xo pins s σ H x y v u Q J rx ry ⟨I, F, G, d, e, w, rel, rd, re, p⟩ => by
  unfold eqL at p
  split at p
  ·rename_i i
   split at p
   ·rename_i C1 fs hw1
    split at p
    ·rename_i hC
     obtain ⟨h1, hy⟩ := hC
     subst h1
     have rd0 := rd
     have re0 := re
     simp only [aI] at rd
     obtain ⟨a, rfl, hi⟩ := rd
     obtain rfl : v = Value.ref a := rx
     obtain ⟨u1, hu1, dx, r1, rfl, hr1⟩ := rel.ob i a _ hi hw1
     obtain ⟨mA, O, _⟩ := ins_get J.hok hu1
     obtain ⟨od, O, _⟩ := O.look
     obtain ⟨mm, hF⟩ := J.fr
     have hs' : Meth X.K C1 "__eq__" f := by rw [c.K]; exact hs
     have Gf' : eW X.prog X.w X.K X.mg X.base k f fd ps m := by rw [c.P, c.w, c.K, c.mg, c.base]; exact Gf
     have B' : bO X.K fd ps 2 [] aM := by rw [c.K]; exact B
     have hl' : eZ X.K C1 := by rw [c.K]; exact hl
     obtain ⟨T, hT, ht⟩ : ∃ T ∈ (["int", "bool", "str", "NoneType", "tuple", "list", "dict"] : List String), PySem.W.Looks (model X.prog X.w) s.heap (typeOf u) (.type T) := by
      cases e <;> simp only [gK, ax] at hy <;> simp only [aI] at re
      case non =>
       subst re
       obtain rfl : u = Value.none := ry
       exact ⟨"NoneType", by decide, cD fun s' _ => rfl⟩
      case bl b =>
       subst re
       obtain rfl : u = Value.bool b := ry
       exact ⟨"bool", by decide, cD fun s' _ => rfl⟩
      case int n =>
       subst re
       obtain ⟨t, rfl⟩ := ry
       exact ⟨"int", by decide, cD fun s' _ => rfl⟩
      case str n =>
       subst re
       obtain ⟨t, rfl⟩ := ry
       exact ⟨"str", by decide, cD fun s' _ => rfl⟩
      case tup xs =>
       obtain ⟨b, vs, rfl, h1, h2⟩ := re
       obtain rfl : u = Value.ref b := ry
       obtain ⟨its, rv, ⟨o, ho, hc, _⟩, _⟩ := J.tuple (.of (rel.fz _ _ h1))
       exact ⟨"tuple", by decide, cD fun s' k => ⟨o, k _ _ ho, hc⟩⟩
      case lst xs =>
       obtain ⟨b, vs, rfl, h1, h2⟩ := re
       obtain rfl : u = Value.ref b := ry
       obtain ⟨its, rv, ⟨o, n0, ho, hc, _⟩, _⟩ := J.list (.of (rel.fz _ _ h1))
       exact ⟨"list", by decide, cD fun s' k => ⟨o, k _ _ ho, hc⟩⟩
      case xO ks xs =>
       obtain ⟨b, kvs, rfl, h1, _, _⟩ := re
       obtain rfl : u = Value.ref b := ry
       obtain ⟨o, es, n, e1, e2, _⟩ := wH J rel h1
       exact ⟨"dict", by decide, cD fun s' k => ⟨o, k _ _ e1, e2.1⟩⟩
     refine PySem.W.cmp_K (op := .Eq) (tb := .type T) (c.room.mono hk).units0 hF J.ok.mod.kin O ht (hl' T hT) hs'.at_ hs'.fn ?_
     refine PySem.wpAny_mono (QX (ks := []) (ws := []) (zs := []) (ys := []) (us := [.ref a, u]) (vs := [.ref a, y]) (xs := [.ref i, e]) xo Gf' B' (c.room.mono hk) c.OQ J rel (RepL.cons rd0 (RepL.cons re0 (by simp [RepL]))) (by simp [RepL]) (.cons rfl (.cons ry .nil)) .nil rfl rfl p) (fun z s2 hz => ?_) fun _ _ z => z
     obtain ⟨v0, H2, J2, r2, q2⟩ := hz
     exact SlX.cmpback r2 ⟨v0, H2, J2, r2, q2⟩
    ·exact p.elim
   ·exact p.elim
  ·exact p.elim
theorem nT (b : Int) (u : Tok) (l C dx : Addr) :
  Meets (Builtin.«int.__eq__» ⟨[.int b u, .ref l], []⟩) (fun _ R s => s.heap.get? l = some (PySem.W.instObj C dx) ∧ R (.ok (.ret .notImplemented)) s) :=
 .of_wp fun prog w A R s h => by
  obtain ⟨hp, g, d, tk, os⟩ := s
  obtain ⟨hl, h⟩ := h
  wp_walk using wpAny_loadPart' hl, wpAny_load hl
  exact ⟨_, rfl, h⟩
theorem nX (b : Str) (u : Tok) (l C dx : Addr) :
  Meets (Builtin.«str.__eq__» ⟨[.str b u, .ref l], []⟩) (fun _ R s => s.heap.get? l = some (PySem.W.instObj C dx) ∧ R (.ok (.ret .notImplemented)) s) :=
 .of_wp fun prog w A R s h => by
  obtain ⟨hp, g, d, tk, os⟩ := s
  obtain ⟨hl, h⟩ := h
  wp_walk using wpAny_loadPart' hl, wpAny_load hl
  exact ⟨_, rfl, h⟩
theorem mZ (b : Bool) (l C dx : Addr) :
  Meets (Builtin.«int.__eq__» ⟨[.bool b, .ref l], []⟩) (fun _ R s => s.heap.get? l = some (PySem.W.instObj C dx) ∧ R (.ok (.ret .notImplemented)) s) :=
 .of_wp fun prog w A R s h => by
  obtain ⟨hp, g, d, tk, os⟩ := s
  obtain ⟨hl, h⟩ := h
  wp_walk using wpAny_loadPart' hl, wpAny_load hl
  exact ⟨_, rfl, h⟩
section
variable {prog : Program} {w : World} {A : Around} {E : Value → Shared → Prop} {s : Shared}
theorem k9 {b l C dx : Addr} {items : Array Value} {n : Nat} {dd : Option Addr} {sl : Array (Option Value)} {Q : Fin → Shared → Prop}
  (hb : s.heap.get? b = some { cls := .type "tuple", dict := dd, data := .seq items n, slots := sl }) (hl : s.heap.get? l = some (PySem.W.instObj C dx)) (hL : PySem.W.Looks (model prog w) s.heap (isSubtype (.ref C) (.type "tuple")) false) (h : Q (.done (.ret .notImplemented)) s) :
  wpAny (model prog w) A (Builtin.«tuple.__eq__» ⟨[.ref b, .ref l], []⟩) Q E s := by
 obtain ⟨hp, g, d, tk, os⟩ := s
 wp_walk using wpAny_loadPart' hb, wpAny_load hl, wpAny_loadPart' hl, hL.here
 exact h
theorem nL {b l C dx : Addr} {items : Array Value} {n : Nat} {dd : Option Addr} {sl : Array (Option Value)} {Q : Fin → Shared → Prop}
  (hb : s.heap.get? b = some { cls := .type "list", dict := dd, data := .seq items n, slots := sl }) (hl : s.heap.get? l = some (PySem.W.instObj C dx)) (hL : PySem.W.Looks (model prog w) s.heap (isSubtype (.ref C) (.type "list")) false) (h : Q (.done (.ret .notImplemented)) s) :
  wpAny (model prog w) A (Builtin.«list.__eq__» ⟨[.ref b, .ref l], []⟩) Q E s := by
 obtain ⟨hp, g, d, tk, os⟩ := s
 wp_walk using wpAny_loadPart' hb, wpAny_load hl, wpAny_loadPart' hl, hL.here
 exact h
theorem m7 {b l C dx : Addr} {o : Obj} {es : Array DictEntry} {n : Nat} {Q : Fin → Shared → Prop}
  (hb : s.heap.get? b = some o) (ho : o.ExactDict) (hd : o.data = .dict es n) (hl : s.heap.get? l = some (PySem.W.instObj C dx)) (hL : PySem.W.Looks (model prog w) s.heap (isSubtype (.ref C) (.type "dict")) false) (h : Q (.done (.ret .notImplemented)) s) :
  wpAny (model prog w) A (Builtin.«dict.__eq__» ⟨[.ref b, .ref l], []⟩) Q E s := by
 obtain ⟨hp, g, d, tk, os⟩ := s
 obtain ⟨cls, dd, data, sl⟩ := o
 obtain ⟨ho1, ho2, ho3⟩ := ho
 simp only at ho1 ho2 ho3 hd
 subst ho1 ho2 ho3 hd
 wp_walk using wpAny_loadPart' hb, wpAny_load hb, wpAny_load hl, wpAny_loadPart' hl, hL.here
 exact h
theorem JV {K : PySem.W.Frag} {a : Value} {x C f L : Addr} {T id : String} {h₀ : Heap} {m : Str → Option Value} {ox : Obj} {od : Option Obj} {Q : Value → Shared → Prop} (hu : A.units < cLine) (F : Fr h₀ L s.heap m) (X₀ : K.In h₀) (I : PySem.W.InstAt s.heap x ox C od) (ha : s.TypeIs a T)
  (hsub : PySem.W.subIn K (.ref C) (.type T) = some false) (h1 : Slot T (cmpInfo .Eq).2.1 id) (hdec : wpAny (model prog w) A (call (.builtin id) [a, .ref x]) (fun v s' => v = .notImplemented ∧ s' = s) E s)
  (hs : PySem.W.findIn K (.ref C) (cmpInfo .Eq).2.2 = some (some (.ref f))) (hf : PySem.W.isFn K (.ref f) = true)
  (h : wpAny (model prog w) A (call (.ref f) [.ref x, a]) (PySem.W.CmpBack Q) E s) : wpAny (model prog w) A (richCompare .Eq a (.ref x)) Q E s := by
 have X := X₀.keeps F.keep
 have one : wpAny (model prog w) A (tryCompare (.ref x) (cmpInfo .Eq).2.2 a) (fun r s' => ∃ v, r = some v ∧ Q v s') E s := by
  unfold tryCompare
  refine wpAny_bind (PySem.W.ifBound_K X I hs hf (wpAny_mono h (fun v s' hv => ?_) fun _ _ e => e))
  cases v <;> first | exact hv.elim | exact wpAny_pure ⟨_, rfl, hv⟩
 unfold richCompare
 simp only [ha.oneThing_none]
 refine wpAny_holding (wpAny_bind (wpAny_cRoomFor hu ?_))
 refine wpAny_bind (wpAny_typeOf ha (wpAny_bind (I.type.here ?_)))
 have hne : (Value.type T != Value.ref C) = true := rfl
 rw [if_pos hne]
 refine wpAny_bind ((PySem.W.looks_subIn X hsub).here ?_)
 simp only [ax, ab]
 refine wpAny_bind (wpAny_tryCompare_declines ha h1 (wpAny_mono hdec (fun v s' ⟨e1, e2⟩ => ⟨e1, ?_⟩) fun _ _ e => e))
 subst e2
 simp only [cc, ae]
 refine wpAny_bind (wpAny_mono one (fun r s2 z => ?_) fun _ _ e => e)
 obtain ⟨v, rfl, hq⟩ := z
 exact wpAny_pure hq
end
def lV (K : PySem.W.Frag) (C : Addr) : Prop := ∀ T ∈ (["int", "bool", "str", "NoneType", "tuple", "list", "dict"] : List String), PySem.W.subIn K (.ref C) (.type T) = some false
def XI (K : PySem.W.Frag) (C : Addr) : Bool := (["int", "bool", "str", "NoneType", "tuple", "list", "dict"] : List String).all fun T => PySem.W.subIn K (.ref C) (.type T) == some false
theorem TJ {K : PySem.W.Frag} {C : Addr} (h : XI K C = true) : lV K C := fun T hT => by
 have := bg.mp h T hT
 exact beq_iff_eq.mp this
def eqR (C : Addr) (m : MF) : D → D → W → Res D := fun x y w => match y with
 | .ref j => (match w[j]? with
  | some (.ins C1 _) => if C1 = C ∧ gK x = true then m [.ref j, x] w else .bad
  | _ => .bad)
 | _ => .bad
theorem aFd {S : aP} {k : Nat} {f C : Addr} {fd : FuncData} {ps : List Str} {m : MF} (hk : k ≤ S.k) (hl : lV S.K C) (hs : Meth S.K C "__eq__" f) (Gf : eW S.P S.w S.K S.mg S.base k f fd ps m) (B : bO S.K fd ps 2 [] aM) : O2 S (compareOp .Eq) (eqR C m) :=
 fun X E c xo pins s σ H x y v u Q J rx ry ⟨I, F, G, d, e, w, rel, rd, re, p⟩ => by
  unfold eqR at p
  split at p
  ·rename_i j
   split at p
   ·rename_i C1 fs hw1
    split at p
    ·rename_i hC
     obtain ⟨h1, hy⟩ := hC
     subst h1
     have rd0 := rd
     have re0 := re
     simp only [aI] at re
     obtain ⟨a, rfl, hi⟩ := re
     obtain rfl : u = Value.ref a := ry
     obtain ⟨u1, hu1, dx, r1, rfl, hr1⟩ := rel.ob j a _ hi hw1
     obtain ⟨_, _, _, hget, _⟩ := J.hok a _ hu1
     obtain ⟨mA, O, _⟩ := ins_get J.hok hu1
     obtain ⟨od, O, _⟩ := O.look
     obtain ⟨mm, hF⟩ := J.fr
     have hs' : Meth X.K C1 "__eq__" f := by rw [c.K]; exact hs
     have Gf' : eW X.prog X.w X.K X.mg X.base k f fd ps m := by rw [c.P, c.w, c.K, c.mg, c.base]; exact Gf
     have B' : bO X.K fd ps 2 [] aM := by rw [c.K]; exact B
     have hl' : lV X.K C1 := by rw [c.K]; exact hl
     have X1 := J.kIn
     obtain ⟨T, id, hT, ht, h1, hdec⟩ : ∃ T id, T ∈ (["int", "bool", "str", "NoneType", "tuple", "list", "dict"] : List String) ∧ s.TypeIs v T ∧ Slot T (cmpInfo .Eq).2.1 id ∧ wpAny (model X.prog X.w) X.A (call (.builtin id) [v, .ref a]) (fun z s' => z = .notImplemented ∧ s' = s) X.xe s := by
      cases d <;> simp only [gK, ax] at hy <;> simp only [aI] at rd
      case non =>
       subst rd
       obtain rfl : v = Value.none := rx
       exact ⟨"NoneType", _, by decide, rfl, PySem.F.slot_NoneType_eq, call_gives PySem.F.slot_NoneType_eq rfl PySem.F.entry_NoneType_eq (PySem.F.args_NoneType_eq_2 _ _) (SeqAt.NoneType___eq___none_ref_0 a) ⟨rfl, rfl⟩⟩
      case bl b =>
       subst rd
       obtain rfl : v = Value.bool b := rx
       exact ⟨"bool", _, by decide, rfl, PySem.F.slot_bool_eq, call_meets PySem.F.slot_bool_eq rfl PySem.F.entry_int_eq (PySem.F.args_int_eq_2 _ _) (mZ b a _ _) ⟨hget, rfl, rfl⟩⟩
      case int n =>
       subst rd
       obtain ⟨t, rfl⟩ := rx
       exact ⟨"int", _, by decide, rfl, PySem.F.slot_int_eq, call_meets PySem.F.slot_int_eq rfl PySem.F.entry_int_eq (PySem.F.args_int_eq_2 _ _) (nT n t a _ _) ⟨hget, rfl, rfl⟩⟩
      case str n =>
       subst rd
       obtain ⟨t, rfl⟩ := rx
       exact ⟨"str", _, by decide, rfl, PySem.F.slot_str_eq, call_meets PySem.F.slot_str_eq rfl PySem.F.entry_str_eq (PySem.F.args_str_eq_2 _ _) (nX n t a _ _) ⟨hget, rfl, rfl⟩⟩
      case tup xs =>
       obtain ⟨b, vs, rfl, h1, h2⟩ := rd
       obtain rfl : v = Value.ref b := rx
       obtain ⟨its, rv, ⟨⟨cls, dd, data, sl⟩, ho, hc, n0, hd⟩, _⟩ := J.tuple (.of (rel.fz _ _ h1))
       simp only at hc hd
       subst hc hd
       exact ⟨"tuple", _, by decide, ⟨_, ho, rfl⟩, PySem.F.slot_tuple_eq, wpAny_call_entry PySem.F.slot_tuple_eq ⟨_, ho, rfl⟩ PySem.F.entry_tuple_eq (k9 ho hget (PySem.W.looks_subIn X1 (hl' "tuple" (by decide))) ⟨_, rfl, rfl, rfl⟩) (PySem.F.args_tuple_eq_2 _ _)⟩
      case lst xs =>
       obtain ⟨b, vs, rfl, h1, h2⟩ := rd
       obtain rfl : v = Value.ref b := rx
       obtain ⟨its, rv, ⟨⟨cls, dd, data, sl⟩, n0, ho, hc, _, hd⟩, _⟩ := J.list (.of (rel.fz _ _ h1))
       simp only at hc hd
       subst hc hd
       exact ⟨"list", _, by decide, ⟨_, ho, rfl⟩, PySem.F.slot_list_eq, wpAny_call_entry PySem.F.slot_list_eq ⟨_, ho, rfl⟩ PySem.F.entry_list_eq (nL ho hget (PySem.W.looks_subIn X1 (hl' "list" (by decide))) ⟨_, rfl, rfl, rfl⟩) (PySem.F.args_list_eq_2 _ _)⟩
      case xO ks xs =>
       obtain ⟨b, kvs, rfl, h1, _, _⟩ := rd
       obtain rfl : v = Value.ref b := rx
       obtain ⟨o, es, n, e1, e2, e3⟩ := wH J rel h1
       exact ⟨"dict", _, by decide, ⟨o, e1, e2.1⟩, PySem.F.slot_dict_eq, wpAny_call_entry PySem.F.slot_dict_eq ⟨o, e1, e2.1⟩ PySem.F.entry_dict_eq (m7 e1 e2 e3 hget (PySem.W.looks_subIn X1 (hl' "dict" (by decide))) ⟨_, rfl, rfl, rfl⟩) (PySem.F.args_dict_eq_2 _ _)⟩
     refine JV (c.room.mono hk).units0 hF J.ok.mod.kin O ht (hl' T hT) h1 hdec hs'.at_ hs'.fn ?_
     refine PySem.wpAny_mono (QX (ks := []) (ws := []) (zs := []) (ys := []) (us := [.ref a, v]) (vs := [.ref a, x]) (xs := [.ref j, d]) xo Gf' B' (c.room.mono hk) c.OQ J rel (RepL.cons re0 (RepL.cons rd0 (by simp [RepL]))) (by simp [RepL]) (.cons rfl (.cons rx .nil)) .nil rfl rfl p) (fun z s2 hz => ?_) fun _ _ z => z
     obtain ⟨v0, H2, J2, r2, q2⟩ := hz
     exact SlX.cmpback r2 ⟨v0, H2, J2, r2, q2⟩
    ·exact p.elim
   ·exact p.elim
  ·exact p.elim
def YA (c : D → D → W → Bool) (a b : D → D → W → Res D) : D → D → W → Res D := fun x y w => if c x y w = true then a x y w else b x y w
theorem LC {S : aP} {op : Value → Value → Sem Value} {c : D → D → W → Bool} {a b : D → D → W → Res D} (ha : O2 S op a) (hb : O2 S op b) : O2 S op (YA c a b) :=
 fun X E cx xo pins s σ H x y v u Q J rx ry ⟨I, F, G, d, e, w, rel, rd, re, p⟩ => by
  unfold YA at p
  split at p
  ·exact ha X E cx xo pins s σ H x y v u Q J rx ry ⟨I, F, G, d, e, w, rel, rd, re, p⟩
  ·exact hb X E cx xo pins s σ H x y v u Q J rx ry ⟨I, F, G, d, e, w, rel, rd, re, p⟩
def mP (x : D) (w : W) : Bool := match x with
 | .ref i => (match w[i]? with
  | some (.ins _ _) => true
  | _ => false)
 | _ => false
def eqQ (C : Addr) (m : MF) : D → D → W → Res D :=
 YA (fun x y w => mP x w && mP y w) (eqI C m) (YA (fun x _ w => mP x w) (eqL C m) (YA (fun _ y w => mP y w) (eqR C m) gO))
theorem aCD {S : aP} {k : Nat} {f C : Addr} {fd : FuncData} {ps : List Str} {m : MF} (hk : k ≤ S.k) (hl : eZ S.K C) (hn : lV S.K C) (hs : Meth S.K C "__eq__" f) (Gf : eW S.P S.w S.K S.mg S.base k f fd ps m) (B : bO S.K fd ps 2 [] aM) : O2 S (compareOp .Eq) (eqQ C m) :=
 LC (aGt hk hs Gf B) (LC (aFp hk hl hs Gf B) (LC (aFd hk hn hs Gf B) vM))
section
open PySem.W
variable {prog : Program} {w : World} {A : Around} {E : Value → Shared → Prop} {s : Shared} {K : PySem.W.Frag} {x C L f : Addr} {h₀ : Heap} {m : Str → Option Value} {ox : Obj} {od : Option Obj} {T : String} {yv : Value}
theorem OY (X : K.In s.heap) (I : InstAt s.heap x ox C od) (hs : findIn K (.ref C) "__eq__" = some (some (.ref f))) (hf : isFn K (.ref f) = true) (hu : A.units < cLine) {Q : Fin → Shared → Prop}
    (hcall : wpAny (model prog w) A (call (.ref f) [(.ref x), yv]) (fun v s' => ∃ b, v = .bool b ∧ Q (.done (.ret (.bool (!b)))) s') E s) :
    wpAny (model prog w) A (Builtin.«object.__ne__» ⟨[(.ref x), yv], []⟩) Q E s := by
  unfold Builtin.«object.__ne__»
  repeat (first
    | with_reducible refine wpAny_cRoomFor hu ?_
    | (refine wpAny_bind (m := callSpecialIfBound? (.ref x) (Str.ofString "__eq__") [yv])
        (ifBound_K X I hs hf (wpAny_mono hcall (fun r s' hr => by
          obtain ⟨b, rfl, hq⟩ := hr
          repeat (first | exact hq | exact wpAny_pure hq | exact wpAny_truthy_bool hq | (refine wpAny_bind (m := truthy (.bool _)) (wpAny_truthy_bool ?_)) | wp_step)) fun _ _ e => e)))
    | wp_step)
theorem aGg {Q : Value → Shared → Prop} (hu : A.units + 1 < cLine) (Fh : Fr h₀ L s.heap m) (X₀ : K.In h₀) (I : InstAt s.heap x ox C od) (hb : Looks (model prog w) s.heap (typeOf yv) (.type T)) (hk : notFirst K C (.type T) = true)
  (hn : findIn K (.ref C) "__ne__" = some (some (.builtin "object.__ne__"))) (hm : mroIn K C (.type "object") = some true) (hs : findIn K (.ref C) "__eq__" = some (some (.ref f))) (hf : isFn K (.ref f) = true)
  (h : wpAny (model prog w) A.in1 (call (.ref f) [.ref x, yv]) (fun v s' => ∃ b, v = .bool b ∧ Q (.bool (!b)) s') E s) : wpAny (model prog w) A (richCompare .NotEq (.ref x) yv) Q E s := by
 have X := X₀.keeps Fh.keep
 have one : wpAny (model prog w) A (tryCompare (.ref x) "__ne__" yv) (fun r s' => ∃ v, r = some v ∧ Q v s') E s := by
  unfold tryCompare
  refine wpAny_bind ?_
  simp only [callSpecialIfBound?, bindSpecialIfBound?]
  refine wpAny_holding (wpAny_bind (wpAny_bind (wpAny_bind (I.type.here ((looks_findIn X hn).here ?_)))))
  simp only [PySem.F.cmp_object.ne.bind]
  refine wpAny_bind (wpAny_askSetting (wpAny_ite ?_))
  have core : wpAny (model prog w) A (call (.builtin "object.__ne__") ([.ref x] ++ [yv])) (fun v s' => ∃ b : Bool, v = .bool b ∧ Q (.bool b) s') E s :=
   wpAny_call (codeAny_call_builtin PySem.F.cmp_object.ne.plain PySem.F.cmpEntry_ne
    (rY X I hm PySem.F.cmpKind_ne PySem.F.cmpSplit_ne (PySem.F.cmpArgs_ne _ _) (OY (A := A.in1) X I hs hf hu (wpAny_mono h (fun v s' hv => by
     obtain ⟨b, rfl, q⟩ := hv
     exact ⟨b, rfl, _, rfl, q⟩) fun _ _ e => e))))
  have fin : wpAny (model prog w) A (call (.builtin "object.__ne__") ([.ref x] ++ [yv]) >>= fun v => pure (some v)) (fun r s' => ∃ b : Bool, r = some (.bool b) ∧ Q (.bool b) s') E s :=
   wpAny_bind (wpAny_mono core (fun v s' ⟨b, e, q⟩ => wpAny_pure ⟨b, by rw [e], q⟩) fun _ _ e => e)
  split
  ·exact wpAny_bind (wpAny_pure (wpAny_pure (by
    refine wpAny_mono fin (fun r s' hr => ?_) fun _ _ e => e
    obtain ⟨b, rfl, q⟩ := hr
    exact wpAny_pure ⟨_, rfl, q⟩)))
  ·exact wpAny_tryCatch (wpAny_bind (wpAny_pure (wpAny_pure (by
    refine wpAny_mono fin (fun r s' hr => ?_) fun _ _ e => e
    obtain ⟨b, rfl, q⟩ := hr
    exact wpAny_pure ⟨_, rfl, q⟩))))
 unfold richCompare
 simp only [oneThing_ref]
 refine wpAny_holding (wpAny_bind (wpAny_cRoomFor (by omega) ?_))
 refine wpAny_bind (I.type.here (wpAny_bind (hb.here ?_)))
 have hne : (Value.ref C != Value.type T) = true := rfl
 rw [if_pos hne]
 have e : subIn K (.type T) (.ref C) = some false := by
  rcases Bool.or_eq_true_iff.mp hk with e | e
  ·cases beq_iff_eq.mp e
  ·exact beq_iff_eq.mp e
 refine wpAny_bind ((looks_subIn X e).here ?_)
 simp only [ax, ab]
 refine wpAny_bind (wpAny_mono one (fun r s' z => ?_) fun _ _ e => e)
 obtain ⟨v, rfl, hq⟩ := z
 exact wpAny_pure hq
end
def neL (C : Addr) (m : MF) : D → D → W → Res D := fun x y w => match x with
 | .ref i => (match w[i]? with
  | some (.ins C1 _) => if C1 = C ∧ gK y = true then (m [.ref i, y] w).bind fun d w1 => (match d with
    | .bl b => .ok (.bl (!b)) w1
    | _ => .bad) else .bad
  | _ => .bad)
 | _ => .bad
theorem aGS {S : aP} {k : Nat} {f C : Addr} {fd : FuncData} {ps : List Str} {m : MF} (hk : k + 1 ≤ S.k) (hl : eZ S.K C) (hn : L9 S.K C) (hs : Meth S.K C "__eq__" f) (Gf : eW S.P S.w S.K S.mg S.base k f fd ps m) (B : bO S.K fd ps 2 [] aM) : O2 S (compareOp .NotEq) (neL C m) :=
 fun X E c xo pins s σ H x y v u Q J rx ry ⟨I, F, G, d, e, w, rel, rd, re, p⟩ => by
  unfold neL at p
  split at p
  ·rename_i i
   split at p
   ·rename_i C1 fs hw1
    split at p
    ·rename_i hC
     obtain ⟨h1, hy⟩ := hC
     subst h1
     have rd0 := rd
     have re0 := re
     simp only [aI] at rd
     obtain ⟨a, rfl, hi⟩ := rd
     obtain rfl : v = Value.ref a := rx
     obtain ⟨u1, hu1, dx, r1, rfl, hr1⟩ := rel.ob i a _ hi hw1
     obtain ⟨mA, O, _⟩ := ins_get J.hok hu1
     obtain ⟨od, O, _⟩ := O.look
     obtain ⟨mm, hF⟩ := J.fr
     have hs' : Meth X.K C1 "__eq__" f := by rw [c.K]; exact hs
     have hn' : L9 X.K C1 := by rw [c.K]; exact hn
     have hl' : eZ X.K C1 := by rw [c.K]; exact hl
     obtain ⟨T, hT, ht⟩ : ∃ T ∈ (["int", "bool", "str", "NoneType", "tuple", "list", "dict"] : List String), PySem.W.Looks (model X.prog X.w) s.heap (typeOf u) (.type T) := by
      cases e <;> simp only [gK, ax] at hy <;> simp only [aI] at re
      case non =>
       subst re
       obtain rfl : u = Value.none := ry
       exact ⟨"NoneType", by decide, cD fun s' _ => rfl⟩
      case bl b =>
       subst re
       obtain rfl : u = Value.bool b := ry
       exact ⟨"bool", by decide, cD fun s' _ => rfl⟩
      case int n =>
       subst re
       obtain ⟨t, rfl⟩ := ry
       exact ⟨"int", by decide, cD fun s' _ => rfl⟩
      case str n =>
       subst re
       obtain ⟨t, rfl⟩ := ry
       exact ⟨"str", by decide, cD fun s' _ => rfl⟩
      case tup xs =>
       obtain ⟨b, vs, rfl, h1, h2⟩ := re
       obtain rfl : u = Value.ref b := ry
       obtain ⟨its, rv, ⟨o, ho, hc, _⟩, _⟩ := J.tuple (.of (rel.fz _ _ h1))
       exact ⟨"tuple", by decide, cD fun s' k => ⟨o, k _ _ ho, hc⟩⟩
      case lst xs =>
       obtain ⟨b, vs, rfl, h1, h2⟩ := re
       obtain rfl : u = Value.ref b := ry
       obtain ⟨its, rv, ⟨o, n0, ho, hc, _⟩, _⟩ := J.list (.of (rel.fz _ _ h1))
       exact ⟨"list", by decide, cD fun s' k => ⟨o, k _ _ ho, hc⟩⟩
      case xO ks xs =>
       obtain ⟨b, kvs, rfl, h1, _, _⟩ := re
       obtain rfl : u = Value.ref b := ry
       obtain ⟨o, es, n, e1, e2, _⟩ := wH J rel h1
       exact ⟨"dict", by decide, cD fun s' k => ⟨o, k _ _ e1, e2.1⟩⟩
     have Gf' : eW X.prog X.w X.K X.mg X.base k f fd ps m := by rw [c.P, c.w, c.K, c.mg, c.base]; exact Gf
     obtain ⟨⟨g, gV, kb, rep⟩, bl⟩ : bO X.K fd ps 2 [] aM := by rw [c.K]; exact B
     have r1 : Vals [V.ref a, y] [Value.ref a, u] := .cons rfl (.cons ry .nil)
     have r2 := kb.rel r1 (.nil : Vals [] [])
     have r3 := rep I F [.ref i, e] [.ref a, y] [] [] (RepL.cons rd0 (RepL.cons re0 (by simp [RepL]))) (by simp [RepL])
     have hl : (gV [V.ref a, y] []).length = ps.length := by
      rw [← r3.length]
      exact bl [.ref i, e] [] rfl rfl
     have room : Room k X.A.in1 := (c.room.mono hk).in1
     have pp : aY X.K I F G E (RV X.K fun v H2 => ∃ z : Bool, v = .bl z ∧ Q (.bl (!z)) H2) (m (aM [.ref i, e] []) w) := by
      refine (aY.bind p).mono fun I1 F1 H1 d w1 _ e1 rel1 p1 v rv => ?_
      cases d <;> first | exact p1.elim | skip
      rename_i z hh
      simp only [aI] at rv
      subst rv
      exact ⟨z, rfl, aY.n5 p1 rel1 (by simp [aI])⟩
     have run : wpAny (model X.prog X.w) X.A.in1 (call (.ref f) [.ref a, u]) (EP X pins σ fun v H2 => ∃ z : Bool, v = .bl z ∧ Q (.bl (!z)) H2) X.xe s := by
      refine wpAny_call (codeAny_mono (Gf'.run X.A.in1 X.stack s H ⟨[.ref a, u], []⟩ (g [.ref a, u] []) (gV [.ref a, y] []) _ E room c.OQ J.env0.in1 (kb.to s [.ref a, u] [] J.kIn rfl rfl) r2 hl ⟨I, F, G, _, w, rel, r3, pp⟩) fun fl s' hq => ?_)
      cases fl with
      | error e => exact passes_call xo.tk (fun _ _ _ _ h => h) pins σ H s e s' J hq
      | ok fl =>
       cases fl with
       | ret u => exact J.after hq
       | next => exact hq.elim
       | brk => exact hq.elim
       | cont => exact hq.elim
     refine aGg (by have := (c.room.mono hk).units; omega) hF J.ok.mod.kin O ht (hl' T hT) hn'.ne hn'.hm hs'.at_ hs'.fn (wpAny_mono run (fun z s2 hz => ?_) fun _ _ e => e)
     obtain ⟨v0, H2, J2, rv2, z0, rfl, q⟩ := hz
     obtain rfl : z = Value.bool z0 := rv2
     exact ⟨z0, rfl, .bl (!z0), H2, J2, rfl, q⟩
    ·exact p.elim
   ·exact p.elim
  ·exact p.elim
section
open PySem.W
variable {prog : Program} {w : World} {A : Around} {E : Value → Shared → Prop} {s : Shared} {K : PySem.W.Frag} {x C L f : Addr} {h₀ : Heap} {m : Str → Option Value} {ox : Obj} {od : Option Obj} {T id : String} {yv : Value}
theorem BS {a b : Value} {Q : Bool → Shared → Prop} (hne : (a == b) = false) (hr : (∃ l, a = .ref l) ∨ ∃ l, b = .ref l) (h : wpAny (model prog w) A (richCompare .Eq a b) (fun v s' => ∃ z, v = .bool z ∧ Q z s') E s) : wpAny (model prog w) A (eqBool a b) Q E s := by
 have fin : wpAny (model prog w) A (richCompare .Eq a b >>= fun r => truthOfDropped r) Q E s := wpAny_bind (wpAny_mono h (fun v s' ⟨z, e, q⟩ => by
  subst e
  unfold truthOfDropped
  wp_walk
  exact q) fun _ _ e => e)
 unfold eqBool
 refine wpAny_holding ?_
 rw [hne]
 simp only [ax, ab]
 rcases hr with ⟨l, rfl⟩ | ⟨l, rfl⟩
 ·exact fin
 ·cases a <;> exact fin
theorem aDr {Q : Value → Shared → Prop} (hu : A.units + 1 < cLine) (X : K.In s.heap) (I : InstAt s.heap x ox C od)
  (hn : findIn K (.ref C) "__ne__" = some (some (.builtin "object.__ne__"))) (hm : mroIn K C (.type "object") = some true) (hs : findIn K (.ref C) "__eq__" = some (some (.ref f))) (hf : isFn K (.ref f) = true)
  (h : wpAny (model prog w) A.in1 (call (.ref f) [.ref x, yv]) (fun v s' => ∃ b, v = .bool b ∧ Q (.bool (!b)) s') E s) : wpAny (model prog w) A (tryCompare (.ref x) "__ne__" yv) (fun r s' => ∃ v, r = some v ∧ Q v s') E s := by
 unfold tryCompare
 refine wpAny_bind ?_
 simp only [callSpecialIfBound?, bindSpecialIfBound?]
 refine wpAny_holding (wpAny_bind (wpAny_bind (wpAny_bind (I.type.here ((looks_findIn X hn).here ?_)))))
 simp only [PySem.F.cmp_object.ne.bind]
 refine wpAny_bind (wpAny_askSetting (wpAny_ite ?_))
 have core : wpAny (model prog w) A (call (.builtin "object.__ne__") ([.ref x] ++ [yv])) (fun v s' => ∃ b : Bool, v = .bool b ∧ Q (.bool b) s') E s :=
  wpAny_call (codeAny_call_builtin PySem.F.cmp_object.ne.plain PySem.F.cmpEntry_ne
   (rY X I hm PySem.F.cmpKind_ne PySem.F.cmpSplit_ne (PySem.F.cmpArgs_ne _ _) (OY (A := A.in1) X I hs hf hu (wpAny_mono h (fun v s' hv => by
    obtain ⟨b, rfl, q⟩ := hv
    exact ⟨b, rfl, _, rfl, q⟩) fun _ _ e => e))))
 have fin : wpAny (model prog w) A (call (.builtin "object.__ne__") ([.ref x] ++ [yv]) >>= fun v => pure (some v)) (fun r s' => ∃ b : Bool, r = some (.bool b) ∧ Q (.bool b) s') E s :=
  wpAny_bind (wpAny_mono core (fun v s' ⟨b, e, q⟩ => wpAny_pure ⟨b, by rw [e], q⟩) fun _ _ e => e)
 split
 ·exact wpAny_bind (wpAny_pure (wpAny_pure (by
   refine wpAny_mono fin (fun r s' hr => ?_) fun _ _ e => e
   obtain ⟨b, rfl, q⟩ := hr
   exact wpAny_pure ⟨_, rfl, q⟩)))
 ·exact wpAny_tryCatch (wpAny_bind (wpAny_pure (wpAny_pure (by
   refine wpAny_mono fin (fun r s' hr => ?_) fun _ _ e => e
   obtain ⟨b, rfl, q⟩ := hr
   exact wpAny_pure ⟨_, rfl, q⟩))))
theorem T5 {a : Value} {Q : Value → Shared → Prop} (hu : A.units + 1 < cLine) (F : Fr h₀ L s.heap m) (X₀ : K.In h₀) (I : InstAt s.heap x ox C od) (ha : s.TypeIs a T)
  (hsub : subIn K (.ref C) (.type T) = some false) (h1 : Slot T (cmpInfo .NotEq).2.1 id) (hdec : wpAny (model prog w) A (call (.builtin id) [a, .ref x]) (fun v s' => v = .notImplemented ∧ s' = s) E s)
  (hn : findIn K (.ref C) "__ne__" = some (some (.builtin "object.__ne__"))) (hm : mroIn K C (.type "object") = some true) (hs : findIn K (.ref C) "__eq__" = some (some (.ref f))) (hf : isFn K (.ref f) = true)
  (h : wpAny (model prog w) A.in1 (call (.ref f) [.ref x, a]) (fun v s' => ∃ b, v = .bool b ∧ Q (.bool (!b)) s') E s) : wpAny (model prog w) A (richCompare .NotEq a (.ref x)) Q E s := by
 have X := X₀.keeps F.keep
 have one : wpAny (model prog w) A (tryCompare (.ref x) (cmpInfo .NotEq).2.2 a) (fun r s' => ∃ v, r = some v ∧ Q v s') E s := aDr hu X I hn hm hs hf h
 unfold richCompare
 simp only [ha.oneThing_none]
 refine wpAny_holding (wpAny_bind (wpAny_cRoomFor (by omega) ?_))
 refine wpAny_bind (wpAny_typeOf ha (wpAny_bind (I.type.here ?_)))
 have hne : (Value.type T != Value.ref C) = true := rfl
 rw [if_pos hne]
 refine wpAny_bind ((looks_subIn X hsub).here ?_)
 simp only [ax, ab]
 refine wpAny_bind (wpAny_tryCompare_declines ha h1 (wpAny_mono hdec (fun v s' ⟨e1, e2⟩ => ⟨e1, ?_⟩) fun _ _ e => e))
 subst e2
 simp only [cc, ae]
 refine wpAny_bind (wpAny_mono one (fun r s2 z => ?_) fun _ _ e => e)
 obtain ⟨v, rfl, hq⟩ := z
 exact wpAny_pure hq
end
theorem xD (b : Int) (u : Tok) (l C dx : Addr) :
  Meets (Builtin.«int.__ne__» ⟨[.int b u, .ref l], []⟩) (fun _ R s => s.heap.get? l = some (PySem.W.instObj C dx) ∧ R (.ok (.ret .notImplemented)) s) :=
 .of_wp fun prog w A R s h => by
  obtain ⟨hp, g, d, tk, os⟩ := s
  obtain ⟨hl, h⟩ := h
  wp_walk using wpAny_loadPart' hl, wpAny_load hl
  exact ⟨_, rfl, h⟩
theorem xC (b : Str) (u : Tok) (l C dx : Addr) :
  Meets (Builtin.«str.__ne__» ⟨[.str b u, .ref l], []⟩) (fun _ R s => s.heap.get? l = some (PySem.W.instObj C dx) ∧ R (.ok (.ret .notImplemented)) s) :=
 .of_wp fun prog w A R s h => by
  obtain ⟨hp, g, d, tk, os⟩ := s
  obtain ⟨hl, h⟩ := h
  wp_walk using wpAny_loadPart' hl, wpAny_load hl
  exact ⟨_, rfl, h⟩
theorem vO (b : Bool) (l C dx : Addr) :
  Meets (Builtin.«int.__ne__» ⟨[.bool b, .ref l], []⟩) (fun _ R s => s.heap.get? l = some (PySem.W.instObj C dx) ∧ R (.ok (.ret .notImplemented)) s) :=
 .of_wp fun prog w A R s h => by
  obtain ⟨hp, g, d, tk, os⟩ := s
  obtain ⟨hl, h⟩ := h
  wp_walk using wpAny_loadPart' hl, wpAny_load hl
  exact ⟨_, rfl, h⟩
theorem xA (l C dx : Addr) :
  Meets (Builtin.«NoneType.__ne__» ⟨[.none, .ref l], []⟩) (fun _ R s => s.heap.get? l = some (PySem.W.instObj C dx) ∧ R (.ok (.ret .notImplemented)) s) :=
 .of_wp fun prog w A R s h => by
  obtain ⟨hp, g, d, tk, os⟩ := s
  obtain ⟨hl, h⟩ := h
  wp_walk using wpAny_loadPart' hl, wpAny_load hl
  exact ⟨_, rfl, h⟩
section
variable {prog : Program} {w : World} {A : Around} {E : Value → Shared → Prop} {s : Shared}
theorem tR {b l C dx : Addr} {items : Array Value} {n : Nat} {dd : Option Addr} {sl : Array (Option Value)} {Q : Fin → Shared → Prop}
  (hb : s.heap.get? b = some { cls := .type "tuple", dict := dd, data := .seq items n, slots := sl }) (hl : s.heap.get? l = some (PySem.W.instObj C dx)) (hL : PySem.W.Looks (model prog w) s.heap (isSubtype (.ref C) (.type "tuple")) false) (h : Q (.done (.ret .notImplemented)) s) :
  wpAny (model prog w) A (Builtin.«tuple.__ne__» ⟨[.ref b, .ref l], []⟩) Q E s := by
 obtain ⟨hp, g, d, tk, os⟩ := s
 wp_walk using wpAny_loadPart' hb, wpAny_load hl, wpAny_loadPart' hl, hL.here
 exact h
theorem t7 {b l C dx : Addr} {items : Array Value} {n : Nat} {dd : Option Addr} {sl : Array (Option Value)} {Q : Fin → Shared → Prop}
  (hb : s.heap.get? b = some { cls := .type "list", dict := dd, data := .seq items n, slots := sl }) (hl : s.heap.get? l = some (PySem.W.instObj C dx)) (hL : PySem.W.Looks (model prog w) s.heap (isSubtype (.ref C) (.type "list")) false) (h : Q (.done (.ret .notImplemented)) s) :
  wpAny (model prog w) A (Builtin.«list.__ne__» ⟨[.ref b, .ref l], []⟩) Q E s := by
 obtain ⟨hp, g, d, tk, os⟩ := s
 wp_walk using wpAny_loadPart' hb, wpAny_load hl, wpAny_loadPart' hl, hL.here
 exact h
theorem vR {b l C dx : Addr} {o : Obj} {es : Array DictEntry} {n : Nat} {Q : Fin → Shared → Prop}
  (hb : s.heap.get? b = some o) (ho : o.ExactDict) (hd : o.data = .dict es n) (hl : s.heap.get? l = some (PySem.W.instObj C dx)) (hL : PySem.W.Looks (model prog w) s.heap (isSubtype (.ref C) (.type "dict")) false) (h : Q (.done (.ret .notImplemented)) s) :
  wpAny (model prog w) A (Builtin.«dict.__ne__» ⟨[.ref b, .ref l], []⟩) Q E s := by
 obtain ⟨hp, g, d, tk, os⟩ := s
 obtain ⟨cls, dd, data, sl⟩ := o
 obtain ⟨ho1, ho2, ho3⟩ := ho
 simp only at ho1 ho2 ho3 hd
 subst ho1 ho2 ho3 hd
 wp_walk using wpAny_loadPart' hb, wpAny_load hb, wpAny_load hl, wpAny_loadPart' hl, hL.here
 exact h
end
theorem ET {S : aP} {X : Cx} {E : XK} {pins : List (Addr × Obj)} {σ : L2.St} {H : Hp} {s : Shared} {Q : VK} {k : Nat} {f : Addr} {fd : FuncData} {ps : List Str} {m : MF} {I : List Addr} {F G : Hp} {xs : List D} {w : W} {us : List Value} {vs : List V}
  (xo : pI X E) (c : Ctx S X) (hk : k + 1 ≤ S.k) (Gf : eW S.P S.w S.K S.mg S.base k f fd ps m) (B : bO S.K fd ps xs.length [] aM) (J : Inv X pins σ H s) (rel : Rel X.K I F G w H) (rx : RepL X.K I F xs vs) (r1 : Vals vs us)
  (p : aY X.K I F G E (RV X.K Q) (m xs w)) : wpAny (model X.prog X.w) X.A.in1 (call (.ref f) us) (EP X pins σ Q) X.xe s := by
 have Gf' : eW X.prog X.w X.K X.mg X.base k f fd ps m := by rw [c.P, c.w, c.K, c.mg, c.base]; exact Gf
 obtain ⟨⟨g, gV, kb, rep⟩, bl⟩ : bO X.K fd ps xs.length [] aM := by rw [c.K]; exact B
 have r2 := kb.rel r1 (.nil : Vals [] [])
 have r3 := rep I F xs vs [] [] rx (by simp [RepL])
 have hl : (gV vs []).length = ps.length := by
  rw [← r3.length]
  exact bl xs [] rfl rfl
 have room : Room k X.A.in1 := (c.room.mono hk).in1
 refine wpAny_call (codeAny_mono (Gf'.run X.A.in1 X.stack s H ⟨us, []⟩ (g us []) (gV vs []) Q E room c.OQ J.env0.in1 (kb.to s us [] J.kIn (by rw [← r1.length, ← rx.length]) rfl) r2 hl ⟨I, F, G, _, w, rel, r3, p⟩) fun fl s' hq => ?_)
 cases fl with
 | error e => exact passes_call xo.tk (fun _ _ _ _ h => h) pins σ H s e s' J hq
 | ok fl =>
  cases fl with
  | ret u => exact J.after hq
  | next => exact hq.elim
  | brk => exact hq.elim
  | cont => exact hq.elim
def aG4 (neg : Bool) (d : D) (w : W) : Res D := match d with
 | .bl b => .ok (.bl (b != neg)) w
 | _ => .bad
def neR (C : Addr) (m : MF) : D → D → W → Res D := fun x y w => match y with
 | .ref j => (match w[j]? with
  | some (.ins C1 _) => if C1 = C ∧ gK x = true then (m [.ref j, x] w).bind (aG4 true) else .bad
  | _ => .bad)
 | _ => .bad
theorem aFU {S : aP} {k : Nat} {f C : Addr} {fd : FuncData} {ps : List Str} {m : MF} (hk : k + 1 ≤ S.k) (hl : lV S.K C) (hn : L9 S.K C) (hs : Meth S.K C "__eq__" f) (Gf : eW S.P S.w S.K S.mg S.base k f fd ps m) (B : bO S.K fd ps 2 [] aM) : O2 S (compareOp .NotEq) (neR C m) :=
 fun X E c xo pins s σ H x y v u Q J rx ry ⟨I, F, G, d, e, w, rel, rd, re, p⟩ => by
  unfold neR at p
  split at p
  ·rename_i j
   split at p
   ·rename_i C1 fs hw1
    split at p
    ·rename_i hC
     obtain ⟨h1, hy⟩ := hC
     subst h1
     have rd0 := rd
     have re0 := re
     simp only [aI] at re
     obtain ⟨a, rfl, hi⟩ := re
     obtain rfl : u = Value.ref a := ry
     obtain ⟨u1, hu1, dx, r1, rfl, hr1⟩ := rel.ob j a _ hi hw1
     obtain ⟨_, _, _, hget, _⟩ := J.hok a _ hu1
     obtain ⟨mA, O, _⟩ := ins_get J.hok hu1
     obtain ⟨od, O, _⟩ := O.look
     obtain ⟨mm, hF⟩ := J.fr
     have hs' : Meth X.K C1 "__eq__" f := by rw [c.K]; exact hs
     have hn' : L9 X.K C1 := by rw [c.K]; exact hn
     have hl' : lV X.K C1 := by rw [c.K]; exact hl
     have X1 := J.kIn
     obtain ⟨T, id, hT, ht, h1, hdec⟩ : ∃ T id, T ∈ (["int", "bool", "str", "NoneType", "tuple", "list", "dict"] : List String) ∧ s.TypeIs v T ∧ Slot T (cmpInfo .NotEq).2.1 id ∧ wpAny (model X.prog X.w) X.A (call (.builtin id) [v, .ref a]) (fun z s' => z = .notImplemented ∧ s' = s) X.xe s := by
      cases d <;> simp only [gK, ax] at hy <;> simp only [aI] at rd
      case non =>
       subst rd
       obtain rfl : v = Value.none := rx
       exact ⟨"NoneType", _, by decide, rfl, PySem.F.slot_NoneType_ne, call_meets PySem.F.slot_NoneType_ne rfl PySem.F.entry_NoneType_ne (PySem.F.args_NoneType_ne_2 _ _) (xA a _ _) ⟨hget, rfl, rfl⟩⟩
      case bl b =>
       subst rd
       obtain rfl : v = Value.bool b := rx
       exact ⟨"bool", _, by decide, rfl, PySem.F.slot_bool_ne, call_meets PySem.F.slot_bool_ne rfl PySem.F.entry_int_ne (PySem.F.args_int_ne_2 _ _) (vO b a _ _) ⟨hget, rfl, rfl⟩⟩
      case int n =>
       subst rd
       obtain ⟨t, rfl⟩ := rx
       exact ⟨"int", _, by decide, rfl, PySem.F.slot_int_ne, call_meets PySem.F.slot_int_ne rfl PySem.F.entry_int_ne (PySem.F.args_int_ne_2 _ _) (xD n t a _ _) ⟨hget, rfl, rfl⟩⟩
      case str n =>
       subst rd
       obtain ⟨t, rfl⟩ := rx
       exact ⟨"str", _, by decide, rfl, PySem.F.slot_str_ne, call_meets PySem.F.slot_str_ne rfl PySem.F.entry_str_ne (PySem.F.args_str_ne_2 _ _) (xC n t a _ _) ⟨hget, rfl, rfl⟩⟩
      case tup xs =>
       obtain ⟨b, vs, rfl, h1, h2⟩ := rd
       obtain rfl : v = Value.ref b := rx
       obtain ⟨its, rv, ⟨⟨cls, dd, data, sl⟩, ho, hc, n0, hd⟩, _⟩ := J.tuple (.of (rel.fz _ _ h1))
       simp only at hc hd
       subst hc hd
       exact ⟨"tuple", _, by decide, ⟨_, ho, rfl⟩, PySem.F.slot_tuple_ne, wpAny_call_entry PySem.F.slot_tuple_ne ⟨_, ho, rfl⟩ PySem.F.entry_tuple_ne (tR ho hget (PySem.W.looks_subIn X1 (hl' "tuple" (by decide))) ⟨_, rfl, rfl, rfl⟩) (PySem.F.args_tuple_ne_2 _ _)⟩
      case lst xs =>
       obtain ⟨b, vs, rfl, h1, h2⟩ := rd
       obtain rfl : v = Value.ref b := rx
       obtain ⟨its, rv, ⟨⟨cls, dd, data, sl⟩, n0, ho, hc, _, hd⟩, _⟩ := J.list (.of (rel.fz _ _ h1))
       simp only at hc hd
       subst hc hd
       exact ⟨"list", _, by decide, ⟨_, ho, rfl⟩, PySem.F.slot_list_ne, wpAny_call_entry PySem.F.slot_list_ne ⟨_, ho, rfl⟩ PySem.F.entry_list_ne (t7 ho hget (PySem.W.looks_subIn X1 (hl' "list" (by decide))) ⟨_, rfl, rfl, rfl⟩) (PySem.F.args_list_ne_2 _ _)⟩
      case xO ks xs =>
       obtain ⟨b, kvs, rfl, h1, _, _⟩ := rd
       obtain rfl : v = Value.ref b := rx
       obtain ⟨o, es, n, e1, e2, e3⟩ := wH J rel h1
       exact ⟨"dict", _, by decide, ⟨o, e1, e2.1⟩, PySem.F.slot_dict_ne, wpAny_call_entry PySem.F.slot_dict_ne ⟨o, e1, e2.1⟩ PySem.F.entry_dict_ne (vR e1 e2 e3 hget (PySem.W.looks_subIn X1 (hl' "dict" (by decide))) ⟨_, rfl, rfl, rfl⟩) (PySem.F.args_dict_ne_2 _ _)⟩
     have pp : aY X.K I F G E (RV X.K fun v H2 => ∃ z : Bool, v = .bl z ∧ Q (.bl (!z)) H2) (m [.ref j, d] w) := by
      refine (aY.bind p).mono fun I1 F1 H1 d w1 _ e1 rel1 p1 v rv => ?_
      cases d <;> first | exact p1.elim | skip
      rename_i z hh
      simp only [aI] at rv
      subst rv
      refine ⟨z, rfl, ?_⟩
      have p1 : aY X.K I1 F1 G E (RV X.K Q) (.ok (.bl (z != true)) w1) := p1
      rw [show (z != true) = !z by cases z <;> rfl] at p1
      exact aY.n5 p1 rel1 (by simp [aI])
     refine T5 (by have := (c.room.mono hk).units; omega) hF J.ok.mod.kin O ht (hl' T hT) h1 hdec hn'.ne hn'.hm hs'.at_ hs'.fn ?_
     refine wpAny_mono (ET (xs := [.ref j, d]) (vs := [.ref a, x]) (us := [.ref a, v]) xo c hk Gf B J rel (RepL.cons re0 (RepL.cons rd0 (by simp [RepL]))) (.cons rfl (.cons rx .nil)) pp) (fun z s2 hz => ?_) fun _ _ e => e
     obtain ⟨v0, H2, J2, rv2, z0, rfl, q⟩ := hz
     obtain rfl : z = Value.bool z0 := rv2
     exact ⟨z0, rfl, .bl (!z0), H2, J2, rfl, q⟩
    ·exact p.elim
   ·exact p.elim
  ·exact p.elim
def neQ (C : Addr) (m : MF) : D → D → W → Res D :=
 YA (fun x y w => mP x w && mP y w) (neI C m) (YA (fun x _ w => mP x w) (neL C m) (YA (fun _ y w => mP y w) (neR C m) pT))
theorem aAE {S : aP} {k : Nat} {f C : Addr} {fd : FuncData} {ps : List Str} {m : MF} (hk : k + 1 ≤ S.k) (hl : eZ S.K C) (hn : lV S.K C) (ho : L9 S.K C) (hs : Meth S.K C "__eq__" f) (Gf : eW S.P S.w S.K S.mg S.base k f fd ps m) (B : bO S.K fd ps 2 [] aM) : O2 S (compareOp .NotEq) (neQ C m) :=
 LC (aFa hk ho hs Gf B) (LC (aGS hk hl ho hs Gf B) (LC (aFU hk hn ho hs Gf B) tK))
end Pc
namespace Pc
open PySem PySem.Spec PyProof.Rows L2 PySem.MeetsSeq PySem.MeetsSeq2
def X8 (o x : D) : Bool := match o, x with
 | .ref i, .ref j => i == j
 | _, _ => false
def EF (C : Addr) (m : MF) (o x : D) (w : W) : Res D := match mP o w, mP x w with
 | true, true => if X8 o x = true then .bad else eqI C m o x w
 | true, false => eqL C m o x w
 | false, true => eqR C m o x w
 | false, false => .bad
def IL (C : Addr) (m : MF) (x : D) : List D → W → Res D
 | [], w => .ok (.bl false) w
 | o :: os, w => (EF C m o x w).bind fun d w1 => match d with
  | .bl true => .ok (.bl true) w1
  | .bl false => IL C m x os w1
  | _ => .bad
def inQ (C : Addr) (m : MF) : D → D → W → Res D := fun x y w => match y with
 | .lst ys => IL C m x ys w
 | .tup ys => IL C m x ys w
 | _ => .bad
section
variable {S : aP} {X : Cx} {E : XK} {pins : List (Addr × Obj)} {σ : L2.St} {H : Hp} {s : Shared} {k : Nat} {f C : Addr} {fd : FuncData} {ps : List Str} {m : MF} {I : List Addr} {F G : Hp} {w : W} {o d : D} {x y : V} {u v : Value}
def After (X : Cx) (pins : List (Addr × Obj)) (σ : L2.St) (R : Bool → Hp → Prop) : Bool → Shared → Prop := fun b s' => ∃ H2, Inv X pins σ H2 s' ∧ R b H2
theorem CI {R : Bool → Hp → Prop} (h : wpAny (model X.prog X.w) X.A.in1 (call (.ref f) [u, v]) (EP X pins σ fun v H2 => ∃ z : Bool, v = .bl z ∧ R z H2) X.xe s) :
  wpAny (model X.prog X.w) X.A.in1 (call (.ref f) [u, v]) (PySem.W.CmpBack fun z s' => ∃ b, z = .bool b ∧ After X pins σ R b s') X.xe s :=
 wpAny_mono h (fun z s2 ⟨v0, H2, J2, rv2, z0, e, q⟩ => by
  subst e
  obtain rfl : z = Value.bool z0 := rv2
  exact ⟨z0, rfl, H2, J2, q⟩) fun _ _ e => e
theorem yE {a b : Addr} (h : a ≠ b) : (Value.ref a == Value.ref b) = false := by simp [h]
theorem aEV {R : Bool → Hp → Prop} (xo : pI X E) (c : Ctx S X) (hk : k + 1 ≤ S.k) (hl : eZ S.K C) (hn : lV S.K C) (hs : Meth S.K C "__eq__" f) (Gf : eW S.P S.w S.K S.mg S.base k f fd ps m) (B : bO S.K fd ps 2 [] aM)
  (J : Inv X pins σ H s) (rel : Rel X.K I F G w H) (ro : aI X.K I F o y) (rd : aI X.K I F d x) (r1 : RelV y u) (r2 : RelV x v) (p : aY X.K I F G E (RV X.K fun val H2 => ∃ b : Bool, val = .bl b ∧ R b H2) (EF C m o d w)) :
  wpAny (model X.prog X.w) X.A.in1 (eqBool u v) (After X pins σ R) X.xe s := by
 have rm : Room k X.A.in1 := (c.room.mono hk).in1
 have hs' : Meth X.K C "__eq__" f := by rw [c.K]; exact hs
 have hl' : eZ X.K C := by rw [c.K]; exact hl
 have hn' : lV X.K C := by rw [c.K]; exact hn
 obtain ⟨mm, hF⟩ := J.fr
 unfold EF at p
 split at p
 ·-- both are instances
  rename_i hA hB
  clear hA hB
  split at p
  ·exact p.elim
  rename_i ne
  unfold eqI at p
  split at p
  ·rename_i i j
   split at p
   ·rename_i C1 fs C2 gs hw1 hw2
    split at p
    ·rename_i hC
     obtain ⟨h1, h2⟩ := hC
     subst h1
     subst h2
     have rd0 := rd
     have ro0 := ro
     simp only [aI] at rd ro
     obtain ⟨b, rfl, hj⟩ := rd
     obtain ⟨a, rfl, hi⟩ := ro
     obtain rfl : u = Value.ref a := r1
     obtain rfl : v = Value.ref b := r2
     obtain ⟨u1, hu1, dx, q1, rfl, hr1⟩ := rel.ob i a _ hi hw1
     obtain ⟨u2, hu2, dy, q2, rfl, hr2⟩ := rel.ob j b _ hj hw2
     obtain ⟨mA, O, _⟩ := ins_get J.hok hu1
     obtain ⟨mB, O', _⟩ := ins_get J.hok hu2
     obtain ⟨od, O, _⟩ := O.look
     obtain ⟨od', O', _⟩ := O'.look
     have nab : a ≠ b := fun e => by
      subst e
      have := (List.getElem?_inj (aj.mp hi).1 rel.nd).mp (hi.trans hj.symm)
      exact ne (by rw [this]; simp [X8])
     refine BS (yE nab) (.inl ⟨_, rfl⟩) ?_
     exact PySem.W.cmp_K (op := .Eq) (tb := .ref C2) rm.units0 hF J.ok.mod.kin O O'.type (by simp [PySem.W.notFirst]) hs'.at_ hs'.fn (CI (ET (xs := [.ref i, .ref j]) (vs := [.ref a, .ref b]) (us := [.ref a, .ref b]) xo c hk Gf B J rel (RepL.cons ro0 (RepL.cons rd0 (by simp [RepL]))) (.cons rfl (.cons rfl .nil)) p))
    ·exact p.elim
   ·exact p.elim
  ·exact p.elim
 ·-- the item is one
  rename_i hA hB
  clear hA hB
  unfold eqL at p
  split at p
  ·rename_i i
   split at p
   ·rename_i C1 fs hw1
    split at p
    ·rename_i hC
     obtain ⟨h1, hy⟩ := hC
     subst h1
     have rd0 := rd
     have ro0 := ro
     simp only [aI] at ro
     obtain ⟨a, rfl, hi⟩ := ro
     obtain rfl : u = Value.ref a := r1
     obtain ⟨u1, hu1, dx, q1, rfl, hr1⟩ := rel.ob i a _ hi hw1
     obtain ⟨mA, O, _⟩ := ins_get J.hok hu1
     obtain ⟨od, O, _⟩ := O.look
     obtain ⟨T, hT, ht, ne⟩ : ∃ T ∈ (["int", "bool", "str", "NoneType", "tuple", "list", "dict"] : List String), PySem.W.Looks (model X.prog X.w) s.heap (typeOf v) (.type T) ∧ (Value.ref a == v) = false := by
      have far : ∀ b o', s.heap.get? b = some o' → (∃ T : String, o'.cls = .type T) → a ≠ b := fun b o' e ⟨T, ht⟩ hab => by
       subst hab
       obtain ⟨_, _, _, hget, _⟩ := J.hok a _ hu1
       rw [hget] at e
       cases e
       cases ht
      cases d <;> simp only [gK, ax] at hy <;> simp only [aI] at rd
      case non =>
       subst rd
       obtain rfl : v = Value.none := r2
       exact ⟨"NoneType", by decide, cD fun s' _ => rfl, rfl⟩
      case bl b =>
       subst rd
       obtain rfl : v = Value.bool b := r2
       exact ⟨"bool", by decide, cD fun s' _ => rfl, rfl⟩
      case int n =>
       subst rd
       obtain ⟨t, rfl⟩ := r2
       exact ⟨"int", by decide, cD fun s' _ => rfl, rfl⟩
      case str n =>
       subst rd
       obtain ⟨t, rfl⟩ := r2
       exact ⟨"str", by decide, cD fun s' _ => rfl, rfl⟩
      case tup xs =>
       obtain ⟨b, vs, rfl, h1, h2⟩ := rd
       obtain rfl : v = Value.ref b := r2
       obtain ⟨its, rv, ⟨o, ho, hc, _⟩, _⟩ := J.tuple (.of (rel.fz _ _ h1))
       exact ⟨"tuple", by decide, cD fun s' k => ⟨o, k _ _ ho, hc⟩, yE (far b o ho ⟨_, hc⟩)⟩
      case lst xs =>
       obtain ⟨b, vs, rfl, h1, h2⟩ := rd
       obtain rfl : v = Value.ref b := r2
       obtain ⟨its, rv, ⟨o, n0, ho, hc, _⟩, _⟩ := J.list (.of (rel.fz _ _ h1))
       exact ⟨"list", by decide, cD fun s' k => ⟨o, k _ _ ho, hc⟩, yE (far b o ho ⟨_, hc⟩)⟩
      case xO ks xs =>
       obtain ⟨b, kvs, rfl, h1, _, _⟩ := rd
       obtain rfl : v = Value.ref b := r2
       obtain ⟨o, es, n, e1, e2, _⟩ := wH J rel h1
       exact ⟨"dict", by decide, cD fun s' k => ⟨o, k _ _ e1, e2.1⟩, yE (far b o e1 ⟨_, e2.1⟩)⟩
     refine BS ne (.inl ⟨_, rfl⟩) ?_
     exact PySem.W.cmp_K (op := .Eq) (tb := .type T) rm.units0 hF J.ok.mod.kin O ht (hl' T hT) hs'.at_ hs'.fn (CI (ET (xs := [.ref i, d]) (vs := [.ref a, x]) (us := [.ref a, v]) xo c hk Gf B J rel (RepL.cons ro0 (RepL.cons rd0 (by simp [RepL]))) (.cons rfl (.cons r2 .nil)) p))
    ·exact p.elim
   ·exact p.elim
  ·exact p.elim
 ·-- x is one
  rename_i hA hB
  clear hA hB
  unfold eqR at p
  split at p
  ·rename_i j
   split at p
   ·rename_i C1 fs hw1
    split at p
    ·rename_i hC
     obtain ⟨h1, hy⟩ := hC
     subst h1
     have rd0 := rd
     have ro0 := ro
     simp only [aI] at rd
     obtain ⟨a, rfl, hi⟩ := rd
     obtain rfl : v = Value.ref a := r2
     obtain ⟨u1, hu1, dx, q1, rfl, hr1⟩ := rel.ob j a _ hi hw1
     obtain ⟨_, _, _, hget, _⟩ := J.hok a _ hu1
     obtain ⟨mA, O, _⟩ := ins_get J.hok hu1
     obtain ⟨od, O, _⟩ := O.look
     have X1 := J.kIn
     obtain ⟨T, id, hT, ht, h1, hdec, ne⟩ : ∃ T id, T ∈ (["int", "bool", "str", "NoneType", "tuple", "list", "dict"] : List String) ∧ s.TypeIs u T ∧ Slot T (cmpInfo .Eq).2.1 id ∧ wpAny (model X.prog X.w) X.A.in1 (call (.builtin id) [u, .ref a]) (fun z s' => z = .notImplemented ∧ s' = s) X.xe s ∧ (u == Value.ref a) = false := by
      have far : ∀ b o', s.heap.get? b = some o' → (∃ T : String, o'.cls = .type T) → b ≠ a := fun b o' e ⟨T, ht⟩ hab => by
       subst hab
       rw [hget] at e
       cases e
       cases ht
      cases o <;> simp only [gK, ax] at hy <;> simp only [aI] at ro
      case non =>
       subst ro
       obtain rfl : u = Value.none := r1
       exact ⟨"NoneType", _, by decide, rfl, PySem.F.slot_NoneType_eq, call_gives PySem.F.slot_NoneType_eq rfl PySem.F.entry_NoneType_eq (PySem.F.args_NoneType_eq_2 _ _) (SeqAt.NoneType___eq___none_ref_0 a) ⟨rfl, rfl⟩, rfl⟩
      case bl b =>
       subst ro
       obtain rfl : u = Value.bool b := r1
       exact ⟨"bool", _, by decide, rfl, PySem.F.slot_bool_eq, call_meets PySem.F.slot_bool_eq rfl PySem.F.entry_int_eq (PySem.F.args_int_eq_2 _ _) (mZ b a _ _) ⟨hget, rfl, rfl⟩, rfl⟩
      case int n =>
       subst ro
       obtain ⟨t, rfl⟩ := r1
       exact ⟨"int", _, by decide, rfl, PySem.F.slot_int_eq, call_meets PySem.F.slot_int_eq rfl PySem.F.entry_int_eq (PySem.F.args_int_eq_2 _ _) (nT n t a _ _) ⟨hget, rfl, rfl⟩, rfl⟩
      case str n =>
       subst ro
       obtain ⟨t, rfl⟩ := r1
       exact ⟨"str", _, by decide, rfl, PySem.F.slot_str_eq, call_meets PySem.F.slot_str_eq rfl PySem.F.entry_str_eq (PySem.F.args_str_eq_2 _ _) (nX n t a _ _) ⟨hget, rfl, rfl⟩, rfl⟩
      case tup xs =>
       obtain ⟨b, vs, rfl, h1, h2⟩ := ro
       obtain rfl : u = Value.ref b := r1
       obtain ⟨its, rv, ⟨⟨cls, dd, data, sl⟩, ho, hc, n0, hd⟩, _⟩ := J.tuple (.of (rel.fz _ _ h1))
       simp only at hc hd
       subst hc hd
       exact ⟨"tuple", _, by decide, ⟨_, ho, rfl⟩, PySem.F.slot_tuple_eq, wpAny_call_entry PySem.F.slot_tuple_eq ⟨_, ho, rfl⟩ PySem.F.entry_tuple_eq (k9 ho hget (PySem.W.looks_subIn X1 (hn' "tuple" (by decide))) ⟨_, rfl, rfl, rfl⟩) (PySem.F.args_tuple_eq_2 _ _), yE (far b _ ho ⟨_, rfl⟩)⟩
      case lst xs =>
       obtain ⟨b, vs, rfl, h1, h2⟩ := ro
       obtain rfl : u = Value.ref b := r1
       obtain ⟨its, rv, ⟨⟨cls, dd, data, sl⟩, n0, ho, hc, _, hd⟩, _⟩ := J.list (.of (rel.fz _ _ h1))
       simp only at hc hd
       subst hc hd
       exact ⟨"list", _, by decide, ⟨_, ho, rfl⟩, PySem.F.slot_list_eq, wpAny_call_entry PySem.F.slot_list_eq ⟨_, ho, rfl⟩ PySem.F.entry_list_eq (nL ho hget (PySem.W.looks_subIn X1 (hn' "list" (by decide))) ⟨_, rfl, rfl, rfl⟩) (PySem.F.args_list_eq_2 _ _), yE (far b _ ho ⟨_, rfl⟩)⟩
      case xO ks xs =>
       obtain ⟨b, kvs, rfl, h1, _, _⟩ := ro
       obtain rfl : u = Value.ref b := r1
       obtain ⟨o, es, n, e1, e2, e3⟩ := wH J rel h1
       exact ⟨"dict", _, by decide, ⟨o, e1, e2.1⟩, PySem.F.slot_dict_eq, wpAny_call_entry PySem.F.slot_dict_eq ⟨o, e1, e2.1⟩ PySem.F.entry_dict_eq (m7 e1 e2 e3 hget (PySem.W.looks_subIn X1 (hn' "dict" (by decide))) ⟨_, rfl, rfl, rfl⟩) (PySem.F.args_dict_eq_2 _ _), yE (far b o e1 ⟨_, e2.1⟩)⟩
     refine BS ne (.inr ⟨_, rfl⟩) ?_
     exact JV rm.units0 hF J.ok.mod.kin O ht (hn' T hT) h1 hdec hs'.at_ hs'.fn (CI (ET (xs := [.ref j, o]) (vs := [.ref a, y]) (us := [.ref a, u]) xo c hk Gf B J rel (RepL.cons rd0 (RepL.cons ro0 (by simp [RepL]))) (.cons rfl (.cons r1 .nil)) p))
    ·exact p.elim
   ·exact p.elim
  ·exact p.elim
 ·exact p.elim
def Left (S : aP) (X : Cx) (E : XK) (G : Hp) (C : Addr) (m : MF) (d : D) (Q : VK) (I : List Addr) (F : Hp) (os : List D) : Bool → Hp → Prop := fun b H2 => ∃ I2 F2 w2, Ext I F I2 F2 ∧ Rel X.K I2 F2 G w2 H2 ∧ aY X.K I2 F2 G E (RV X.K Q) (if b = true then .ok (.bl true) w2 else IL C m d os w2)
theorem K8 {Q : VK} {os : List D} (p : aY X.K I F G E (RV X.K Q) (IL C m d (o :: os) w)) : aY X.K I F G E (RV X.K fun val H2 => ∃ b : Bool, val = .bl b ∧ Left S X E G C m d Q I F os b H2) (EF C m o d w) := by
 refine (aY.bind p).mono fun I1 F1 H1 z w1 _ e1 rel1 p1 v rv => ?_
 cases z <;> first | exact p1.elim | skip
 rename_i b hh
 simp only [aI] at rv
 subst rv
 refine ⟨b, rfl, I1, F1, w1, e1, rel1, ?_⟩
 cases b <;> exact p1
theorem aDt {Q : VK} {b : Addr} {vs : List V} {ys : List D} (xo : pI X E) (c : Ctx S X) (hk : k + 1 ≤ S.k) (hl : eZ S.K C) (hn : lV S.K C) (hs : Meth S.K C "__eq__" f) (Gf : eW S.P S.w S.K S.mg S.base k f fd ps m) (B : bO S.K fd ps 2 [] aM) (r2 : RelV x v) :
  ∀ (os : List D) (i : Nat) (I : List Addr) (F : Hp) (w : W) (H : Hp) (s : Shared), ys.drop i = os → i ≤ ys.length → F b = some (.lst vs) → RepL X.K I F ys vs → aI X.K I F d x → Inv X pins σ H s → Rel X.K I F G w H → aY X.K I F G E (RV X.K Q) (IL C m d os w) →
   wpAny (model X.prog X.w) X.A.in1 (Builtin.«list.__contains__.loop» ⟨[.ref b, v, rawInt i], []⟩) (fun fin s' => match fin with | .done f => wants (fun v s' => ∃ z, v = .bool z ∧ EP X pins σ Q (.bool z) s') X.xe (.ok f) s' | .again c' => c'.quiet = true ∧ codeAny (model X.prog X.w) X.A c' (wants (fun v s' => ∃ z, v = .bool z ∧ EP X pins σ Q (.bool z) s') X.xe) s') X.xe s := by
 intro os
 induction os with
 | nil =>
  intro i I F w H s hd hi hb ry rd J rel p
  obtain ⟨hp, g, dw, tk, os'⟩ := s
  obtain ⟨its, rv, ⟨⟨cls, dd, data, sl⟩, n0, ho, hc, _, hdd⟩, _⟩ := J.list (.of (rel.fz _ _ hb))
  simp only at hc hdd
  subst hc hdd
  have li : its.length ≤ i := by
   have l1 := rv.length
   have l2 := ry.length
   have : ys.length ≤ i := by
    have := congrArg List.length hd
    rw [List.length_drop, dc] at this
    omega
   omega
  wp_walk using wpAny_loadPart' ho
  have hi : its.toArray[((i : Nat) : Int).toNat]? = none := by simp; omega
  rw [hi]
  wp_walk
  exact ⟨false, rfl, .bl false, H, J, rfl, p I F H .refl rel (.bl false) (by simp [aI])⟩
 | cons o os ih =>
  intro i I F w H s hd hi hb ry rd J rel p
  obtain ⟨hp, g, dw, tk, os'⟩ := s
  obtain ⟨its, rv, ⟨⟨cls, dd, data, sl⟩, n0, ho, hc, _, hdd⟩, _⟩ := J.list (.of (rel.fz _ _ hb))
  simp only at hc hdd
  subst hc hdd
  have ey : ys[i]? = some o := by
   have := congrArg (fun l => l[0]?) hd
   simpa [List.getElem?_drop] using this
  have li : i < ys.length := (aj.mp ey).1
  have lt : i < its.length := by rw [← rv.length, ← ry.length]; exact li
  obtain ⟨yv, e1, ro⟩ := ry.get ey
  obtain ⟨u, e2, r1⟩ : ∃ u, its[i]? = some u ∧ RelV yv u := rv.get e1
  wp_walk using wpAny_loadPart' ho
  have hi2 : its.toArray[((i : Nat) : Int).toNat]? = some u := by simpa using e2
  rw [hi2]
  refine wpAny_bind (wpAny_mono (aEV xo c hk hl hn hs Gf B J rel ro rd r1 r2 (K8 (S := S) p)) (fun z s2 hz => ?_) fun _ _ e => e)
  obtain ⟨H2, J2, I2, F2, w2, e12, rel2, p2⟩ := hz
  cases z with
  | true =>
   obtain ⟨hp2, g2, dw2, tk2, os2⟩ := s2
   wp_walk
   exact ⟨true, rfl, .bl true, H2, J2, rfl, p2 I2 F2 H2 .refl rel2 (.bl true) (by simp [aI])⟩
  | false =>
   obtain ⟨hp2, g2, dw2, tk2, os2⟩ := s2
   have hc : ((i : Int) + 1) = ((i + 1 : Nat) : Int) := by push_cast; rfl
   wp_walk
   rw [hc]
   exact ⟨plainId_quiet plain_contains_loop _, codeAny_builtin entry_contains_loop (by
    rw [Around.under_plainId plain_contains_loop _]
    exact ih (i + 1) I2 F2 w2 H2 _ (by rw [← List.drop_drop, hd]; rfl) li (e12.f b _ hb) (RepL.ext e12 _ _ ry) (aI.ext e12 _ _ rd) J2 rel2 p2)⟩
theorem aGq {Q : VK} {b : Addr} {vs : List V} {ys : List D} (xo : pI X E) (c : Ctx S X) (hk : k + 1 ≤ S.k) (hl : eZ S.K C) (hn : lV S.K C) (hs : Meth S.K C "__eq__" f) (Gf : eW S.P S.w S.K S.mg S.base k f fd ps m) (B : bO S.K fd ps 2 [] aM) (r2 : RelV x v)
  (hb : F b = some (.tup vs)) (ry : RepL X.K I F ys vs) (rd : aI X.K I F d x) (J : Inv X pins σ H s) (rel : Rel X.K I F G w H) (p : aY X.K I F G E (RV X.K Q) (IL C m d ys w)) :
   wpAny (model X.prog X.w) X.A.in1 (Builtin.«tuple.__contains__» ⟨[.ref b, v], []⟩) (fun fin s' => ∃ z0, fin = .done (.ret z0) ∧ ∃ z, z0 = .bool z ∧ EP X pins σ Q (.bool z) s') X.xe s := by
 obtain ⟨hp, g, dw, tk, os'⟩ := s
 obtain ⟨its, rv, ⟨⟨cls, dd, data, sl⟩, ho, hc, n0, hdd⟩, _⟩ := J.tuple (.of (rel.fz _ _ hb))
 simp only at hc hdd
 subst hc hdd
 obtain ⟨items, eit⟩ : ∃ items : Array Value, items = its.toArray := ⟨_, rfl⟩
 have rv : Vals vs items.toList := by rw [eit]; simpa using rv
 rw [← eit] at ho
 clear eit
 wp_walk using wpAny_loadPart' ho, wpAny_forIn_array _ (fun rest bb s' => bb.1 = none ∧ ∃ (os : List D) (vs' : List V) (I2 : List Addr) (F2 : Hp) (w2 : W) (H2 : Hp), RepL X.K I2 F2 os vs' ∧ Vals vs' rest ∧ aI X.K I2 F2 d x ∧ Inv X pins σ H2 s' ∧ Rel X.K I2 F2 G w2 H2 ∧ aY X.K I2 F2 G E (RV X.K Q) (IL C m d os w2)) _
 case turn =>
  rintro y rest bb s' ⟨hb', os, vs', I2, F2, w2, H2, ro, rv', rd', J2, rel2, p2⟩
  cases rv' with
  | cons r1 rr =>
   cases os with
   | nil => simp [RepL] at ro
   | cons o os =>
    have ro' := ro
    simp only [RepL, List.cons.injEq] at ro'
    obtain ⟨_, _, ⟨rfl, rfl⟩, ro1, ro2⟩ := ro'
    refine wpAny_bind (wpAny_mono (aEV xo c hk hl hn hs Gf B J2 rel2 ro1 rd' r1 r2 (K8 (S := S) p2)) (fun z s2 hz => ?_) fun _ _ e => e)
    obtain ⟨H3, J3, I3, F3, w3, e12, rel3, p3⟩ := hz
    cases z with
    | true =>
     wp_walk
     exact ⟨_, rfl, true, rfl, .bl true, H3, J3, rfl, p3 I3 F3 H3 .refl rel3 (.bl true) (by simp [aI])⟩
    | false =>
     wp_walk
     exact ⟨rfl, os, _, I3, F3, w3, H3, RepL.ext e12 _ _ ro2, rr, aI.ext e12 _ _ rd', J3, rel3, p3⟩
 case fin =>
  rintro ⟨b1, b2⟩ s' ⟨hb', os, vs', I2, F2, w2, H2, ro, rv', rd', J2, rel2, p2⟩
  simp only at hb'
  subst hb'
  cases rv'
  cases os with
  | cons o os => simp [RepL] at ro
  | nil =>
   wp_walk
   exact ⟨_, rfl, false, rfl, .bl false, H2, J2, rfl, p2 I2 F2 H2 .refl rel2 (.bl false) (by simp [aI])⟩
 case h =>
  exact ⟨rfl, ys, vs, I, F, w, H, ry, by simpa using rv, rd, J, rel, p⟩
end
theorem aAn {S : aP} {k : Nat} {f C : Addr} {fd : FuncData} {ps : List Str} {m : MF} (hk : k + 1 ≤ S.k) (hl : eZ S.K C) (hn : lV S.K C) (hs : Meth S.K C "__eq__" f) (Gf : eW S.P S.w S.K S.mg S.base k f fd ps m) (B : bO S.K fd ps 2 [] aM) : O2 S (compareOp .In) (inQ C m) :=
 fun X E c xo pins s σ H x y v u Q J rx ry ⟨I, F, G, d, e, w, rel, rd, re, p⟩ => by
  unfold inQ at p
  split at p
  ·rename_i ys
   simp only [aI] at re
   obtain ⟨b, vs, rfl, h1, h2⟩ := re
   obtain rfl : u = Value.ref b := ry
   obtain ⟨its, rv, ⟨⟨cls, dd, data, sl⟩, n0, ho, hc, _, hdd⟩, _⟩ := J.list (.of (rel.fz _ _ h1))
   simp only at hc hdd
   subst hc hdd
   have g : MeetsIn X.prog X.w (Builtin.«list.__contains__» ⟨[.ref b, v], []⟩) (fun A R s' => A = X.A ∧ s' = s ∧ R = wants (fun v s' => ∃ z, v = .bool z ∧ EP X pins σ Q (.bool z) s') X.xe) := by
    intro A R s' h
    obtain ⟨rfl, rfl, rfl⟩ := h
    have lp := aDt (i := 0) xo c hk hl hn hs Gf B rx ys I F w H s' rfl (Nat.zero_le _) h1 h2 rd J rel p
    obtain ⟨hp, gg, dw, tk, os'⟩ := s'
    wp_walk using wpAny_loadPart' ho
    exact ⟨plainId_quiet plain_contains_loop _, codeAny_builtin entry_contains_loop (by
     rw [Around.under_plainId plain_contains_loop _]
     exact lp)⟩
   show wpAny _ X.A (do return .bool (← contains (.ref b) v)) (EP X pins σ Q) X.xe s
   refine wpAny_bind (wpAny_contains_slot ⟨_, ho, rfl⟩ PySem.F.slot_list_contains (wpAny_mono (PySem.call_meetsIn PySem.F.slot_list_contains ⟨_, ho, rfl⟩ PySem.F.entry_list_contains (PySem.F.args_list_contains_2 _ _) g ⟨rfl, rfl, rfl⟩) (fun v s' hv => ?_) fun _ _ e => e))
   obtain ⟨z, rfl, hq⟩ := hv
   exact wpAny_truthy_bool (wpAny_pure hq)
  ·rename_i ys
   simp only [aI] at re
   obtain ⟨b, vs, rfl, h1, h2⟩ := re
   obtain rfl : u = Value.ref b := ry
   obtain ⟨its, rv, ⟨⟨cls, dd, data, sl⟩, ho, hc, n0, hdd⟩, _⟩ := J.tuple (.of (rel.fz _ _ h1))
   simp only at hc hdd
   subst hc hdd
   show wpAny _ X.A (do return .bool (← contains (.ref b) v)) (EP X pins σ Q) X.xe s
   refine wpAny_bind (wpAny_contains_slot ⟨_, ho, rfl⟩ PySem.F.slot_tuple_contains (wpAny_mono (wpAny_call_entry PySem.F.slot_tuple_contains ⟨_, ho, rfl⟩ PySem.F.entry_tuple_contains (aGq xo c hk hl hn hs Gf B rx h1 h2 rd J rel p) (PySem.F.args_tuple_contains_2 _ _)) (fun v s' hv => ?_) fun _ _ e => e))
   obtain ⟨z, rfl, hq⟩ := hv
   exact wpAny_truthy_bool (wpAny_pure hq)
  ·exact p.elim
def kcQ (C : Addr) : uJ → uJ → Option Bool := fun t c => if c = .o C then (match t with
 | .o D => if D = C then some true else none
 | .b n => if n ∈ names7 then some false else none) else none
def L4 (K : PySem.W.Frag) (C : Addr) : Prop := ∀ n ∈ names7, PySem.W.kitOne K (.type n) (.ref C) = some false
def QP (K : PySem.W.Frag) (C : Addr) : Bool := names7.all fun n => decide (PySem.W.kitOne K (.type n) (.ref C) = some false)
theorem RE {K : PySem.W.Frag} {C : Addr} (h : QP K C = true) : L4 K C := fun n hn => of_decide_eq_true (bg.mp h n hn)
theorem aFz {K : PySem.W.Frag} {C : Addr} (h : SS K C) (hn : L4 K C) : aFn K (kcQ C) := by
 refine ⟨fun t c r e => ?_, fun D c r e => ?_⟩
 ·unfold kcQ at e
  split at e
  ·rename_i hc
   subst hc
   cases t with
   | o D =>
    simp only at e
    split at e
    ·rename_i hd
     subst hd
     cases e
     simp [PySem.W.kitOne, uJ.v]
    ·cases e
   | b n =>
    simp only at e
    split at e
    ·rename_i hm
     cases e
     exact hn n hm
    ·cases e
  ·cases e
 ·unfold kcQ at e
  split at e
  ·simp only at e
   split at e
   ·rename_i hd
    subst hd
    exact h
   ·cases e
  ·cases e
end Pc
namespace Pc
open PySem PySem.Spec PyProof.Rows L2
theorem aBq {P : Program} {w : World} {K : PySem.W.Frag} {mg mb : Str → Option Value} {k : Nat} {fa a : Addr} {fd : FuncData} {x : Str} {m : MF} {s : Shared} {ns : List Int} (H : Hp)
  (kin : K.In s.heap) (glo : s.heap.Ns mainGlobals mg) (blt : s.heap.Ns builtinsNs mb) (boot : ∀ y : Str, y ≠ "__name__" → mb y = bootBuiltins y) (free : s.heap.NoLimit) (gens : s.gens = #[]) (room : Room k callerA)
  (prom : ∀ base : Heap, K.In base → base.Ns mainGlobals mg → eW P w K mg base k fa fd [x] m) (bind : ∀ (t : Shared) (u : Value), BindsTo t fd ⟨[u], []⟩ [(x, u)]) (w' : W) (good : m [.pR (ns.map D.int)] [] = .ok (.bl true) w')
  (only : Only H) (held : SqL K H a (ns.map V.int)) (ok : HOk P w H s.heap) (nod : ∀ b o, s.heap.get? b = some o → H b ≠ none → ∀ es ep, o.data ≠ .dict es ep) (nok : ∀ b, H b ≠ none → K.lookup b = none) :
  codeAny (model P w) callerA (.call (.ref fa) ⟨[.ref a], []⟩) (fun r t => r = .ok (.ret (.bool true)) ∧ OldK s.heap t.heap ∧ t.os = s.os ∧ AllBare t.gens) s := by
 have low : ∀ {b : Addr} {o : Obj}, s.heap.get? b = some o → H b = none → (hidT s.heap H).get? b = some o := hidT_get
 have dicts : ∀ {b : Addr} {f : Str → Option Value}, s.heap.Ns b f → (hidT s.heap H).Ns b f := by
  rintro b f ⟨o, es, ep, h1, h2, h3⟩
  refine ⟨o, es, ep, low h1 ?_, h2, h3⟩
  by_cases q : H b = none
  ·exact q
  ·exact absurd h2 (nod b o h1 q es ep)
 have kb : K.In (hidT s.heap H) := fun b o h => low (kin b o h) (by
  by_cases q : H b = none
  ·exact q
  ·rw [nok b q] at h; cases h)
 obtain ⟨mc, c1, c2⟩ := free
 have e0 : Env0 P w K mg (hidT s.heap H) callerA [] s H := {
  frames := rfl
  mod := ⟨kb, dicts glo, ⟨mb, dicts blt, boot⟩, ⟨mc, dicts c1, c2⟩⟩
  bs := fun b o h => of_hidT h
  bsz := Nat.le_of_eq (hidT_size _ _)
  funs := trivial
  frf := fun b hb => by simp [frs] at hb
  hok := ok
  bare := .of_eq gens }
 have rel : Rel K [] H (fun _ => none) [] H := ⟨rfl, List.nodup_nil, fun i b o h => by simp at h, fun _ _ h => h, fun i b o h => by simp at h, fun _ _ h => (by cases h), fun _ _ h => (by cases h), fun _ _ h => (by cases h)⟩
 have sp : spM K m [V.ref a] H (fun v _ => v = .bl true) fun _ _ _ => False := by
  refine ⟨[], H, fun _ => none, [.pR (ns.map D.int)], [], rel, RepL.cons ?_ (by simp [RepL]), ?_⟩
  ·simp only [aI]; exact ⟨a, _, rfl, held, RepL.ints ns⟩
  ·rw [good]
   intro I' F' H' _ _ v rv
   simpa only [aI] using rv
 refine codeAny_mono ((prom _ kb (dicts glo)).run callerA [] s H ⟨[.ref a], []⟩ [.ref a] [.ref a] _ _ room rfl e0 (bind s (.ref a)) (.cons rfl .nil) rfl sp) fun r t h => ?_
 match r, h with
 | .error e, h =>
  obtain ⟨_, _, _, _, _, h⟩ := h
  simp at h
 | .ok (.ret u), h =>
  obtain ⟨v, H2, h1, h2, h3, h4, h5, h6⟩ := h
  subst h6
  obtain rfl : u = Value.bool true := h5
  refine ⟨rfl, OldK.of_keep fun b o hb => ?_, h1, h2⟩
  rcases only b with q | ⟨ob, xs, q⟩
  ·exact h3.keep b o hb q (by intro z; simp [frs] at z) (by simp)
  ·obtain ⟨g1, _⟩ := ok b _ q
   obtain ⟨g2, _⟩ := h4 b _ (h3.frzs b ob _ q)
   rw [hb] at g1; cases g1
   exact g2
 | .ok .next, h => exact h.elim
 | .ok .brk, h => exact h.elim
 | .ok .cont, h => exact h.elim
theorem aBZ {P : Program} {w : World} {K : PySem.W.Frag} {mg mb : Str → Option Value} {k : Nat} {fa a : Addr} {fd : FuncData} {x : Str} {m : MF} {s : Shared} {us : List Value} {ns : List Int}
  (kin : K.In s.heap) (glo : s.heap.Ns mainGlobals mg) (blt : s.heap.Ns builtinsNs mb) (boot : ∀ y : Str, y ≠ "__name__" → mb y = bootBuiltins y) (free : s.heap.NoLimit) (gens : s.gens = #[]) (room : Room k callerA)
  (laid : s.heap.get? a = some { cls := .type "list", data := .seq us.toArray }) (nums : IntsAre us ns) (few : ns.length ≤ sizeLine)
  (prom : ∀ base : Heap, K.In base → base.Ns mainGlobals mg → eW P w K mg base k fa fd [x] m) (bind : ∀ (t : Shared) (u : Value), BindsTo t fd ⟨[u], []⟩ [(x, u)]) (w' : W) (good : m [.pR (ns.map D.int)] [] = .ok (.bl true) w') :
  codeAny (model P w) callerA (.call (.ref fa) ⟨[.ref a], []⟩) (fun r t => r = .ok (.ret (.bool true)) ∧ OldK s.heap t.heap ∧ t.os = s.os ∧ AllBare t.gens) s := by
 have vals := vals_ints nums
 cases hk : K.lookup a with
 | some o =>
  have h := kin a o hk
  rw [laid] at h
  cases h
  refine aBq (fun _ => none) kin glo blt boot free gens room prom bind w' good (fun _ => .inl rfl) (.inr ⟨_, us.toArray, _, hk, rfl, rfl, rfl, ?_, by simpa using vals⟩) (fun _ _ h => by cases h) (fun _ _ _ h => absurd rfl h) fun _ h => absurd rfl h
  rw [List.size_toArray]; have := nums.length; omega
 | none =>
  let ob : Obj := { cls := .type "list", data := .seq us.toArray }
  let H : Hp := fun b => if b = a then some (.frz ob (.lst (ns.map V.int))) else none
  have at1 : H a = some (.frz ob (.lst (ns.map V.int))) := if_pos rfl
  have at2 : ∀ {b : Addr}, H b ≠ none → b = a := fun {b} h => by
   by_cases e : b = a
   ·exact e
   ·exact absurd (if_neg e) h
  refine aBq H kin glo blt boot free gens room prom bind w' good (fun b => ?_) (.inl (.inr ⟨ob, at1⟩)) (fun b u h => ?_) (fun b o h hb es ep hd => ?_) fun b hb => by rw [at2 hb]; exact hk
  ·by_cases e : b = a
   ·exact .inr ⟨ob, _, if_pos e⟩
   ·exact .inl (if_neg e)
  ·obtain rfl := at2 (b := b) (by rw [h]; simp)
   rw [at1] at h
   cases h
   exact ⟨laid, by rw [ay]; exact few, us, _, vals, laid⟩
  ·obtain rfl := at2 hb
   rw [laid] at h
   cases h
   cases hd
theorem aCl {l : PySem.W.OpenLaw} {n k : Nat} {q : Program} {loose : List Str} {XP : (Str → Option Value) → Heap → Prop} {YP : World → Heap → Prop} {d : DefRec} {x : Str}
  (hn : l.most = some n) (hn2 : n ≤ sizeLine) (hdf : d.params.defaults = []) (hr : Room k callerA)
  (F : ∀ (w : World) (mg : Str → Option Value) (fa : Addr) (h : Heap), YP w h → h.Ns mainGlobals mg → mg d.name = some (.ref fa) →
   ∃ (K : PySem.W.Frag) (fd : FuncData) (m : MF), K.In h ∧ (∀ (s : Shared) (u : Value), BindsTo s fd ⟨[u], []⟩ [(x, u)]) ∧ (∀ ns : List Int, ns.length ≤ n → ∃ w', m [.pR (ns.map D.int)] [] = .ok (.bl true) w') ∧
    ∀ base : Heap, K.In base → base.Ns mainGlobals mg → eW l.prog w K mg base k fa fd [x] m) :
  PySem.W.WalkO q loose XP YP l.row.toRowW d [] (fun f vs => PySem.call f vs) :=
 Att.attach_call hn hdf fun w _ s mg _ fa _ _ _ _ _ us ns G Y _ _ _ hmg laid nums few gens => by
  obtain ⟨K, fd, m, kin, bind, good, prom⟩ := F w mg fa _ Y G.T.g hmg
  obtain ⟨w', hw⟩ := good ns few
  exact aBZ kin G.T.g G.T.b G.T.builtins G.T.nolimit gens hr laid nums (di few hn2) prom bind w' hw
end Pc
namespace K02
open PySem PySem.Spec PyProof.Rows L2 Pc
def top (i : Nat) : Stmt := PySem.Challenge.pw_onemaster_k02_plans_equal_and_counted.main.body.getD i (.Pass ⟨0, 0, 0, 0⟩)
structure bH where
 aF : Addr
 eS : Addr
 eD : Addr
 zz : Unit := ()
def dW : List (Str × Option D) := [(("every" : Str), some (.gY [(.int 1), (.int 5)])), (("lost" : Str), some (.gY [(.int 0), (.int 3)])), (("slow" : Str), some (.gY [(.int 1), (.int 4)])), (("bears" : Str), some (.gY [(.int 0), (.int 3)])), (("gap" : Str), some (.gY [(.int 0), (.int 3)])), (("hold" : Str), some (.gY [(.int 0), (.int 20)])), (("hosts" : Str), some (.gY [(.int 0), (.int 4)])), (("takes" : Str), none), (("ties" : Str), none)]
end K02
set_option maxHeartbeats 0
namespace K02H
open PySem PySem.Spec PyProof.Rows L2 Pc K02
def xY : He.DefD := ⟨("Plan", some "__len__"), "__len__", "Plan.__len__", defArgs (inClass (top 24) 2), defBody (inClass (top 24) 2), defScope (inClass (top 24) 2), [], []⟩
def yZ : He.DefD := ⟨("in_words", none), "in_words", "in_words", defArgs (top 23), defBody (top 23), defScope (top 23), [], []⟩
def yT : He.DefD := ⟨("Plan", some "__str__"), "__str__", "Plan.__str__", defArgs (inClass (top 24) 4), defBody (inClass (top 24) 4), defScope (inClass (top 24) 4), [], []⟩
def uQ : He.DefD := ⟨("Plan", some "__repr__"), "__repr__", "Plan.__repr__", defArgs (inClass (top 24) 5), defBody (inClass (top 24) 5), defScope (inClass (top 24) 5), [], []⟩
def uG : He.DefD := ⟨("_law_deck", none), "_law_deck", "_law_deck", defArgs (top 26), defBody (top 26), defScope (top 26), [], []⟩
def u7 : He.DefD := ⟨("_law_draw", none), "_law_draw", "_law_draw", defArgs (top 27), defBody (top 27), defScope (top 27), [], []⟩
def kF : He.DefD := ⟨("_law_due_fields", none), "_law_due_fields", "_law_due_fields", defArgs (top 32), defBody (top 32), defScope (top 32), [], []⟩
def qW : He.DefD := ⟨("Plan", some "fields"), "fields", "Plan.fields", defArgs (inClass (top 24) 1), defBody (inClass (top 24) 1), defScope (inClass (top 24) 1), [], []⟩
def BW : He.DefD := ⟨("Plan", some "__eq__"), "__eq__", "Plan.__eq__", defArgs (inClass (top 24) 3), defBody (inClass (top 24) 3), defScope (inClass (top 24) 3), [], []⟩
def r8 : He.DefD := ⟨("_law_equal", none), "_law_equal", "_law_equal", defArgs (top 38), defBody (top 38), defScope (top 38), [], []⟩
def lW : He.DefD := ⟨("_law_is_within", none), "_law_is_within", "_law_is_within", defArgs (top 33), defBody (top 33), defScope (top 33), [], []⟩
def l9 : He.DefD := ⟨("_law_are_cords", none), "_law_are_cords", "_law_are_cords", defArgs (top 35), defBody (top 35), defScope (top 35), [], []⟩
def nR : He.DefD := ⟨("_law_are_rows", none), "_law_are_rows", "_law_are_rows", defArgs (top 34), defBody (top 34), defScope (top 34), [], []⟩
def rW : He.DefD := ⟨("_law_fault", none), "_law_fault", "_law_fault", defArgs (top 36), defBody (top 36), defScope (top 36), [], []⟩
def qJ : He.DefD := ⟨("_law_fields", none), "_law_fields", "_law_fields", defArgs (top 31), defBody (top 31), defScope (top 31), [], []⟩
def yV : He.DefD := ⟨("is_whole", none), "is_whole", "is_whole", defArgs (top 17), defBody (top 17), defScope (top 17), [], []⟩
def vI : He.DefD := ⟨("is_within", none), "is_within", "is_within", defArgs (top 18), defBody (top 18), defScope (top 18), [], []⟩
def vQ : He.DefD := ⟨("are_ranks", none), "are_ranks", "are_ranks", defArgs (top 19), defBody (top 19), defScope (top 19), [], []⟩
def E5 : He.DefD := ⟨("is_tie", none), "is_tie", "is_tie", defArgs (top 20), defBody (top 20), defScope (top 20), [], []⟩
def yG : He.DefD := ⟨("are_ties", none), "are_ties", "are_ties", defArgs (top 21), defBody (top 21), defScope (top 21), [], []⟩
def y6 : He.DefD := ⟨("is_field", none), "is_field", "is_field", defArgs (top 22), defBody (top 22), defScope (top 22), [], []⟩
def tY : He.DefD := ⟨("Plan", some "__init__"), "__init__", "Plan.__init__", defArgs (inClass (top 24) 0), defBody (inClass (top 24) 0), defScope (inClass (top 24) 0), [], [(("every" : Str), (.int 1)), (("lost" : Str), (.int 1)), (("slow" : Str), (.int 1)), (("bears" : Str), .non), (("gap" : Str), (.int 1)), (("hold" : Str), (.int 0)), (("takes" : Str), (.bl true)), (("ties" : Str), (.adr (Pc.kwAt ("Plan", some "__init__") "ties"))), (("hosts" : Str), (.int 0))]⟩
def gW : He.DefD := ⟨("_law_left_out_right", none), "_law_left_out_right", "_law_left_out_right", defArgs (top 39), defBody (top 39), defScope (top 39), [], []⟩
def uI : He.DefD := ⟨("_law_made", none), "_law_made", "_law_made", defArgs (top 30), defBody (top 30), defScope (top 30), [], []⟩
def lP : He.DefD := ⟨("_law_otherwise", none), "_law_otherwise", "_law_otherwise", defArgs (top 37), defBody (top 37), defScope (top 37), [], []⟩
def uU : He.DefD := ⟨("_law_pick", none), "_law_pick", "_law_pick", defArgs (top 28), defBody (top 28), defScope (top 28), [], []⟩
def u4 : He.DefD := ⟨("_law_told", none), "_law_told", "_law_told", defArgs (top 29), defBody (top 29), defScope (top 29), [], []⟩
def aBY : He.DefD := ⟨("law", none), "law", "law", defArgs (top 40), defBody (top 40), defScope (top 40), [], []⟩
def fn : List He.DefD := [xY, yZ, yT, uQ, uG, u7, kF, qW, BW, r8, lW, l9, nR, rW, qJ, yV, vI, vQ, E5, yG, y6, tY, gW, uI, lP, uU, u4, aBY]
def fa : List He.Fa := [.free "all", .free "bool", .free "int", .free "isinstance", .free "len", .free "list", .free "range", .free "repr", .free "sorted", .free "str", .free "sum", .free "tuple", .free "zip", .glo "in_words", .glo "_law_deck", .glo "_law_draw", .glo "_law_due_fields", .glo "_law_equal", .glo "_law_is_within", .glo "_law_are_cords", .glo "_law_are_rows", .glo "_law_fault", .glo "_law_fields", .glo "is_whole", .glo "is_within", .glo "are_ranks", .glo "is_tie", .glo "are_ties", .glo "is_field", .glo "_law_left_out_right", .glo "_law_made", .glo "_law_otherwise", .glo "_law_pick", .glo "_law_told", .glo "law", .glo "NUMBERS", .glo "Plan", .cls "Plan", .meth "Plan" "__eq__", .meth "Plan" "__len__", .meth "Plan" "__repr__", .meth "Plan" "__str__", .meth "Plan" "fields", .noat "Plan" "bears", .noat "Plan" "every", .noat "Plan" "gap", .noat "Plan" "hold", .noat "Plan" "hosts", .noat "Plan" "lost", .noat "Plan" "ranks", .noat "Plan" "slow", .noat "Plan" "takes", .noat "Plan" "ties", .mkr "Plan"]
def ts : List He.Tab := [((fun K => He.ga K "NUMBERS"), [("every" : Str), ("lost" : Str), ("slow" : Str), ("bears" : Str), ("gap" : Str), ("hold" : Str), ("hosts" : Str)])]
def exl (K : PySem.W.Frag) : List Bool := [zH K "EVERY" (.int 1), zH K "GAP" (.int 1), zH K "HOLD" (.int 0), zH K "LOST" (.int 1), zH K "MOST" (.int 1000), zH K "MOST_ADDRESSES" (.int 4), zH K "MOST_HOUSES" (.int 6), zH K "MOST_LESS" (.int 11), zH K "MOST_TIE" (.int 9), zH K "MOST_TIES" (.int 6), zH K "SLOW" (.int 1), zH K "TOP" (.int 12), aBy K (He.ga K "NUMBERS") dW, aG2 K ("Plan", some "__init__") "ties" (.gY []), aFV K (He.ga K "Plan"), neB K (He.ga K "Plan"), aCe K (He.ga K "Plan"), XI K (He.ga K "Plan"), QP K (He.ga K "Plan"), aGo K]
def ex (K : PySem.W.Frag) : Bool := (exl K).all id
theorem jX {K : PySem.W.Frag} (h : ex K = true) (i : Nat) {b : Bool} (hi : (exl K)[i]? = some b) : b = true := by
 unfold ex at h
 rw [bg] at h
 exact h b (cf hi)
def loose : List PySem.Str := (["EVERY", "LOST", "SLOW", "GAP", "HOLD", "TOP", "MOST", "NetError", "NoPlan", "MOST_ADDRESSES", "MOST_HOUSES", "MOST_TIES", "MOST_TIE", "MOST_LESS", "NUMBERS", "is_whole", "is_within", "are_ranks", "is_tie", "are_ties", "is_field", "in_words", "Plan", "_law_deck", "_law_draw", "_law_pick", "_law_told", "_law_made", "_law_fields", "_law_due_fields"] : List PySem.Str) ++ (["_law_is_within", "_law_are_rows", "_law_are_cords", "_law_fault", "_law_otherwise", "_law_equal", "_law_left_out_right"] : List PySem.Str)
abbrev R : PySem.W.OpenRow := PySem.W.OpenLaw.row PySem.Challenge.rw_onemaster_k02_plans_equal_and_counted
def as : List Nat := ([3, 6, 4, 24, 44, 47, 61, 68, 73, 80, 85, 92, 97, 149, 160, 167, 174, 179, 186, 193, 200, 207, 212, 219, 226, 233, 240, 247, 252, 0, 23, 43, 48, 49, 50, 51, 52, 53, 54, 60, 67, 72, 79, 84, 91, 96, 148, 159, 166, 173, 178, 185, 192, 199, 206, 211, 218, 225, 232, 239] : List Nat) ++ ([246, 251, 22, 25, 41, 42, 55, 57, 58, 59, 62, 64, 65, 66, 69, 71, 74, 76, 77, 78, 81, 83, 86, 88, 89, 90, 93, 95, 113, 120, 127, 134, 139, 146, 147, 150, 151, 154, 156, 157, 158, 161, 163, 164, 165, 168, 170, 171, 172, 175, 177, 180, 182, 183, 184, 187, 189, 190, 191, 194] : List Nat) ++ ([196, 197, 198, 201, 203, 204, 205, 208, 210, 213, 215, 216, 217, 220, 222, 223, 224, 227, 229, 230, 231, 234, 236, 237, 238, 241, 243, 244, 245, 248, 250, 40, 112, 106, 119, 126, 133, 138, 145, 35, 37, 38, 39, 107, 109, 110, 111, 105, 114, 116, 117, 118, 121, 123, 124, 125, 128, 130, 131, 132] : List Nat) ++ ([135, 137, 140, 142, 143, 144, 1, 2] : List Nat)
abbrev hk : PySem.W.Hook := He.aEU as fa fn ts ex
def ob (s : PySem.W.SharedT) : He.AlY := He.aDy as fa fn ts ex (HandSHeadRun.getT s)
theorem aH7 (s : PySem.W.SharedT) : ob s = hk.obs s.abs := He.aDS (HandSHeadRun.getT_eq s)
open PySem PySem.W PySem.Calls PyProof.Rows HandSHeadRun in
abbrev eF (w : World) (os : OsState) : Option SharedT := endF (stepQ (denQ tabQ) R.prog w) 8000 R.prog w os
open PySem PySem.W PySem.Calls PyProof.Rows in
theorem PH (w : World) (os : OsState) : (eF (w.withFollow "special-get-raises" false) os).map (fun s => (HandSHeadRun.looksF R.prog (boot_heap (w.withFollow "special-get-raises" false).params) s.abs, HandSHeadRun.seenQ (PySem.W.view R.prog [40]) loose (importedModules R.prog.main.body) (fun s => xlAt (PySem.W.view R.prog [40]) [] s && recOk R.toRowW.records s) s.abs)) = some (true, openGood (PySem.W.view R.prog [40]) loose) := by
 kernel_rfl
open PySem PySem.W PySem.Calls PyProof.Rows in
theorem VE (w : World) (os : OsState) : (eF (w.withFollow "special-get-raises" false) os).map (ob) = some (hk.val (w.withFollow "special-get-raises" false)) := by
 kernel_rfl
theorem Z3 (w : World) : HandSHeadRun.RunEq R (PySem.W.view R.prog [40]) hk ob 8000 loose (w.withFollow "special-get-raises" false) := fun os => He.aEW (PH w os) (VE w os)
open PySem PySem.W PySem.Calls PyProof.Rows in
theorem VO (w : World) (os : OsState) : (eF (w.withFollow "special-get-raises" true) os).map (fun s => (HandSHeadRun.looksF R.prog (boot_heap (w.withFollow "special-get-raises" true).params) s.abs, HandSHeadRun.seenQ (PySem.W.view R.prog [40]) loose (importedModules R.prog.main.body) (fun s => xlAt (PySem.W.view R.prog [40]) [] s && recOk R.toRowW.records s) s.abs)) = some (true, openGood (PySem.W.view R.prog [40]) loose) := by
 kernel_rfl
open PySem PySem.W PySem.Calls PyProof.Rows in
theorem ZY (w : World) (os : OsState) : (eF (w.withFollow "special-get-raises" true) os).map (ob) = some (hk.val (w.withFollow "special-get-raises" true)) := by
 kernel_rfl
theorem aAv (w : World) : HandSHeadRun.RunEq R (PySem.W.view R.prog [40]) hk ob 8000 loose (w.withFollow "special-get-raises" true) := fun os => He.aEW (VO w os) (ZY w os)
theorem run (w : World) : HandSHeadRun.RunEq R (PySem.W.view R.prog [40]) hk ob 8000 loose w := PySem.W.byRow2 "special-get-raises" (P := fun w => HandSHeadRun.RunEq R (PySem.W.view R.prog [40]) hk ob 8000 loose w) Z3 aAv w
section
 open PySem PySem.W PySem.Calls PyProof.Rows
def early : { E : Prop // E → PySem.Challenge.rw_onemaster_k02_plans_equal_and_counted.Holds } := ⟨_, fun hc => by
 w_on; o_law
 refine HandSHeadRun.head_any (r := OpenLaw.row PySem.Challenge.rw_onemaster_k02_plans_equal_and_counted) (q := view (OpenLaw.row PySem.Challenge.rw_onemaster_k02_plans_equal_and_counted).prog [40]) (H := hk) (ob := ob) (M := 8000) (loose := loose) (d := HandSHeadRun.topDef (OpenLaw.row PySem.Challenge.rw_onemaster_k02_plans_equal_and_counted).prog 40) (kwd := []) aH7
  (by kernel_rfl) (fun s => by kernel_rfl) run (by kernel_rfl) (by kernel_rfl) (by kernel_rfl) (by rfl) (by first | assumption | decide +kernel) (by decide +kernel) ⟨rfl, rfl, rfl, rfl, rfl, by decide +kernel⟩ ?hw ?hc
 case hw => w_witness2
 case hc => exact hc⟩
end
end K02H
set_option maxHeartbeats 4000000
namespace Pc
open PySem PySem.Spec PyProof.Rows L2
def GB (w : W) (d c : Nat) : Prop := d ≠ c ∧ ∃ (cells : List Int) (sm n : Int), w[d]? = some (.lst [.ref c, .int sm, .int n]) ∧ w[c]? = some (.lst (cells.map .int)) ∧ cells.length ≤ 63
def Kept (w w' : W) (d c : Nat) : Prop := w'.length = w.length ∧ ∀ i, i ≠ d → i ≠ c → w'[i]? = w[i]?
theorem QJ : ∀ cells : List Int, PyData.canLayAll0 (cells.map PyData.int) = true
 | [] => rfl
 | x :: xs => by simp [PyData.canLayAll0, PyData.canLay0, QJ xs]
theorem OZ : ∀ cells : List Int, PyData.depthAll (cells.map PyData.int) ≤ 1
 | [] => by simp [PyData.depthAll]
 | x :: xs => by
  have := OZ xs
  simp only [cg, PyData.depthAll, PyData.depth]
  omega
theorem lay_ints (cells : List Int) : SeqAt.shaped (.list (cells.map PyData.int)) = true := by
 have h1 := QJ cells
 have h2 := OZ cells
 unfold SeqAt.shaped
 simp [PyData.canLay0, PyData.depth, h1]
 omega
theorem Q4 (f : Nat → Option PyData) (cells : List Int) : D.pysR f (cells.map D.int) = some (cells.map PyData.int) := by
 induction cells with
 | nil => rfl
 | cons x xs ih => simp [D.pysR, D.eP, ih]
theorem aGw {w : W} {c : Nat} {cells : List Int} (h : w[c]? = some (.lst (cells.map D.int))) : D.py w (.ref c) = some (.list (cells.map PyData.int)) := by
 show IE 8 w c = _
 simp [IE, h, Q4]
theorem ne_nil {w : W} {c : Nat} {cells : List Int} (h : w[c]? = some (.lst (cells.map D.int))) : pT (.ref c) (.lst []) w = .ok (.bl (!cells.isEmpty)) w := by
 unfold pT tU xF
 rw [aGw h]
 have e : D.py w (.lst []) = some (.list []) := rfl
 rw [e]
 have l2 : SeqAt.shaped (.list []) = true := lay_ints []
 simp only [lay_ints, l2, and_self, ae]
 cases cells <;> simp [PyData.eqv, PyData.eqvAll]
@[irreducible] def T {α : Type} (r : Res α) (P : α → W → Prop) : Prop := match r with
 | .ok a w => P a w
 | _ => False
section
variable {α β : Type} {P Q : α → W → Prop} {r : Res α}
theorem T.ex (h : T r P) : ∃ a w, r = .ok a w ∧ P a w := by
 unfold T at h
 cases r with
 | ok a w => exact ⟨a, w, rfl, h⟩
 | HW x w => exact h.elim
 | bad => exact h.elim
theorem T.of {a : α} {w : W} (h : r = .ok a w) (p : P a w) : T r P := by unfold T; rw [h]; exact p
theorem T.mono (h : T r P) (k : ∀ a w, r = .ok a w → P a w → Q a w) : T r Q := by
 obtain ⟨a, w, e, p⟩ := h.ex
 exact T.of e (k a w e p)
theorem b7 {a : α} {w : W} : T (.ok a w) P = P a w := by unfold T; rfl
theorem aET : T .bad P = False := by unfold T; rfl
theorem bE {r : Res α} {f : α → W → Res β} {P : β → W → Prop} : T (r.bind f) P = T r fun a w => T (f a w) P := by cases r <;> (first | rfl | (unfold T; rfl) | (unfold Then; rfl))
theorem z4 : T r.OP P = T r P := by cases r <;> (first | rfl | (unfold T; rfl) | (unfold Then; rfl))
theorem LF {c : Prop} [Decidable c] {a b : Res α} : T (if c then a else b) P = (if c then T a P else T b P) := by split <;> (first | rfl | (unfold T; rfl) | (unfold Then; rfl))
theorem c5 {c : Prop} [Decidable c] {a : Res α} : T (if c then a else .bad) P = (c ∧ T a P) := by
 by_cases h : c
 ·rw [if_pos h]; exact propext ⟨fun z => ⟨h, z⟩, fun z => z.2⟩
 ·rw [if_neg h]; exact propext ⟨fun z => by unfold T at z; exact z.elim, fun z => absurd z.1 h⟩
end
section
variable {σ : Sg} {w : W} {P : D → W → Prop} {PA : List D → W → Prop} {PB : Bool → W → Prop} {PF : Fl → W → Prop} {a b c : ME} {ma mk : MA} {ta tb : MT} {sa sb : MS} {g : MG} {gs : Y8} {f : D → D → W → Res D} {d x y : D}
theorem T_C : T (eC d σ w) P = P d w := by unfold T; rfl
theorem T_V {i : Nat} : T (aB i σ w) P = (match σ[i]? with
 | some (some d) => P d w
 | _ => False) := by
 unfold aB
 cases h : σ[i]? with
 | none => unfold T; rfl
 | some o => cases o <;> (first | rfl | (unfold T; rfl) | (unfold Then; rfl))
theorem KQ : T (aD f a b σ w) P = T (a σ w) fun x w1 => T (b σ w1) fun y w2 => T (f x y w2) P := by unfold aD; simp only [bE]
theorem YX {f : D → W → Res D} : T (A6 f a σ w) P = T (a σ w) fun x w1 => T (f x w1) P := by unfold A6; simp only [bE]
theorem LG : T (jS a b σ w) P = T (a σ w) fun x w1 => T (iO x w1) fun c _ => if c = true then T (b σ w1) P else P x w1 := by unfold jS; simp only [bE, LF, b7]
theorem YR : T (eOr a b σ w) P = T (a σ w) fun x w1 => T (iO x w1) fun c _ => if c = true then P x w1 else T (b σ w1) P := by unfold eOr; simp only [bE, LF, b7]
theorem YN : T (QD ta a b σ w) P = T (ta σ w) fun c w1 => if c = true then T (a σ w1) P else T (b σ w1) P := by unfold QD; simp only [bE, LF]
theorem yM : T (aE σ w) PA = PA [] w := by unfold T; rfl
theorem tA : T (aA a ma σ w) PA = T (a σ w) fun x w1 => T (ma σ w1) fun xs w2 => PA (x :: xs) w2 := by unfold aA; simp only [bE, b7]
theorem K9 : T (bM ma σ w) P = T (ma σ w) fun xs w1 => xs.length ≤ sizeLine ∧ P (.tup xs) w1 := by unfold bM; simp only [bE, c5, b7]
theorem LB : T (eV ma σ w) P = T (ma σ w) fun xs w1 => xs.length ≤ sizeLine ∧ P (.lst xs) w1 := by unfold eV; simp only [bE, c5, b7]
theorem K1 : T (eNew ma σ w) P = T (ma σ w) fun xs w1 => xs.length ≤ sizeLine ∧ P (.ref w1.length) (w1 ++ [.lst xs]) := by unfold eNew; simp only [bE, c5, b7]
theorem JU {m : MF} : T (aQ m ma σ w) P = T (ma σ w) fun xs w1 => T (m xs w1) P := by unfold aQ; simp only [bE]
theorem C0 {t : String} {m : ZO} : T (dD t m a ma σ w) P = T (a σ w) fun d w1 => tyD d w1 = some t ∧ T (ma σ w1) fun xs w2 => T (m d xs w2) P := by unfold dD; simp only [bE, c5]
theorem B1 {m : MF} {n : Nat} {gd : List D → List D → List D} : T (aJ m n gd ma σ w) P = T (ma σ w) fun xs w1 => xs.length = n ∧ T (m (gd xs []) w1) P := by unfold aJ; simp only [bE, c5]
theorem wV {m : MF} {n j : Nat} {gd : List D → List D → List D} : T (U3 m n j gd ma mk σ w) P = T (ma σ w) fun xs w1 => T (mk σ w1) fun zs w2 => (xs.length = n ∧ zs.length = j) ∧ T (m (gd xs zs) w2) P := by unfold U3; simp only [bE, c5]
theorem YF {m : MF} {C : Addr} {h : List D → List D} : T (vL m C h w) P = T (m (h [.ref w.length]) (w ++ [.ins C []])) fun r w1 => r = .non ∧ P (.ref w.length) w1 := by
 unfold vL
 simp only [bE]
 congr 1
 funext r w1
 cases r <;> simp [T]
theorem uS {m : MF} {C : Addr} {n j : Nat} {gd : List D → List D → List D} : T (r4 C m n j gd ma mk σ w) P = T (ma σ w) fun xs w1 => T (mk σ w1) fun zs w2 => (xs.length = n ∧ zs.length = j) ∧ T (vL m C (fun s => gd (s ++ xs) zs) w2) P := by unfold r4; simp only [bE, c5]
theorem J7 {C : Addr} {z : Str} : T (bU C z a σ w) P = T (a σ w) fun x w1 => T (tD C z x w1) P := by unfold bU A6; simp only [bE]
theorem ZV {g : D → D → W → Res D} : T (TF f g a b c σ w) P = T (a σ w) fun x w1 => T (b σ w1) fun y w2 => T (f x y w2) fun r w3 => match r with
 | .bl k => if k = true then T (c σ w3) fun z w4 => T (g y z w4) P else P (.bl false) w3
 | _ => False := by
 unfold TF
 simp only [bE]
 congr 1; funext x w1; congr 1; funext y w2; congr 1; funext r w3
 cases r <;> first | (unfold T; rfl) | skip
 rename_i k
 cases k
 ·unfold T; rfl
 ·exact bE
theorem JR : T (bC a σ w) PB = T (a σ w) fun x w1 => match x with
 | .bl k => PB k w1
 | _ => False := by
 unfold bC
 simp only [bE]
 congr 1; funext x w1
 cases x <;> (first | rfl | (unfold T; rfl) | (unfold Then; rfl))
theorem KY : T (cU a σ w) PB = T (a σ w) fun x w1 => T (iO x w1) PB := by unfold cU; simp only [bE]
theorem qY : T (bT ta σ w) PB = T (ta σ w) fun k w1 => PB (!k) w1 := by unfold bT; simp only [bE, b7]
theorem CK : T (i4 ta tb σ w) PB = T (ta σ w) fun k w1 => if k = true then T (tb σ w1) PB else PB false w1 := by unfold i4; simp only [bE, LF, b7]
theorem LH : T (fE ta tb σ w) PB = T (ta σ w) fun k w1 => if k = true then PB true w1 else T (tb σ w1) PB := by unfold fE; simp only [bE, LF, b7]
theorem n9 : T (cL σ w) PB = PB true w := by unfold T; rfl
def Then (b : MS) (PF : Fl → W → Prop) : Fl → W → Prop := fun f w => match f with
 | .nx σ => T (b σ w) PF
 | f => PF f w
theorem bD : T (aK sa sb σ w) PF = T (sa σ w) (Then sb PF) := by
 unfold aK
 simp only [bE]
 congr 1; funext f w1
 cases f <;> (first | rfl | (unfold T; rfl) | (unfold Then; rfl))
theorem dM {σ : Sg} : Then sb PF (.nx σ) w = T (sb σ w) PF := by first | rfl | (unfold Then; rfl)
theorem wX {d : D} : Then sb PF (.rt d) w = PF (.rt d) w := by first | rfl | (unfold Then; rfl)
theorem KL : T (a7 a σ w) PF = T (a σ w) fun d w1 => PF (.rt d) w1 := by unfold a7; simp only [bE, b7]
theorem BU : T (cV a σ w) PF = T (a σ w) fun _ w1 => PF (.nx σ) w1 := by unfold cV; simp only [bE, b7]
theorem xI : T (dX ta sa sb σ w) PF = T (ta σ w) fun k w1 => if k = true then T (sa σ w1) PF else T (sb σ w1) PF := by unfold dX; simp only [bE, LF]
theorem CN : T (aX σ w) PF = PF (.nx σ) w := by unfold T; rfl
theorem G3 : T (aT a g σ w) PF = T (a σ w) fun d w1 => T (g d σ w1) fun s w2 => PF (.nx s) w2 := by unfold aT; simp only [bE, b7]
theorem QT {i : Nat} {PS : Sg → W → Prop} : T (aU i d σ w) PS = PS (σ.set i (some d)) w := by unfold T; rfl
theorem BN {PS : Sg → W → Prop} : T (eJ a b d σ w) PS = T (a σ w) fun o w1 => T (b σ w1) fun i w2 => T (setM o i d w2) fun _ w3 => PS σ w3 := by unfold eJ; simp only [bE, b7]
theorem yH {C : Addr} {z : Str} : T (dH C z a b σ w) PF = T (b σ w) fun x w1 => T (a σ w1) fun d w2 => T (pM C z d x w2) fun _ w3 => PF (.nx σ) w3 := by unfold dH; simp only [bE, b7]
theorem CV {n : Nat} {xs : List D} {PS : Sg → W → Prop} : T (cC n gs (.tup xs) σ w) PS = (xs.length = n ∧ T (gs xs σ w) PS) := by simp only [cC, c5]
theorem wK {n : Nat} {xs : List D} {PS : Sg → W → Prop} : T (cC n gs (.gY xs) σ w) PS = (xs.length = n ∧ T (gs xs σ w) PS) := by simp only [cC, c5]
theorem BX {PS : Sg → W → Prop} : T (cA [] σ w) PS = PS σ w := by unfold T; rfl
theorem vY {xs : List D} {PS : Sg → W → Prop} : T (aL g gs (d :: xs) σ w) PS = T (g d σ w) fun s w1 => T (gs xs s w1) PS := by simp only [aL, bE]
theorem dO {mb : MS} {N : List Str} {ds : List D} : T (bL mb N ds w) P = T (mb (begin N ds) w) fun f w1 => match f with
 | .nx _ => P .non w1
 | .rt d => P d w1
 | _ => False := by
 unfold bL
 simp only [bE]
 congr 1; funext f w1
 cases f <;> (first | rfl | (unfold T; rfl) | (unfold Then; rfl))
end
section
variable {w : W} {P : D → W → Prop} {a b : Int} {x y d : D}
theorem mO : T (bJ (.int a) (.int b) w) P = P (.int (a + b)) w := by unfold T; rfl
theorem BC : T (kX (.int a) (.int b) w) P = P (.int (a - b)) w := by unfold T; rfl
theorem xN : T (mulM (.int a) (.int b) w) P = (GF a b = true ∧ P (.int (a * b)) w) := by unfold mulM; simp only [c5, b7]
theorem tP : T (gP (.int a) (.int b) w) P = (0 < b ∧ P (.int (a % b)) w) := by unfold gP; simp only [c5, b7]
theorem qV : T (xJ (.int a) (.int b) w) P = ((0 < b ∧ b < 1073741824) ∧ P (.int (a / b)) w) := by unfold xJ; simp only [c5, b7]
theorem K2 : T (yR (.int a) w) P = P (.int (-a)) w := by unfold T; rfl
theorem YO : T (SR (.int a) (.int b) w) P = P (.bl (decide (a < b))) w := by unfold T; rfl
theorem ZH : T (GU (.int a) (.int b) w) P = P (.bl (decide (a ≤ b))) w := by unfold T; rfl
theorem ZU : T (NP (.int a) (.int b) w) P = P (.bl (decide (b < a))) w := by unfold T; rfl
theorem UE : T (geM (.int a) (.int b) w) P = P (.bl (decide (b ≤ a))) w := by unfold T; rfl
theorem sO {xs ys : List D} : T (bJ (.tup xs) (.tup ys) w) P = (xs.length + ys.length ≤ sizeLine ∧ P (.tup (xs ++ ys)) w) := by unfold bJ; simp only [c5, b7]
theorem sU {xs ys : List D} : T (bJ (.lst xs) (.lst ys) w) P = (xs.length + ys.length ≤ sizeLine ∧ P (.lst (xs ++ ys)) w) := by unfold bJ; simp only [c5, b7]
theorem D6 : T (isM x .non w) P = P (.bl x.isNon) w := by cases x <;> (first | rfl | (unfold T; rfl))
theorem J8 {p q : Bool} : T (isM (.bl p) (.bl q) w) P = P (.bl (decide (p = q))) w := by unfold T; rfl
theorem pD : T (sL x .non w) P = P (.bl (!x.isNon)) w := by cases x <;> (first | rfl | (unfold T; rfl))
theorem rH {p q : Bool} : T (sL (.bl p) (.bl q) w) P = P (.bl (!decide (p = q))) w := by unfold T; rfl
theorem J0 : T (notM x w) P = T (iO x w) fun c _ => P (.bl (!c)) w := by unfold notM; simp only [bE, b7]
theorem B9 {p : Bool} {PB : Bool → W → Prop} : T (iO (.bl p) w) PB = PB p w := by unfold T; rfl
theorem CL {PB : Bool → W → Prop} : T (iO (.int a) w) PB = PB (a != 0) w := by unfold T; rfl
theorem B7 {PB : Bool → W → Prop} : T (iO .non w) PB = PB false w := by unfold T; rfl
theorem tW {xs : List D} : T (VL xs (.int a) w) P = ∃ d, atI xs a = some d ∧ P d w := by
 show T (match atI xs a with
  | some d => Res.ok d w
  | none => .bad) P = _
 cases atI xs a with
 | none => simp [T]
 | some d => simp [T]
theorem K3 {xs : List D} : T (aS (.tup xs) y w) P = T (VL xs y w) P := by unfold T; rfl
theorem JZ {xs : List D} : T (aS (.gY xs) y w) P = T (VL xs y w) P := by unfold T; rfl
theorem tZ {xs : List D} : T (aS (.lst xs) y w) P = T (VL xs y w) P := by unfold T; rfl
theorem R0 {i : Nat} {kvs : List (Key × D)} {z : Str} (h : w[i]? = some (.dK kvs)) : T (aS (.ref i) (.str z) w) P = ∃ d, kZ kvs (.inr z) = some d ∧ P d w := by
 simp only [aS, h, rA, keyD, Option.map_some]
 cases kZ kvs (Sum.inr z) with
 | none => simp [T]
 | some d => simp [T]
theorem IM : T (gO x y w) P = ∃ r, tU x y w = some r ∧ P (.bl r) w := by
 unfold gO
 cases tU x y w with
 | none => simp [T]
 | some r => simp [T]
theorem UG : T (pT x y w) P = ∃ r, tU x y w = some r ∧ P (.bl (!r)) w := by
 unfold pT
 cases tU x y w with
 | none => simp [T]
 | some r => simp [T]
theorem EV : tU (.int a) (.int b) w = some (a == b) := by simp [tU, xF, D.py, D.eP, SeqAt.shaped, PyData.canLay0, PyData.depth, PyData.eqv]
theorem aIV : T (ZG x y w) P = ∃ r, inD x y w = some r ∧ P (.bl r) w := by
 unfold ZG
 cases inD x y w with
 | none => simp [T]
 | some r => simp [T]
theorem YK : T (cX [d] w) P = ∃ n, JB d w = some n ∧ P (.int n) w := by
 show T (match JB d w with
  | some n => Res.ok (D.int n) w
  | none => .bad) P = _
 cases JB d w with
 | none => simp [T]
 | some n => simp [T]
theorem aFo : T (qZ [d] w) P = ∃ z, HK d w = some z ∧ P (.str z) w := by
 show T (match HK d w with
  | some n => Res.ok (D.str n) w
  | none => .bad) P = _
 cases HK d w with
 | none => simp [T]
 | some n => simp [T]
theorem aBL {C : Addr} {z : Str} {i : Nat} {fs : List (Str × D)} (h : w[i]? = some (.ins C fs)) : T (tD C z (.ref i) w) P = ∃ d, fs.lookup z = some d ∧ P d w := by
 simp only [tD, h, ae]
 cases fs.lookup z with
 | none => simp [T]
 | some d => simp [T]
theorem FI {i : Nat} {xs : List D} (h : w[i]? = some (.lst xs)) : T (c8 (.ref i) [d] w) P = (xs.length < sizeLine ∧ P .non (w.set i (.lst (xs ++ [d])))) := by
 simp only [c8, h, c5, b7]
theorem aGL {i : Nat} {kvs : List (Key × D)} {z : Str} {PU : Unit → W → Prop} (h : w[i]? = some (.dK kvs)) : T (setM (.ref i) (.str z) d w) PU = (kvs.length < sizeLine ∧ PU () (w.set i (.dK (putD kvs (.inr z) d)))) := by
 simp only [setM, h, keyD, c5, b7]
theorem aBJ {C : Addr} {z : Str} {i : Nat} {fs : List (Str × D)} {PU : Unit → W → Prop} (h : w[i]? = some (.ins C fs)) : T (pM C z (.ref i) d w) PU = (fs.length < 1000 ∧ PU () (w.set i (.ins C (uE z d fs)))) := by
 simp only [pM, h, true_and, c5, b7]
end
theorem aE6 {it : lB} {g : MG} {body : MS} {P : Fl → W → Prop} (Inv : Nat → Sg → W → Prop) (ok : ∀ i σ w, Inv i σ w → it.ok w)
  (step : ∀ i x σ w, it.xs[i]? = some x → Inv i σ w → T (g x σ w) fun σ1 w1 => T (body σ1 w1) fun f w2 => match f with
   | .nx s => Inv (i + 1) s w2
   | .ct s => Inv (i + 1) s w2
   | .bk s => P (.nx s) w2
   | .rt d => P (.rt d) w2) (fin : ∀ σ w, Inv it.xs.length σ w → P (.nx σ) w) : ∀ {i : Nat} {σ : Sg} {w : W}, i ≤ it.xs.length → Inv i σ w → T (forL it g body (it.xs.drop i) σ w) P := by
 intro i
 generalize hn : it.xs.length - i = n
 induction n generalizing i with
 | zero =>
  intro σ w hi h
  have e : i = it.xs.length := by omega
  subst e
  rw [List.drop_length]
  unfold forL
  rw [if_pos (ok _ _ _ h)]
  rw [b7]; exact fin σ w h
 | succ n ih =>
  intro σ w hi h
  have hlt : i < it.xs.length := by omega
  rw [List.drop_eq_getElem_cons hlt]
  unfold forL
  rw [if_pos (ok _ _ _ h), bE]
  refine (step i _ σ w (bz hlt) h).mono fun s1 w1 _ q => ?_
  rw [bE]
  refine T.mono q fun f w2 _ q2 => ?_
  cases f with
  | nx s => exact ih (by omega) (by omega) q2
  | ct s => exact ih (by omega) (by omega) q2
  | bk s => rw [b7]; exact q2
  | rt d => rw [b7]; exact q2
theorem oY {m : MI} {g : MG} {body : MS} {σ : Sg} {w : W} {P : Fl → W → Prop} : T (fW m g body σ w) P = T (m σ w) fun it w1 => T (forL it g body it.xs σ w1) P := by unfold fW; simp only [bE]
theorem MM {it : lB} {vs : List Nat} {g : MG} {t : MT} {e : ME} {σ : Sg} {P : List D → W → Prop} (Inv : Nat → List D → W → Prop) (ok : ∀ i acc w, Inv i acc w → it.ok w)
  (step : ∀ i x acc w, it.xs[i]? = some x → Inv i acc w → T (g x (eA σ vs) w) fun σ1 w1 => T (t σ1 w1) fun b w2 => if b = true then T (e σ1 w2) fun y w3 => Inv (i + 1) (acc ++ [y]) w3 else Inv (i + 1) acc w2)
  (fin : ∀ acc w, Inv it.xs.length acc w → P acc w) : ∀ {i : Nat} {acc : List D} {w : W}, i ≤ it.xs.length → Inv i acc w → T (k0 it vs g t e (it.xs.drop i) σ w) fun ys w1 => P (acc ++ ys) w1 := by
 intro i
 generalize hn : it.xs.length - i = n
 induction n generalizing i with
 | zero =>
  intro acc w hi h
  have e : i = it.xs.length := by omega
  subst e
  rw [List.drop_length]
  unfold k0
  rw [if_pos (ok _ _ _ h)]
  rw [b7, List.append_nil]
  exact fin acc w h
 | succ n ih =>
  intro acc w hi h
  have hlt : i < it.xs.length := by omega
  rw [List.drop_eq_getElem_cons hlt]
  unfold k0
  rw [if_pos (ok _ _ _ h), bE, z4]
  refine (step i _ acc w (bz hlt) h).mono fun s1 w1 _ q => ?_
  rw [bE, z4]
  refine T.mono q fun b w2 _ q2 => ?_
  cases b with
  | true =>
   simp only [ae] at q2 ⊢
   rw [bE, z4]
   refine T.mono q2 fun y w3 _ q3 => ?_
   rw [bE]
   refine (ih (by omega) (by omega) q3).mono fun ys w4 _ q4 => ?_
   rw [b7]
   simpa using q4
  | false =>
   simp only [ax, ab] at q2 ⊢
   exact ih (by omega) (by omega) q2
theorem CJ {m : MI} {vs : List Nat} {g : MG} {t : MT} {e : ME} {σ : Sg} {w : W} {P : D → W → Prop} : T (cG m vs g t e σ w) P = T (m σ w) fun it w1 => it.xs.length ≤ sizeLine ∧ T (k0 it vs g t e it.xs σ w1) fun ys w2 => P (.lst ys) w2 := by
 unfold cG XF
 simp only [bE, c5, b7]
structure lQ (w w' : W) (d c : Nat) : Prop where
 le : w.length ≤ w'.length
 at_ : ∀ i, i < w.length → i ≠ d → i ≠ c → w'[i]? = w[i]?
section
variable {w w1 w2 : W} {d c i : Nat} {o : MO}
theorem lQ.refl : lQ w w d c := ⟨bq _, fun _ _ _ _ => rfl⟩
theorem lQ.trans (a : lQ w w1 d c) (b : lQ w1 w2 d c) : lQ w w2 d c := ⟨di a.le b.le, fun i h1 h2 h3 => (b.at_ i (dv h1 a.le) h2 h3).trans (a.at_ i h1 h2 h3)⟩
theorem Kept.refl : Kept w w d c := ⟨rfl, fun _ _ _ => rfl⟩
theorem Kept.trans (a : Kept w w1 d c) (b : Kept w1 w2 d c) : Kept w w2 d c := ⟨b.1.trans a.1, fun i h1 h2 => (b.2 i h1 h2).trans (a.2 i h1 h2)⟩
theorem Kept.obj (a : Kept w w1 d c) (h : w[i]? = some o) (h1 : i ≠ d) (h2 : i ≠ c) : w1[i]? = some o := by rw [a.2 i h1 h2]; exact h
theorem Kept.grow (k : Kept w w1 d c) : lQ w w1 d c := ⟨Nat.le_of_eq k.1.symm, fun i _ h2 h3 => k.2 i h2 h3⟩
theorem lQ.app {g : W} : lQ w (w ++ g) d c := ⟨by simp, fun i h _ _ => by rw [av h]⟩
theorem lQ.obj (a : lQ w w1 d c) (h : w[i]? = some o) (h1 : i ≠ d) (h2 : i ≠ c) : w1[i]? = some o := by rw [a.at_ i (aj.mp h).1 h1 h2]; exact h
theorem GB.lt (h : GB w d c) : d < w.length ∧ c < w.length := by
 obtain ⟨_, cells, sm, n, h1, h2, _⟩ := h
 exact ⟨(aj.mp h1).1, (aj.mp h2).1⟩
theorem GB.app {g : W} (h : GB w d c) : GB (w ++ g) d c := by
 obtain ⟨l1, l2⟩ := h.lt
 obtain ⟨hne, cells, sm, n, h1, h2, h3⟩ := h
 exact ⟨hne, cells, sm, n, by rw [av l1]; exact h1, by rw [av l2]; exact h2, h3⟩
theorem GB.set (h : GB w d c) (h1 : i ≠ d) (h2 : i ≠ c) : GB (w.set i o) d c := by
 obtain ⟨hne, cells, sm, n, g1, g2, g3⟩ := h
 exact ⟨hne, cells, sm, n, by rw [az h1]; exact g1, by rw [az h2]; exact g2, g3⟩
end
theorem atI_nat {xs : List D} {r : Int} (h0 : 0 ≤ r) (h1 : r < xs.length) : ∃ (i : Nat) (x : D), xs[i]? = some x ∧ atI xs r = some x ∧ (i : Int) = r := by
 have l : r.toNat < xs.length := by omega
 refine ⟨r.toNat, xs[r.toNat], bz l, ?_, by omega⟩
 unfold atI ixN
 rw [if_pos h0, if_pos h1]
 show xs[r.toNat]? = _
 exact bz l
section
variable {σ : Sg} {w : W} {PI : lB → W → Prop} {P : D → W → Prop}
theorem CZ {m : ME} : T (eQ m σ w) PI = T (m σ w) fun d w1 => T (iterM d w1) PI := by unfold eQ; simp only [bE]
theorem yF {f : List D → W → Res lB} {ma : MA} : T (fU f ma σ w) PI = T (ma σ w) fun xs w1 => T (f xs w1) PI := by unfold fU; simp only [bE]
theorem KP {xs : List D} : T (iterM (.tup xs) w) PI = PI ⟨xs, always⟩ w := by unfold T; rfl
theorem K6 {xs : List D} : T (iterM (.lst xs) w) PI = PI ⟨xs, always⟩ w := by unfold T; rfl
theorem CM {n : Int} (h : 0 ≤ n) (h2 : n < 1073741824) : T (nH [.int n] w) PI = PI (jM 0 n.toNat) w := by
 simp only [nH]
 rw [if_pos (by constructor <;> omega)]
 unfold T; rfl
theorem wC {PO : Option Int → W → Prop} : T (cW σ w) PO = PO none w := by unfold T; rfl
theorem wN {m : ME} {PO : Option Int → W → Prop} : T (cN m σ w) PO = T (m σ w) fun d w1 => match d with
 | .int i => PO (some i) w1
 | _ => False := by
 unfold cN
 simp only [bE]
 congr 1; funext d w1
 cases d <;> (unfold T; rfl)
theorem Y6 {f : D → Option Int → Option Int → W → Res D} {a : ME} {lo hi : MO'} : T (oM f a lo hi σ w) P = T (a σ w) fun x w1 => T (lo σ w1) fun l w2 => T (hi σ w2) fun u w3 => T (f x l u w3) P := by unfold oM; simp only [bE]
theorem wG : ∀ ns : List Int, nB (ns.map D.int) = some ns
 | [] => rfl
 | n :: ns => by simp [nB, wG ns]
theorem aCN {ns : List Int} {lo hi : Option Int} : ∃ ms : List Int, cutD (ns.map D.int) lo hi = ms.map D.int ∧ ms.length ≤ ns.length := by
 unfold cutD
 rw [← List.map_drop, ← List.map_take]
 exact ⟨_, rfl, by simp; omega⟩
end
def c7 (r : List Int) : D := .tup (r.map .int)
def cQ (t : Int × Int × Int) : D := .tup [.int t.1, .int t.2.1, .int t.2.2]
structure Mo where
 cP : List (List Int)
 j3 : Int
 xE : Int
 tT : Int
 bears : D
 gap : Int
 hold : Int
 takes : Bool
 dE : List (Int × Int × Int)
 f7 : Int
def Mo.kvs (m : Mo) : List (Key × D) := [(.inr "ranks", .tup (m.cP.map c7)), (.inr "every", .int m.j3), (.inr "lost", .int m.xE), (.inr "slow", .int m.tT), (.inr "bears", m.bears), (.inr "gap", .int m.gap), (.inr "hold", .int m.hold),
 (.inr "takes", .bl m.takes), (.inr "ties", .tup (m.dE.map cQ)), (.inr "hosts", .int m.f7)]
structure aCI (rs : List (List Int)) (h : Nat) : Prop where
 h1 : 1 ≤ h
 h6 : h ≤ 6
 row : ∀ r ∈ rs, r.length = h ∧ ∀ x ∈ r, 1 ≤ x ∧ x ≤ 12
structure aGC (ts : List (Int × Int × Int)) (h : Nat) : Prop where
 few : ts.length ≤ 6
 each : ∀ t ∈ ts, (0 ≤ t.1 ∧ t.1 < h) ∧ (0 ≤ t.2.1 ∧ t.2.1 ≤ 9) ∧ (1 ≤ t.2.2 ∧ t.2.2 ≤ 11)
 up : ts.Pairwise fun a b => a.1 < b.1 ∨ (a.1 = b.1 ∧ a.2.1 < b.2.1)
theorem A8 {n : Nat} {i : Nat} {x : D} {lo : Int} (h : (jM lo n).xs[i]? = some x) : i < n ∧ x = .int (lo + i) := by
 have h' : ((List.range n).map fun k : Nat => D.int (lo + (k : Int)))[i]? = some x := h
 rw [cu] at h'
 by_cases hi : i < n
 ·rw [List.getElem?_range hi] at h'
  cases h'
  exact ⟨hi, rfl⟩
 ·rw [List.getElem?_eq_none (by simpa using hi)] at h'
  cases h'
theorem oL {n : Nat} {lo : Int} : (jM lo n).xs.length = n := by simp [jM]
open PySem.W (dataLe)
def l3 (t : Int × Int × Int) : List Int := [t.1, t.2.1, t.2.2]
def G1 (t u : Int × Int × Int) : Bool := decide (l3 t ≤ l3 u)
theorem ZJ {w : W} {ts : List (Int × Int × Int)} : (ts.map cQ).mergeSort (dataLe false (OB w)) = (ts.mergeSort G1).map cQ := by
 refine (List.map_mergeSort fun a _ b _ => ?_).symm
 have e : dataLe false (OB w) (cQ a) (cQ b) = dataLe false (fun t : Int × Int × Int => .list ((l3 t).map .int)) a b := rfl
 rw [e, PySem.W.dataLe_rows]
 rfl
theorem QO {ts : List (Int × Int × Int)} : (ts.mergeSort G1).Pairwise fun a b => l3 a ≤ l3 b := by
 have h := List.pairwise_mergeSort (le := G1) (fun a b c h1 h2 => by
  simp only [G1, aq] at *
  exact List.le_trans h1 h2) (fun a b => by
  simp only [G1, Bool.or_eq_true, aq]
  exact List.le_total _ _) ts
 exact h.imp fun h => by simpa [G1] using h
def pairD (p : Int × Int) : D := .tup [.int p.1, .int p.2]
theorem aE9 {t : Int × Int × Int} {w : W} : g6 (cQ t) none (some 2) w = .ok (pairD (t.1, t.2.1)) w := rfl
section
variable {σ : Sg} {w : W} {P : D → W → Prop} {PP : List (D × D) → W → Prop}
theorem V7 : T (ID σ w) PP = PP [] w := by unfold T; rfl
theorem NF {a b : ME} {r : MP} : T (eI a b r σ w) PP = T (a σ w) fun k w1 => T (b σ w1) fun v w2 => T (r σ w2) fun ps w3 => PP ((k, v) :: ps) w3 := by unfold eI; simp only [bE, b7]
theorem aBX {m : MP} : T (GD m σ w) P = T (m σ w) fun ps w1 => ∃ kvs, keyed ps = some kvs ∧ kvs.length ≤ 15 ∧ P (.ref w1.length) (w1 ++ [.dK (uK [] kvs)]) := by
 unfold GD
 simp only [bE]
 congr 1; funext ps w1
 cases keyed ps with
 | none => simp [T]
 | some kvs => simp [c5, b7]
end
section
variable {α β : Type} {it : lB} {vs : List Nat} {g : MG} {t : MT} {e : ME} {σ : Sg} {w : W} {P : List D → W → Prop}
theorem mK (ys : List α) (enc : α → D) (f : α → D) (hx : it.xs = ys.map enc) (hok : it.ok w)
  (h : ∀ y ∈ ys, T (g (enc y) (eA σ vs) w) fun σ1 w1 => T (t σ1 w1) fun b w2 => b = true ∧ T (e σ1 w2) fun z w3 => z = f y ∧ w3 = w) (k : P (ys.map f) w) :
  T (k0 it vs g t e it.xs σ w) P := by
 have cl := MM (it := it) (vs := vs) (g := g) (t := t) (e := e) (σ := σ) (P := P) (fun i acc w1 => w1 = w ∧ acc = (ys.take i).map f) (fun _ _ _ q => by rw [q.1]; exact hok)
  (fun i x acc w1 hi q => by
   obtain ⟨rfl, rfl⟩ := q
   rw [hx, cu] at hi
   cases hy : ys[i]? with
   | none => rw [hy] at hi; cases hi
   | some y =>
    rw [hy] at hi
    cases hi
    refine (h y (cf hy)).mono fun σ1 w2 _ q => q.mono fun b w3 _ q => ?_
    obtain ⟨rfl, q⟩ := q
    rw [if_pos rfl]
    refine q.mono fun z w4 _ q => ⟨q.2, ?_⟩
    rw [List.take_add_one, hy, q.1]
    simp)
  (fun acc w1 q => by
   obtain ⟨rfl, rfl⟩ := q
   rw [hx, ay, List.take_length]
   exact k) (i := 0) (acc := []) (w := w) (Nat.zero_le _) ⟨rfl, rfl⟩
 rw [List.drop_zero] at cl
 exact cl.mono fun _ _ _ q => by simpa using q
theorem MN (ys : List α) (enc : α → D) (f : α → D) (p : α → Bool) (hx : it.xs = ys.map enc) (hok : it.ok w)
  (h : ∀ y ∈ ys, T (g (enc y) (eA σ vs) w) fun σ1 w1 => T (t σ1 w1) fun b w2 => (w2 = w ∧ b = p y) ∧ (p y = true → T (e σ1 w2) fun z w3 => z = f y ∧ w3 = w)) (k : P ((ys.filter p).map f) w) :
  T (k0 it vs g t e it.xs σ w) P := by
 have cl := MM (it := it) (vs := vs) (g := g) (t := t) (e := e) (σ := σ) (P := P) (fun i acc w1 => w1 = w ∧ acc = ((ys.take i).filter p).map f) (fun _ _ _ q => by rw [q.1]; exact hok)
  (fun i x acc w1 hi q => by
   obtain ⟨rfl, rfl⟩ := q
   rw [hx, cu] at hi
   cases hy : ys[i]? with
   | none => rw [hy] at hi; cases hi
   | some y =>
    rw [hy] at hi
    cases hi
    refine (h y (cf hy)).mono fun σ1 w2 _ q => q.mono fun b w3 _ q => ?_
    obtain ⟨⟨rfl, rfl⟩, q⟩ := q
    rw [List.take_add_one, hy]
    by_cases hp : p y = true
    ·rw [if_pos hp]
     refine (q hp).mono fun z w4 _ q => ⟨q.2, ?_⟩
     rw [q.1]
     simp [List.filter_append, hp]
    ·rw [if_neg hp]
     refine ⟨rfl, ?_⟩
     simp [List.filter_append, hp])
  (fun acc w1 q => by
   obtain ⟨rfl, rfl⟩ := q
   rw [hx, ay, List.take_length]
   exact k) (i := 0) (acc := []) (w := w) (Nat.zero_le _) ⟨rfl, rfl⟩
 rw [List.drop_zero] at cl
 exact cl.mono fun _ _ _ q => by simpa using q
theorem VA (ys : List α) (f : α → Bool) : u3 (ys.map fun y => D.bl (f y)) = some (ys.map f) := by
 induction ys with
 | nil => rfl
 | cons y ys ih => simp [u3, ih]
theorem G0 {P : D → W → Prop} (ys : List α) (f : α → Bool) : T (allM [.lst (ys.map fun y => .bl (f y))] w) P = P (.bl (ys.all f)) w := by
 have e : allM [.lst (ys.map fun y => .bl (f y))] w = .ok (.bl (ys.all f)) w := by
  simp only [allM, xG, Option.bind_some, VA]
  congr 2
  rw [List.all_map]
  rfl
 rw [e, b7]
theorem aEX (enc f : β → D) : ∀ (zs : List β) (acc : List D) {P : List D → W → Prop} (hok : it.ok w) (hl : acc.length + zs.length ≤ sizeLine)
  (h : ∀ z ∈ zs, T (g (enc z) (eA σ vs) w) fun σ1 w1 => T (t σ1 w1) fun b w2 => b = true ∧ T (e σ1 w2) fun y w3 => y = f z ∧ w3 = w) (k : P (acc ++ zs.map f) w), T (inL it vs g t e acc (zs.map enc) σ w) P
 | [], acc, P, hok, hl, h, k => by
  rw [List.map_nil]
  unfold inL
  rw [if_pos hok, b7]
  simpa using k
 | z :: zs, acc, P, hok, hl, h, k => by
  simp only [ck] at hl
  rw [cg]
  unfold inL
  rw [if_pos hok, bE, z4]
  refine (h z (bc ..)).mono fun σ1 w1 _ q => ?_
  rw [bE, z4]
  refine q.mono fun b w2 _ q => ?_
  obtain ⟨rfl, q⟩ := q
  rw [if_pos rfl, bE, z4]
  refine q.mono fun y w3 _ q => ?_
  rw [if_pos (by omega), q.1, q.2]
  exact aEX enc f zs (acc ++ [f z]) hok (by simp; omega) (fun z hz => h z (br _ hz)) (by simpa using k)
theorem aA2 (enc : α → D) (inner : α → List β) (enc1 : β → D) (f : α → β → D) {mi1 : MI} {vs1 : List Nat} {g1 : MG} {t1 : MT} : ∀ (ys : List α) (acc : List D) {P : List D → W → Prop} (hok : it.ok w) (hl : acc.length + (ys.map fun y => (inner y).length).sum ≤ sizeLine)
  (h : ∀ y ∈ ys, T (g (enc y) (eA σ vs) w) fun σ1 w1 => T (t σ1 w1) fun b w2 => b = true ∧ T (mi1 σ1 w2) fun it1 w3 => (w3 = w ∧ it1.ok w ∧ it1.xs = (inner y).map enc1) ∧
   ∀ z ∈ inner y, T (g1 (enc1 z) (eA σ1 vs1) w) fun σ2 w4 => T (t1 σ2 w4) fun b w5 => b = true ∧ T (e σ2 w5) fun v w6 => v = f y z ∧ w6 = w)
  (k : P (acc ++ ys.flatMap fun y => (inner y).map (f y)) w), T (AG it vs g t mi1 vs1 g1 t1 e acc (ys.map enc) σ w) P
 | [], acc, P, hok, hl, h, k => by
  rw [List.map_nil]
  unfold AG
  rw [if_pos hok, b7]
  simpa using k
 | y :: ys, acc, P, hok, hl, h, k => by
  simp only [cg, List.sum_cons] at hl
  rw [cg]
  unfold AG
  rw [if_pos hok, bE, z4]
  refine (h y (bc ..)).mono fun σ1 w1 _ q => ?_
  rw [bE, z4]
  refine q.mono fun b w2 _ q => ?_
  obtain ⟨rfl, q⟩ := q
  rw [if_pos rfl, bE, z4]
  refine q.mono fun it1 w3 _ q => ?_
  obtain ⟨⟨ew, i1, i2⟩, q⟩ := q
  rw [bE, i2, ew]
  refine aEX enc1 (f y) (inner y) acc i1 (by omega) q ?_
  exact aA2 enc inner enc1 f ys _ hok (by simp; omega) (fun z hz => h z (br _ hz)) (by simpa using k)
theorem aD3 {m mi1 : MI} {vs1 : List Nat} {g1 : MG} {t1 : MT} {P : D → W → Prop} : T (GR m vs g t mi1 vs1 g1 t1 e σ w) P = T (m σ w) fun it w1 => T (AG it vs g t mi1 vs1 g1 t1 e [] it.xs σ w1) fun ys w2 => P (.lst ys) w2 := by
 unfold GR aAC
 simp only [bE, b7]
end
end Pc
namespace Lb
open PySem PySem.Spec PyProof.Rows L2 Pc
structure bH where
 aF : Addr
 eS : Addr
def dW : List (Str × Option D) := [(("every" : Str), some (.gY [(.int 1), (.int 5)])), (("lost" : Str), some (.gY [(.int 0), (.int 3)])), (("slow" : Str), some (.gY [(.int 1), (.int 4)])), (("bears" : Str), some (.gY [(.int 0), (.int 3)])), (("gap" : Str), some (.gY [(.int 0), (.int 3)])), (("hold" : Str), some (.gY [(.int 0), (.int 20)])), (("hosts" : Str), some (.gY [(.int 0), (.int 4)])), (("takes" : Str), none), (("ties" : Str), none)]
def gL : List Str := [("thing" : Str)]
def jL (k : bH) : MS :=
 (a7 (jS (aQ (fS iB) (aA (aB 0) (aA (eC (.ty "int")) aE))) (A6 notM (aQ (fS iB) (aA (aB 0) (aA (eC (.ty "bool")) aE))))))
def gN (k : bH) : MF := bL (jL k) gL
theorem D2 (x0 : D) : begin gL [x0] = [some x0] := rfl
def fP : List Str := [("thing" : Str), ("least" : Str), ("most" : Str)]
def iJ (k : bH) : MS :=
 (a7 (jS (aJ (gN k) 1 aM (aA (aB 0) aE)) (TF GU GU (aB 1) (aB 0) (aB 2))))
def bG (k : bH) : MF := bL (iJ k) fP
theorem zW (x0 x1 x2 : D) : begin fP [x0, x1, x2] = [some x0, some x1, some x2] := rfl
def jU : List Str := [("thing" : Str), ("row" : Str), ("rank" : Str)]
def nJ (k : bH) : MS :=
 (aK (dX (fE (bT (cU (aQ (fS iB) (aA (aB 0) (aA (eC (.ty "tuple")) aE))))) (bT (bC (TF GU GU (eC (.int 1)) (aQ cX (aA (aB 0) aE)) (eC (.int 4)))))) (a7 (eC (.bl false))) aX)
 (aK (dX (bT (cU (aQ allM (aA (cG (eQ (aB 0)) [1] (aU 1) cL (jS (aQ (fS iB) (aA (aB 1) (aA (eC (.ty "tuple")) aE))) (aD GU (aQ cX (aA (aB 1) aE)) (eC (.int 6))))) aE)))) (a7 (eC (.bl false))) aX)
 (aK (dX (fE (bC (aD gO (aD aS (aB 0) (eC (.int 0))) (bM aE))) (bT (cU (aQ allM (aA (cG (eQ (aB 0)) [1] (aU 1) cL (aD gO (aQ cX (aA (aB 1) aE)) (aQ cX (aA (aD aS (aB 0) (eC (.int 0))) aE)))) aE))))) (a7 (eC (.bl false))) aX)
 (a7 (aQ allM (aA (GR (eQ (aB 0)) [1, 2] (aU 1) cL (eQ (aB 1)) [2] (aU 2) cL (aJ (bG k) 3 aM (aA (aB 2) (aA (eC (.int 1)) (aA (eC (.int 12)) aE))))) aE))))))
def fQ (k : bH) : MF := bL (nJ k) jU
theorem OF (x0 : D) : begin jU [x0] = [some x0, none, none] := rfl
def rQ : List Str := [("thing" : Str), ("houses" : Str), ("house" : Str), ("tie" : Str), ("less" : Str)]
def vJ (k : bH) : MS :=
 (aK (dX (fE (bT (cU (aQ (fS iB) (aA (aB 0) (aA (eC (.ty "tuple")) aE))))) (bC (aD pT (aQ cX (aA (aB 0) aE)) (eC (.int 3))))) (a7 (eC (.bl false))) aX)
 (aK (aT (aB 0) (cC 3 (aL (aU 2) (aL (aU 3) (aL (aU 4) cA)))))
 (a7 (jS (aJ (bG k) 3 aM (aA (aB 2) (aA (eC (.int 0)) (aA (aD kX (aB 1) (eC (.int 1))) aE)))) (jS (aJ (bG k) 3 aM (aA (aB 3) (aA (eC (.int 0)) (aA (eC (.int 9)) aE)))) (aJ (bG k) 3 aM (aA (aB 4) (aA (eC (.int 1)) (aA (eC (.int 11)) aE)))))))))
def rK (k : bH) : MF := bL (vJ k) rQ
theorem Y0 (x0 x1 : D) : begin rQ [x0, x1] = [some x0, some x1, none, none, none] := rfl
def jO : List Str := [("thing" : Str), ("houses" : Str), ("one" : Str), ("other" : Str)]
def lK (k : bH) : MS :=
 (aK (dX (fE (bT (cU (aQ (fS iB) (aA (aB 0) (aA (eC (.ty "tuple")) aE))))) (fE (bC (aD NP (aQ cX (aA (aB 0) aE)) (eC (.int 6)))) (bT (cU (aQ allM (aA (cG (eQ (aB 0)) [2] (aU 2) cL (aJ (rK k) 2 aM (aA (aB 2) (aA (aB 1) aE)))) aE)))))) (a7 (eC (.bl false))) aX)
 (a7 (aQ allM (aA (cG (fU zsM (aA (oM g6 (aB 0) cW (cN (A6 yR (eC (.int 1))))) (aA (oM g6 (aB 0) (cN (eC (.int 1))) cW) aE))) [2, 3] (cC 2 (aL (aU 2) (aL (aU 3) cA))) cL (aD SR (oM g6 (aB 2) cW (cN (eC (.int 2)))) (oM g6 (aB 3) cW (cN (eC (.int 2)))))) aE))))
def iD (k : bH) : MF := bL (lK k) jO
theorem OV (x0 x1 : D) : begin jO [x0, x1] = [some x0, some x1, none, none] := rfl
def lH : List Str := [("name" : Str), ("thing" : Str), ("houses" : Str), ("least" : Str), ("most" : Str)]
def iI (k : bH) : MS :=
 (aK (dX (bC (aD (ZD k.eS dW) (aB 0) (eC (.con k.eS)))) (aK (aT (aD (U2 k.eS dW) (eC (.con k.eS)) (aB 0)) (cC 2 (aL (aU 3) (aL (aU 4) cA))))
 (a7 (aJ (bG k) 3 aM (aA (aB 1) (aA (aB 3) (aA (aB 4) aE)))))) aX)
 (aK (dX (bC (aD gO (aB 0) (eC (.str ("takes" : Str))))) (a7 (aQ (fS iB) (aA (aB 1) (aA (eC (.ty "bool")) aE)))) aX)
 (a7 (aJ (iD k) 2 aM (aA (aB 1) (aA (aB 2) aE))))))
def cK (k : bH) : MF := bL (iI k) lH
theorem qG (x0 x1 x2 : D) : begin lH [x0, x1, x2] = [some x0, some x1, some x2, none, none] := rfl
def gI : List Str := [("self" : Str), ("ranks" : Str), ("every" : Str), ("lost" : Str), ("slow" : Str), ("bears" : Str), ("gap" : Str), ("hold" : Str), ("takes" : Str), ("ties" : Str), ("hosts" : Str), ("borne" : Str), ("told" : Str), ("name" : Str), ("thing" : Str)]
def nC (k : bH) : MS :=
 (aK (dX (bT (cU (aJ (fQ k) 1 aM (aA (aB 1) aE)))) N7 aX)
 (aK (aT (QD (bC (aD isM (aB 5) (eC .non))) (aB 3) (aB 5)) (aU 11))
 (aK (aT (GD (eI (eC (.str ("every" : Str))) (aB 2) (eI (eC (.str ("lost" : Str))) (aB 3) (eI (eC (.str ("slow" : Str))) (aB 4) (eI (eC (.str ("bears" : Str))) (aB 11) (eI (eC (.str ("gap" : Str))) (aB 6) (eI (eC (.str ("hold" : Str))) (aB 7) (eI (eC (.str ("takes" : Str))) (aB 8) ID)))))))) (aU 12))
 (aK (cV (dD "dict" U5 (aB 12) (aA (GD (eI (eC (.str ("ties" : Str))) (aB 9) (eI (eC (.str ("hosts" : Str))) (aB 10) ID))) aE)))
 (aK (fW (wM (aB 12)) (cC 2 (aL (aU 13) (aL (aU 14) cA))) (dX (bT (cU (aJ (cK k) 3 aM (aA (aB 13) (aA (aB 14) (aA (aQ cX (aA (aD aS (aB 1) (eC (.int 0))) aE)) aE)))))) N7 aX))
 (aK (dH k.aF ("ranks" : Str) (aB 0) (aB 1))
 (aK (dH k.aF ("every" : Str) (aB 0) (aB 2))
 (aK (dH k.aF ("lost" : Str) (aB 0) (aB 3))
 (aK (dH k.aF ("slow" : Str) (aB 0) (aB 4))
 (aK (dH k.aF ("bears" : Str) (aB 0) (aB 11))
 (aK (dH k.aF ("gap" : Str) (aB 0) (aB 6))
 (aK (dH k.aF ("hold" : Str) (aB 0) (aB 7))
 (aK (dH k.aF ("takes" : Str) (aB 0) (aB 8))
 (aK (dH k.aF ("ties" : Str) (aB 0) (aB 9))
 (dH k.aF ("hosts" : Str) (aB 0) (aB 10))))))))))))))))
def eO (k : bH) : MF := bL (nC k) gI
abbrev dS (k : bH) : List D → List D → List D := fun xs zs => j7 [(0, 0), (0, 1), (1, 0), (1, 1), (1, 2), (1, 3), (1, 4), (1, 5), (1, 6), (1, 7), (1, 8)] xs zs []
def j5 : List Str := [("_law_model_here" : Str), ("_law_words" : Str), ("_law_word" : Str)]
def nK (k : bH) : MS :=
 (aK (aT (cG (eQ (bM (aA (eC (.str ("every" : Str))) (aA (eC (.str ("lost" : Str))) (aA (eC (.str ("slow" : Str))) (aA (eC (.str ("bears" : Str))) (aA (eC (.str ("gap" : Str))) (aA (eC (.str ("hold" : Str))) (aA (eC (.str ("takes" : Str))) (aA (eC (.str ("ties" : Str))) (aA (eC (.str ("hosts" : Str))) aE))))))))))) [2] (aU 2) cL (aD aS (aB 0) (aB 2))) (aU 1))
 (a7 (r4 k.aF (eO k) 1 9 (dS k) (aA (aD aS (aB 0) (eC (.str ("ranks" : Str)))) aE) (aA (aD aS (aB 1) (eC (.int 0))) (aA (aD aS (aB 1) (eC (.int 1))) (aA (aD aS (aB 1) (eC (.int 2))) (aA (aD aS (aB 1) (eC (.int 3))) (aA (aD aS (aB 1) (eC (.int 4))) (aA (aD aS (aB 1) (eC (.int 5))) (aA (aD aS (aB 1) (eC (.int 6))) (aA (aD aS (aB 1) (eC (.int 7))) (aA (aD aS (aB 1) (eC (.int 8))) aE))))))))))))
def dU (k : bH) : MF := bL (nK k) j5
def Z4 : List Str := [("plan" : Str), ("rank" : Str)]
def ZF (k : bH) : MS :=
 (a7 (aD bJ (eC (.int 2)) (aD mulM (bU k.aF ("gap" : Str) (aB 0)) (aD kX (eC (.int 12)) (aB 1)))))
def Y7 (k : bH) : MF := bL (ZF k) Z4
def G5 : List Str := [("plan" : Str), ("lost" : Str)]
def FG (k : bH) : MS :=
 (a7 (aD bJ (aD mulM (aD bJ (aB 1) (eC (.int 1))) (bU k.aF ("every" : Str) (aB 0))) (bU k.aF ("slow" : Str) (aB 0))))
def FL (k : bH) : MF := bL (FG k) G5
def Z7 : List Str := [("plan" : Str), ("rank" : Str)]
def ZX (k : bH) : MS :=
 (a7 (aD bJ (aJ (FL k) 2 aM (aA (aB 0) (aA (bU k.aF ("bears" : Str) (aB 0)) aE))) (aD mulM (bU k.aF ("gap" : Str) (aB 0)) (aD kX (eC (.int 12)) (aB 1)))))
def KH (k : bH) : MF := bL (ZX k) Z7
def lJ : List Str := [("self" : Str)]
def pH (k : bH) : MS :=
 (a7 (aQ cX (aA (aD aS (bU k.aF ("ranks" : Str) (aB 0)) (eC (.int 0))) aE)))
def dQ (k : bH) : MF := bL (pH k) lJ
section
variable {w : W} {P : D → W → Prop} (k : bH)
theorem sz (n : Nat) (h : n ≤ 1000) : n ≤ sizeLine := by rw [sizeLine_eq]; omega
theorem aF4 {a b : Int} : T (gO (.int a) (.int b) w) P = P (.bl (a == b)) w := by
 rw [IM, EV]
 simp
theorem GC {a b : Int} : T (pT (.int a) (.int b) w) P = P (.bl (!(a == b))) w := by
 rw [UG, EV]
 simp
theorem yI {xs : List D} : T (cX [.tup xs] w) P = P (.int xs.length) w := by rw [YK]; simp [JB, D.items]
theorem aHO {xs : List D} : T (cX [.lst xs] w) P = P (.int xs.length) w := by rw [YK]; simp [JB, D.items]
theorem aIW {xs : List D} : T (cX [.gY xs] w) P = P (.int xs.length) w := by rw [YK]; simp [JB, D.items]
theorem at0 {x : D} {xs : List D} : atI (x :: xs) 0 = some x := by
 unfold atI ixN
 rw [if_pos (by omega), if_pos (by simp)]
 rfl
end
section
variable {w : W} {P : D → W → Prop} (k : bH)
theorem aIM {xs ys : List D} {PI : lB → W → Prop} : T (zsM [.tup xs, .tup ys] w) PI = (xs.length = ys.length ∧ PI ⟨(xs.zip ys).map fun p => .tup [p.1, p.2], always⟩ w) := by
 simp only [zsM, zI, c5, b7]
theorem aC8 {xs : List D} : g6 (.tup xs) none (some (-1)) w = .ok (.tup xs.dropLast) w := by
 simp only [g6, Pc.cutD, HT.sIx]
 congr 2
 rw [if_pos (by omega), List.drop_zero, List.dropLast_eq_take]
 congr 1
 omega
theorem aEh {xs : List D} : g6 (.tup xs) (some 1) none w = .ok (.tup xs.tail) w := by
 simp only [g6, Pc.cutD, HT.sIx]
 congr 2
 rw [if_neg (by omega)]
 cases xs with
 | nil => simp
 | cons x xs => simp
theorem aDY {p q : Int × Int} : SR (pairD p) (pairD q) w = .ok (.bl (HT.lexLt [p.1, p.2] [q.1, q.2])) w := rfl
theorem WN {a : Addr} {tab : List (Str × Option D)} {z : Str} {o : Option D} (h : tab.lookup z = some o) : T (ZD a tab (.str z) (.con a) w) P = P (.bl o.isSome) w := by
 simp only [ZD, ae, h, b7]
theorem aGX {a : Addr} {tab : List (Str × Option D)} {z : Str} {d : D} (h : tab.lookup z = some (some d)) : T (U2 a tab (.con a) (.str z) w) P = P d w := by
 simp only [U2, ae, h, b7]
theorem EU {a b : Str} (ha : PyData.strOk a = true) (hb : PyData.strOk b = true) : tU (.str a) (.str b) w = some (a == b) := by
 simp [tU, xF, D.py, D.eP, SeqAt.shaped, PyData.canLay0, PyData.depth, PyData.eqv, ha, hb]
theorem NG {a b : Str} {r : Bool} (h : tU (.str a) (.str b) w = some r) : T (gO (.str a) (.str b) w) P = P (.bl r) w := by
 rw [IM, h]
 simp
end
section
variable {w : W} {P : D → W → Prop} {PF : Fl → W → Prop} {PI : lB → W → Prop} {σ : Sg}
theorem W3 {i : Nat} {kvs : List (Key × D)} (h : w[i]? = some (.dK kvs)) : T (CQ (.ref i) w) PI = PI ⟨kvs.map fun p => .tup [iS p.1, p.2], always⟩ (w.set i (.dF kvs)) := by
 simp only [CQ, h, b7]
theorem HE {m : ME} : T (wM m σ w) PI = T (m σ w) fun d w1 => T (CQ d w1) PI := by unfold wM; simp only [bE]
def Turn (next : Sg → W → Prop) (PF : Fl → W → Prop) : Fl → W → Prop := fun f w => match f with
 | .nx s => next s w
 | .ct s => next s w
 | .bk s => PF (.nx s) w
 | .rt d => PF (.rt d) w
open Classical in
theorem aA1 {it : lB} {g : MG} {b : MS} : T (forL it g b [] σ w) PF = (it.ok w ∧ PF (.nx σ) w) := by
 unfold forL
 rw [c5, b7]
open Classical in
theorem y9 {it : lB} {g : MG} {b : MS} {x : D} {xs : List D} : T (forL it g b (x :: xs) σ w) PF = (it.ok w ∧ T (g x σ w) fun σ1 w1 => T (b σ1 w1) (Turn (fun s w2 => T (forL it g b xs s w2) PF) PF)) := by
 conv => lhs; unfold forL
 rw [c5, bE]
 congr 1; congr 1; funext σ1 w1
 rw [bE]
 congr 1; funext f w2
 cases f <;> simp only [b7, Turn]
theorem aFt {i j : Nat} {kvs more : List (Key × D)} (h1 : w[i]? = some (.dK kvs)) (h2 : w[j]? = some (.dK more)) : T (U5 (.ref i) [.ref j] w) P = ((i ≠ j ∧ kvs.length + more.length ≤ sizeLine) ∧ P .non (w.set i (.dK (uK kvs more)))) := by
 simp only [U5, h1, h2, c5, b7]
structure MoB (m : Mo) (h : Nat) : Prop where
 cP : aCI m.cP h
 n1 : 1 ≤ m.cP.length
 n4 : m.cP.length ≤ 4
 j3 : 1 ≤ m.j3 ∧ m.j3 ≤ 5
 xE : 0 ≤ m.xE ∧ m.xE ≤ 3
 tT : 1 ≤ m.tT ∧ m.tT ≤ 4
 gap : 0 ≤ m.gap ∧ m.gap ≤ 3
 hold : 0 ≤ m.hold ∧ m.hold ≤ 20
 dE : aGC m.dE h
 f7 : 0 ≤ m.f7 ∧ m.f7 ≤ 4
def aA4 (m : Mo) (b : Int) : List (Str × D) := [("ranks", .tup (m.cP.map c7)), ("every", .int m.j3), ("lost", .int m.xE), ("slow", .int m.tT), ("bears", .int b), ("gap", .int m.gap), ("hold", .int m.hold), ("takes", .bl m.takes), ("ties", .tup (m.dE.map cQ)), ("hosts", .int m.f7)]
theorem qH {p i : Nat} {C : Addr} {fs : List (Str × D)} {z : Str} {d : D} (h : w[p]? = some (.ins C fs)) (h0 : σ[0]? = some (some (.ref p))) (h1 : σ[i]? = some (some d)) (hl : fs.length < 1000) (q : PF (.nx σ) (w.set p (.ins C (uE z d fs)))) : T (dH C z (aB 0) (aB i) σ w) PF := by
 simp only [yH, T_V, h0, h1, aBJ h]
 exact ⟨hl, q⟩
variable (k : bH)
end
section
variable {w : W} {P : D → W → Prop} {PF : Fl → W → Prop} {PI : lB → W → Prop} {σ : Sg}
theorem sl0 : (0 ≤ sizeLine) = True := eq_true (sz _ (by omega))
theorem sl1 : (0 + 1 ≤ sizeLine) = True := eq_true (sz _ (by omega))
theorem sl2 : (0 + 1 + 1 ≤ sizeLine) = True := eq_true (sz _ (by omega))
theorem sl3 : (0 + 1 + 1 + 1 ≤ sizeLine) = True := eq_true (sz _ (by omega))
theorem sl4 : (0 + 1 + 1 + 1 + 1 ≤ sizeLine) = True := eq_true (sz _ (by omega))
theorem sl5 : (0 + 1 + 1 + 1 + 1 + 1 ≤ sizeLine) = True := eq_true (sz _ (by omega))
theorem sl6 : (0 + 1 + 1 + 1 + 1 + 1 + 1 ≤ sizeLine) = True := eq_true (sz _ (by omega))
theorem sl7 : (0 + 1 + 1 + 1 + 1 + 1 + 1 + 1 ≤ sizeLine) = True := eq_true (sz _ (by omega))
theorem sl8 : (0 + 1 + 1 + 1 + 1 + 1 + 1 + 1 + 1 ≤ sizeLine) = True := eq_true (sz _ (by omega))
theorem sl9 : (0 + 1 + 1 + 1 + 1 + 1 + 1 + 1 + 1 + 1 ≤ sizeLine) = True := eq_true (sz _ (by omega))
theorem aIH : (0 + 1 + 1 + 1 + 1 + 1 + 1 + 1 + 1 + 1 + 1 ≤ sizeLine) = True := eq_true (sz _ (by omega))
theorem aIt : (0 + 1 + 1 + 1 + 1 + 1 + 1 + 1 + 1 + 1 + 1 + 1 ≤ sizeLine) = True := eq_true (sz _ (by omega))
theorem aIC : (0 + 1 + 1 + 1 + 1 + 1 + 1 + 1 + 1 + 1 + 1 + 1 + 1 ≤ sizeLine) = True := eq_true (sz _ (by omega))
variable (k : bH)
def i7 (w : W) (p : Nat) (m : Mo) (b : Int) : Prop := w[p]? = some (.ins k.aF (aA4 m b))
variable {k} {p : Nat} {m : Mo} {b : Int}
theorem JJ {z : Str} {d : D} (h : i7 k w p m b) (e : (aA4 m b).lookup z = some d) : T (tD k.aF z (.ref p) w) P = P d w := by
 rw [aBL h, e]
 simp
theorem aC9 (h : i7 k w p m b) : T (tD k.aF "ranks" (.ref p) w) P = P (.tup (m.cP.map c7)) w := JJ h rfl
theorem aCJ (h : i7 k w p m b) : T (tD k.aF "every" (.ref p) w) P = P (.int m.j3) w := JJ h rfl
theorem aGM (h : i7 k w p m b) : T (tD k.aF "lost" (.ref p) w) P = P (.int m.xE) w := JJ h rfl
theorem aGH (h : i7 k w p m b) : T (tD k.aF "slow" (.ref p) w) P = P (.int m.tT) w := JJ h rfl
theorem aC4 (h : i7 k w p m b) : T (tD k.aF "bears" (.ref p) w) P = P (.int b) w := JJ h rfl
theorem aH8 (h : i7 k w p m b) : T (tD k.aF "gap" (.ref p) w) P = P (.int m.gap) w := JJ h rfl
theorem aFB (h : i7 k w p m b) : T (tD k.aF "hold" (.ref p) w) P = P (.int m.hold) w := JJ h rfl
theorem aCQ (h : i7 k w p m b) : T (tD k.aF "takes" (.ref p) w) P = P (.bl m.takes) w := JJ h rfl
theorem aAV (h : i7 k w p m b) : T (tD k.aF "ties" (.ref p) w) P = P (.tup (m.dE.map cQ)) w := JJ h rfl
theorem aCW (h : i7 k w p m b) : T (tD k.aF "hosts" (.ref p) w) P = P (.int m.f7) w := JJ h rfl
def A7 (m : Mo) (b r : Int) : Int := (b + 1) * m.j3 + m.tT + m.gap * (12 - r)
theorem at3 {a b c : Int} {x : Int} (h0 : 0 ≤ x) (h1 : x < 3) : ∃ y, atI [D.int a, D.int b, D.int c] x = some (.int y) ∧ (y = a ∨ y = b ∨ y = c) := by
 have : x = 0 ∨ x = 1 ∨ x = 2 := by omega
 rcases this with rfl | rfl | rfl
 ·exact ⟨a, rfl, .inl rfl⟩
 ·exact ⟨b, rfl, .inr (.inl rfl)⟩
 ·exact ⟨c, rfl, .inr (.inr rfl)⟩
variable (k)
end
theorem iF (a b : Str) : PyData.strOk (a ++ b) = (PyData.strOk a && PyData.strOk b) := by
 show Array.all (a.cps ++ b.cps) _ = _
 unfold PyData.strOk
 rw [Array.all_append]
theorem fK (s : String) : PyData.strOk (Str.ofString s) = true := by
 rw [Str.ofString_eq_toList]
 unfold PyData.strOk
 rw [Array.all_eq_true_iff_forall_mem]
 intro c hc
 simp only [List.mem_toArray, cb] at hc
 obtain ⟨ch, _, rfl⟩ := hc
 have := ch.valid
 simp only [aq]
 have h2 : ch.toNat < 0x110000 := by
  have h3 : ch.toNat = ch.val.toNat := rfl
  rcases this with h | ⟨_, h⟩
  ·rw [h3]; exact Nat.lt_trans h (by decide)
  ·rw [h3]; exact h
 exact h2
theorem qF : ∀ (ts : List Str) (k : Nat) (acc : Str), PyData.strOk acc = true → (∀ t ∈ ts, PyData.strOk t = true) → PyData.strOk (textFrom k acc ts) = true
 | [], k, acc, h, _ => h
 | t :: ts, k, acc, h, ht => by
  unfold textFrom
  refine qF ts (k + 1) _ ?_ fun x hx => ht x (br _ hx)
  rw [iF, iF, h, ht t (bc ..), fK]
  rfl
theorem AK (sep : Str) (hs : PyData.strOk sep = true) : ∀ ts : List Str, (∀ t ∈ ts, PyData.strOk t = true) → PyData.strOk (Str.join sep ts) = true
 | [], _ => by show PyData.strOk Str.empty = true; decide +kernel
 | [x], h => h x (bc ..)
 | x :: y :: r, h => by
  show PyData.strOk (x ++ sep ++ Str.join sep (y :: r)) = true
  rw [iF, iF, hs, h x (bc ..), AK sep hs (y :: r) fun t ht => h t (br _ ht)]
  rfl
mutual
/-- data of short numbers and fine short texts, lists and tuples of such -/
def eK : PyData → Bool
 | .none | .bool _ => true
 | .int i => decide (i.natAbs < 10 ^ 40)
 | .str x => PyData.strOk (reprText x) && PyData.strOk x && PyData.leavesShort 60 (.str x) && decide (x.length ≤ 100)
 | .list xs | .tuple xs => plainPs xs
 | .dict _ => false
def plainPs : List PyData → Bool
 | [] => true
 | x :: xs => eK x && plainPs xs
end
mutual
theorem C8 : ∀ p : PyData, eK p = true → PyData.strOk p.shown = true
 | .none, _ => fK _
 | .bool b, _ => by cases b <;> exact fK _
 | .int i, _ => fK _
 | .str x, h => by
  simp only [eK, ak] at h
  exact h.1.1.1
 | .list xs, h => by
  rw [eK] at h
  show PyData.strOk (textFrom 0 "[" (PyData.shownAll xs) ++ "]") = true
  rw [iF, qF _ _ _ (fK _) (plains_shown xs h), fK]
  rfl
 | .tuple xs, h => by
  rw [eK] at h
  show PyData.strOk (tupleText (PyData.shownAll xs)) = true
  unfold tupleText
  rw [iF, iF, fK, AK _ (fK _) _ (plains_shown xs h)]
  split <;> rw [fK] <;> rfl
 | .dict _, h => by simp [eK] at h
theorem plains_shown : ∀ ps : List PyData, plainPs ps = true → ∀ t ∈ PyData.shownAll ps, PyData.strOk t = true
 | [], _, t, ht => by simp [PyData.shownAll] at ht
 | p :: ps, h, t, ht => by
  simp only [plainPs, ak] at h
  simp only [PyData.shownAll, bu] at ht
  rcases ht with rfl | ht
  ·exact C8 p h.1
  ·exact plains_shown ps h.2 t ht
end
theorem CF {i : Int} (h : i.natAbs < 10 ^ 40) : PyData.leavesShort 60 (.int i) = true := by
 have e := int_text_length_le10 (k := 40) (by decide) h
 simp only [PyData.leavesShort, aq]
 show (Str.ofString (toString i)).length ≤ 60
 rw [PySem.ofString_length]
 omega
theorem zR {i : Int} (h : i.natAbs < 10 ^ 40) : PyData.showable (.int i) = true := by
 simp only [PyData.showable, aq]
 by_cases h0 : i.natAbs = 0
 ·rw [h0]; decide
 ·rw [Nat.log2_lt h0]
  exact dv h (by decide +kernel)
mutual
theorem plain_all : ∀ p : PyData, eK p = true → p.leavesShort 60 = true ∧ p.showable = true ∧ p.hasDict = false ∧ p.canLay0 = true
 | .none, _ => by simp [PyData.leavesShort, PyData.showable, PyData.hasDict, PyData.canLay0]
 | .bool b, _ => by simp [PyData.leavesShort, PyData.showable, PyData.hasDict, PyData.canLay0]
 | .int i, h => by
  simp only [eK, aq] at h
  exact ⟨CF h, zR h, by simp [PyData.hasDict], by simp [PyData.canLay0]⟩
 | .str x, h => by
  simp only [eK, ak] at h
  exact ⟨h.1.2, by simp [PyData.showable], by simp [PyData.hasDict], by simp [PyData.canLay0, h.1.1.2]⟩
 | .list xs, h => by
  rw [eK] at h
  have := plains_all xs h
  simp only [PyData.leavesShort, PyData.showable, PyData.hasDict, PyData.canLay0]
  exact this
 | .tuple xs, h => by
  rw [eK] at h
  have := plains_all xs h
  simp only [PyData.leavesShort, PyData.showable, PyData.hasDict, PyData.canLay0]
  exact this
 | .dict _, h => by simp [eK] at h
theorem plains_all : ∀ p : List PyData, plainPs p = true → PyData.leavesShortAll 60 p = true ∧ PyData.showableAll p = true ∧ PyData.hasDictAll p = false ∧ PyData.canLayAll0 p = true
 | [], _ => by simp [PyData.leavesShortAll, PyData.showableAll, PyData.hasDictAll, PyData.canLayAll0]
 | p :: ps, h => by
  simp only [plainPs, ak] at h
  obtain ⟨a1, a2, a3, a4⟩ := plain_all p h.1
  obtain ⟨b1, b2, b3, b4⟩ := plains_all ps h.2
  simp only [PyData.leavesShortAll, PyData.showableAll, PyData.hasDictAll, PyData.canLayAll0, a1, a2, a3, a4, b1, b2, b3, b4]
  simp
end
structure Fit (p : PyData) : Prop where
 plain : eK p = true
 bulk : p.bulk ≤ 200000
 deep : p.depth ≤ 40
section
variable {w : W} {P : D → W → Prop} {x y : D} {p q : PyData}
theorem Fit.shaped (h : Fit p) : SeqAt.shaped p = true := by
 have h1 := (plain_all p h.plain).2.2.2
 have h2 := h.deep
 unfold SeqAt.shaped
 simp [h1]
 omega
theorem aBo (e : x.py w = some p) (h : Fit p) : HK x w = some p.shown := by
 obtain ⟨a1, a2, a3, a4⟩ := plain_all p h.plain
 unfold HK
 rw [e]
 have b := PyData.shown_le_bulk 60 (by decide) p a1
 have d := h.deep
 have z := h.bulk
 simp only []
 rw [if_pos]
 refine ⟨a2, a3, by omega, ?_⟩
 have := sizeLine_eq
 have : (60 + 2) * p.bulk ≤ 62 * 200000 := Nat.mul_le_mul_left _ z
 omega
theorem VP (e : x.py w = some p) (h : Fit p) : T (qZ [x] w) P = P (.str p.shown) w := by
 rw [aFo, aBo e h]
 simp
theorem BF {a b : Str} (ha : PyData.strOk a = true) (hb : PyData.strOk b = true) : tU (.str a) (.str b) w = some (decide (a = b)) := by
 rw [EU ha hb]
 rfl
theorem aDF {xs : List Int} : D.py w (.lst (xs.map D.int)) = some (.list (xs.map PyData.int)) := by
 show (D.pysR _ (xs.map D.int)).map PyData.list = _
 rw [Q4]
 rfl
end
theorem uW {it : lB} {g : MG} {body : MS} {P : Fl → W → Prop} {σ : Sg} {w : W} (Inv : Nat → Sg → W → Prop) (ok : ∀ i σ w, Inv i σ w → it.ok w) (init : Inv 0 σ w)
  (step : ∀ i x σ w, it.xs[i]? = some x → Inv i σ w → T (g x σ w) fun σ1 w1 => T (body σ1 w1) (Turn (Inv (i + 1)) P)) (fin : ∀ σ w, Inv it.xs.length σ w → P (.nx σ) w) : T (forL it g body it.xs σ w) P := by
 have fl := aE6 (it := it) (g := g) (body := body) (P := P) Inv ok (fun i x σ w h1 h2 => (step i x σ w h1 h2).mono fun s1 w1 _ q => q.mono fun f w2 _ q2 => by cases f <;> exact q2) fin (i := 0) (σ := σ) (w := w) (Nat.zero_le _) init
 rw [List.drop_zero] at fl
 exact fl
theorem EK {it : lB} {vs : List Nat} {g : MG} {t : MT} {e : ME} {σ : Sg} {w : W} {P : List D → W → Prop} (Inv : Nat → List D → W → Prop) (ok : ∀ i acc w, Inv i acc w → it.ok w) (init : Inv 0 [] w)
  (step : ∀ i x acc w, it.xs[i]? = some x → Inv i acc w → T (g x (eA σ vs) w) fun σ1 w1 => T (t σ1 w1) fun b w2 => if b = true then T (e σ1 w2) fun y w3 => Inv (i + 1) (acc ++ [y]) w3 else Inv (i + 1) acc w2)
  (fin : ∀ acc w, Inv it.xs.length acc w → P acc w) : T (k0 it vs g t e it.xs σ w) P := by
 have cl := MM (it := it) (vs := vs) (g := g) (t := t) (e := e) (σ := σ) (P := P) Inv ok step fin (i := 0) (acc := []) (w := w) (Nat.zero_le _) init
 rw [List.drop_zero] at cl
 exact cl.mono fun _ _ _ q => by simpa using q
theorem aCv {x : Int} (h0 : 0 ≤ x) (h1 : x ≤ 3) : x = 0 ∨ x = 1 ∨ x = 2 ∨ x = 3 := by omega
theorem aAN {m : Mo} {h : Nat} {b r : Int} (o : MoB m h) (b0 : 0 ≤ b) (b3 : b ≤ 3) (r0 : -100 ≤ r) (r1 : r ≤ 100) : -2000 ≤ A7 m b r ∧ A7 m b r ≤ 2000 := by
 have e := o.j3
 have s := o.tT
 have g := o.gap
 unfold A7
 generalize m.j3 = x at *
 generalize m.tT = y at *
 generalize m.gap = z at *
 rcases aCv b0 b3 with rfl | rfl | rfl | rfl <;> rcases aCv g.1 g.2 with rfl | rfl | rfl | rfl <;> omega
theorem nab {x : Int} (h0 : -100000000 ≤ x) (h1 : x ≤ 100000000) : x.natAbs < 10 ^ 40 := by
 have : x.natAbs ≤ 100000000 := by omega
 exact Nat.lt_of_le_of_lt this (by decide)
section
variable {w : W} {P : D → W → Prop} {k : bH} {p h : Nat} {m : Mo} {b : Int}
theorem aBs {C : Addr} {mf : MF} {fs : List (Str × D)} (hp : w[p]? = some (.ins C fs)) : T (uC C mf [.ref p] w) P = T (mf [.ref p] w) fun d w1 => match d with
 | .int n => (0 ≤ n ∧ n < 2 ^ 62) ∧ P (.int n) w1
 | _ => False := by
 simp only [uC, hp, ae, bE]
 congr 1; funext d w1
 cases d <;> first | (simp only [c5, b7]; done) | (unfold T; rfl)
theorem XZ {x y a b : Int} (x0 : 0 ≤ x) (xa : x ≤ a) (y0 : 0 ≤ y) (yb : y ≤ b) : 0 ≤ x * y ∧ x * y ≤ a * b :=
 ⟨Int.mul_nonneg x0 y0, Int.le_trans (Int.mul_le_mul_of_nonneg_right xa y0) (Int.mul_le_mul_of_nonneg_left yb (by omega))⟩
end
inductive Role where
 | rests | aBP | TR
deriving DecidableEq
def Role.s : Role → Str
 | .rests => "rests"
 | .aBP => "waits"
 | .TR => "serves"
structure CT where
 left : Int
 a : Int
 s : Int
 r : Int
 rank : Int
structure BL where
 living : List Int
 parts : List Int
 downs : List Int
 cP : List (List Int)
 eG : List (List (Role × Int))
 mF : List CT
 m5 : List (List (List Int))
 tables : List (List Int)
 asks : List (Int × Int)
def aGm (p : Role × Int) : D := .tup [.str p.1.s, .int p.2]
def aHk (r : List (Role × Int)) : D := .tup (r.map aGm)
def aEC (l : CT) : D := .tup [.int l.left, .int l.a, .int l.s, .int l.r, .int l.rank]
def aEZ (l : List (List Int)) : D := .tup (l.map c7)
abbrev FAR : Int := 1000000000000000000000000000000000000000000000000000000000000
def aDq (j3 lives : Int) (p : Role × Int) : Prop := (p.1 = .rests ∧ lives = 0 ∧ p.2 = 0) ∨ (lives ≠ 0 ∧ p.1 = .aBP ∧ 1 ≤ p.2 ∧ p.2 ≤ FAR) ∨ (lives ≠ 0 ∧ p.1 = .TR ∧ 1 ≤ p.2 ∧ p.2 ≤ j3)
structure aFv (m : Mo) (h : Nat) (l : CT) : Prop where
 left : 1 ≤ l.left ∧ l.left ≤ m.tT
 a : 0 ≤ l.a ∧ l.a ≤ (m.cP.length : Int) - 1
 s : 0 ≤ l.s ∧ l.s ≤ (h : Int) - 1
 r : 0 ≤ l.r ∧ l.r ≤ (h : Int) + m.f7 - 1
 ne : l.r ≠ l.s
 rank : 0 ≤ l.rank ∧ l.rank ≤ 12
structure aBf (m : Mo) (h : Nat) (s : BL) : Prop where
 living : s.living.length = h ∧ ∀ x ∈ s.living, 0 ≤ x ∧ x ≤ 1
 parts : (s.parts.length : Int) = h + m.f7 ∧ ∀ x ∈ s.parts, 0 ≤ x ∧ x ≤ 1
 downs : (∀ x ∈ s.downs, (0 ≤ x ∧ x ≤ 9) ∧ x ∈ m.dE.map fun t => t.2.1) ∧ s.downs.Pairwise (· < ·)
 cP : s.cP.length = m.cP.length ∧ ∀ r ∈ s.cP, r.length = h ∧ ∀ x ∈ r, 1 ≤ x ∧ x ≤ 12
 eG : s.eG.length = m.cP.length ∧ ∀ r ∈ s.eG, r.length = h ∧ ∀ p ∈ s.living.zip r, aDq m.j3 p.1 p.2
 mF : ∀ l ∈ s.mF, aFv m h l
 few : s.mF.length ≤ 100000
 m5 : s.m5.length = m.cP.length ∧ ∀ l ∈ s.m5, l.length = h ∧ ∀ (j : Nat) (r : List Int), l[j]? = some r → (r.length : Int) = h + m.f7 ∧ (∀ x ∈ r, 0 ≤ x ∧ x ≤ m.xE) ∧ r[j]? = some 0
 tables : (s.tables.length : Int) = m.f7 ∧ ∀ r ∈ s.tables, r.length = m.cP.length ∧ ∀ x ∈ r, -1 ≤ x ∧ x ≤ (h : Int) - 1
 asks : (s.asks.length : Int) = m.f7 ∧ ∀ p ∈ s.asks, 0 ≤ p.2 ∧ p.2 ≤ p.1 ∧ p.1 ≤ FAR
section
variable {w : W} {P : D → W → Prop} {k : bH} {p h : Nat} {m : Mo} {b : Int}
theorem xH (n : Nat) (h : n ≤ 1000000) : n ≤ sizeLine := by rw [sizeLine_eq]; omega
end
section
variable {w : W} {P : D → W → Prop} {k : bH} {p h : Nat} {m : Mo} {b : Int}
theorem aDe {x : Int} {xs : List Int} : inD (.int x) (.lst (xs.map D.int)) w = some (decide (x ∈ xs)) := by
 show LK (.int x) (.lst (xs.map D.int)) w = _
 unfold LK
 have e1 : D.py w (.int x) = some (.int x) := rfl
 rw [e1, aDF]
 have l1 : SeqAt.shaped (.int x) = true := by simp [SeqAt.shaped, PyData.canLay0, PyData.depth]
 simp only [l1, lay_ints, and_self, ae]
 congr 1
 rw [List.any_map]
 induction xs with
 | nil => simp
 | cons y ys ih =>
  rw [List.any_cons, ih]
  simp only [Function.comp_apply, PyData.eqv, bu]
  by_cases h : y = x
  ·subst h; simp
  ·have h' : x ≠ y := fun z => h z.symm
   simp [h, h']
end
section
variable {w : W} {P : D → W → Prop} {k : bH} {p h : Nat} {m : Mo} {b : Int}
theorem g9 {xs : List D} {j : Nat} {d : D} (e : xs[j]? = some d) : atI xs (j : Int) = some d := by
 have hl := (aj.mp e).1
 unfold atI ixN
 rw [if_pos (by omega), if_pos (by omega)]
 exact e
end
section
variable {w : W} {P : D → W → Prop} {k : bH} {p h : Nat} {m : Mo} {b : Int}
def first (m : Mo) (b : Int) (h : Nat) : BL where
 living := List.replicate h 1
 parts := List.replicate (h + m.f7.toNat) 0
 downs := []
 cP := m.cP
 eG := m.cP.map fun r => r.map fun x => (.aBP, A7 m b x + m.hold)
 mF := []
 m5 := m.cP.map fun _ => List.replicate h (List.replicate (h + m.f7.toNat) 0)
 tables := List.replicate m.f7.toNat (List.replicate m.cP.length (-1))
 asks := List.replicate m.f7.toNat (0, 0)
theorem pY {α : Type} {n : Nat} {a x : α} (e : x ∈ List.replicate n a) : x = a := List.eq_of_mem_replicate e
theorem O6 (o : MoB m h) (b0 : 0 ≤ b) (b3 : b ≤ 3) : aBf m h (first m b h) := by
 have ho := o.f7
 have hh := o.hold
 have h1 := o.cP.h1
 have l0 := o.xE
 refine ⟨⟨by simp [first], fun x hx => ?_⟩, ⟨by simp [first]; omega, fun x hx => ?_⟩, ⟨by simp [first], by simp [first]⟩, ⟨rfl, fun r hr => o.cP.row r hr⟩, ⟨by simp [first], fun r hr => ?_⟩, by simp [first], by simp [first], ⟨by simp [first], fun l hl => ?_⟩, ⟨by simp [first]; omega, fun r hr => ?_⟩, ⟨by simp [first]; omega, fun q hq => ?_⟩⟩
 ·obtain rfl := pY hx; omega
 ·obtain rfl := pY hx; omega
 ·simp only [first, cb] at hr
  obtain ⟨r0, hr0, rfl⟩ := hr
  refine ⟨by simp [(o.cP.row r0 hr0).1], fun q hq => ?_⟩
  obtain ⟨q1, q2⟩ := q
  have z := List.of_mem_zip hq
  have e1 : q1 = 1 := pY z.1
  simp only [cb] at z
  obtain ⟨x, hx, e2⟩ := z.2
  have bx := (o.cP.row r0 hr0).2 x hx
  have wb := aAN (r := x) o b0 b3 (by omega) (by omega)
  have wp : 1 ≤ A7 m b x := by
   have e := o.j3
   have s := o.tT
   have g := o.gap
   have m2 := XZ (x := b + 1) (a := 4) (y := m.j3) (b := 5) (by omega) (by omega) (by omega) (by omega)
   have m4 := XZ (x := m.gap) (a := 3) (y := 12 - x) (b := 12) (by omega) (by omega) (by omega) (by omega)
   unfold A7; omega
  subst e2
  refine .inr (.inl ⟨by show q1 ≠ 0; omega, rfl, by show 1 ≤ A7 m b x + m.hold; omega, ?_⟩)
  show A7 m b x + m.hold ≤ 1000000000000000000000000000000000000000000000000000000000000
  omega
 ·simp only [first, cb] at hl
  obtain ⟨r0, hr0, rfl⟩ := hl
  refine ⟨by simp, fun j r hr => ?_⟩
  have hj : j < h := by
   have := (aj.mp hr).1
   simpa using this
  have e := pY (cf hr)
  subst e
  refine ⟨by simp; omega, fun x hx => ?_, ?_⟩
  ·obtain rfl := pY hx; omega
  ·rw [List.getElem?_replicate, if_pos (by omega)]
 ·obtain rfl := pY (show r ∈ List.replicate m.f7.toNat (List.replicate m.cP.length (-1)) from hr)
  refine ⟨by simp, fun x hx => ?_⟩
  obtain rfl := pY hx; omega
 ·obtain rfl := pY (show q ∈ List.replicate m.f7.toNat (0, 0) from hq)
  refine ⟨by simp, by simp, ?_⟩
  show (0 : Int) ≤ 1000000000000000000000000000000000000000000000000000000000000
  decide
theorem aFW {xs : List D} : T (iC [.lst xs] w) P = P (.tup xs) w := by
 have e : iC [.lst xs] w = .ok (.tup xs) w := rfl
 rw [e, b7]
end
structure cO (n d : Nat) (x : D) : Prop where
 ex : ∃ q, (∀ f, x.eP f = some q) ∧ eK q = true ∧ q.bulk ≤ n ∧ q.depth ≤ d
structure bR (n d : Nat) (xs : List D) : Prop where
 ex : ∃ qs, (∀ f, D.pysR f xs = some qs) ∧ plainPs qs = true ∧ PyData.bulkAll qs ≤ n ∧ PyData.depthAll qs ≤ d
section
variable {n n' d d' : Nat} {x : D} {xs : List D}
theorem cO.mono (h : cO n d x) (h1 : n ≤ n') (h2 : d ≤ d') : cO n' d' x := by
 obtain ⟨q, a, b, c, e⟩ := h.ex
 exact ⟨q, a, b, by omega, by omega⟩
theorem cO.int {i : Int} (h : i.natAbs < 10 ^ 40) : cO 0 1 (.int i) := ⟨.int i, fun _ => rfl, by simp only [eK, aq]; exact h, by simp [PyData.bulk], by simp [PyData.depth]⟩
theorem cO.bl {b : Bool} : cO 0 1 (.bl b) := ⟨.bool b, fun _ => rfl, by simp [eK], by simp [PyData.bulk], by simp [PyData.depth]⟩
theorem cO.str {s : Str} (h : eK (.str s) = true) : cO 100 1 (.str s) := by
 refine ⟨.str s, fun _ => rfl, h, ?_, by simp [PyData.depth]⟩
 simp only [eK, ak, aq] at h
 exact h.2
theorem bR.nil : bR 0 0 [] := ⟨[], fun _ => rfl, rfl, by simp [PyData.bulkAll], by simp [PyData.depthAll]⟩
theorem bR.cons (h : cO n d x) (t : bR n' d xs) : bR (n + 1 + n') d (x :: xs) := by
 obtain ⟨q, a1, a2, a3, a4⟩ := h.ex
 obtain ⟨qs, b1, b2, b3, b4⟩ := t.ex
 refine ⟨q :: qs, fun f => by simp [D.pysR, a1, b1], by simp [plainPs, a2, b2], by simp only [PyData.bulkAll]; omega, ?_⟩
 simp only [PyData.depthAll]
 omega
theorem bR.mono (h : bR n d xs) (h1 : n ≤ n') (h2 : d ≤ d') : bR n' d' xs := by
 obtain ⟨q, a, b, c, e⟩ := h.ex
 exact ⟨q, a, b, by omega, by omega⟩
theorem bR.all : ∀ {xs : List D}, (∀ x ∈ xs, cO n d x) → bR (xs.length * (n + 1)) d xs
 | [], _ => bR.nil.mono (Nat.zero_le _) (Nat.zero_le _)
 | x :: xs, h => by
  refine (bR.cons (h x (bc ..)) (bR.all fun y hy => h y (br _ hy))).mono ?_ (bq _)
  rw [ck, Nat.succ_mul]
  omega
theorem cO.tup (h : bR n d xs) : cO n (d + 1) (.tup xs) := by
 obtain ⟨qs, b1, b2, b3, b4⟩ := h.ex
 refine ⟨.tuple qs, fun f => by simp [D.eP, b1], by rw [eK]; exact b2, by rw [PyData.bulk]; exact b3, by rw [PyData.depth]; omega⟩
theorem cO.lst (h : bR n d xs) : cO n (d + 1) (.lst xs) := by
 obtain ⟨qs, b1, b2, b3, b4⟩ := h.ex
 refine ⟨.list qs, fun f => by simp [D.eP, b1], by rw [eK]; exact b2, by rw [PyData.bulk]; exact b3, by rw [PyData.depth]; omega⟩
theorem cO.yJ {c : Nat} (h : ∀ x ∈ xs, cO n d x) (hl : xs.length ≤ c) : cO (c * (n + 1)) (d + 1) (.tup xs) :=
 (cO.tup (bR.all h)).mono (Nat.mul_le_mul_right _ hl) (bq _)
theorem cO.fit (h : cO n d x) (h1 : n ≤ 200000) (h2 : d ≤ 40) : ∃ q, (∀ w, x.py w = some q) ∧ Fit q := by
 obtain ⟨q, a, b, c, e⟩ := h.ex
 exact ⟨q, fun w => a _, b, by omega, by omega⟩
theorem cO.row {xs : List Int} {c : Nat} (h : ∀ x ∈ xs, x.natAbs < 10 ^ 40) (hl : xs.length ≤ c) : cO c 2 (c7 xs) := by
 refine (cO.yJ (n := 0) (d := 1) (c := c) (fun y hy => ?_) (by rw [ay]; exact hl)).mono (by omega) (bq _)
 obtain ⟨x, hx, rfl⟩ := cb.mp hy
 exact cO.int (h x hx)
theorem cO.role (r : Role) : cO 100 1 (.str r.s) := cO.str (by cases r <;> decide +kernel)
end
section
variable {σ : Sg} {w : W} {P : D → W → Prop} {PF : Fl → W → Prop} {PU : Unit → W → Prop} {a b : ME}
theorem aED {i j : Nat} : T (MC i j (aA a (aA b aE)) σ w) PF = T (a σ w) fun x w1 => T (b σ w1) fun y w2 => PF (.nx ((σ.set i (some x)).set j (some y))) w2 := by
 unfold MC
 simp only [bE, tA, yM]
 congr 1; funext x w1; congr 1; funext y w2
 first | rfl | (simp only [b7]; done) | (unfold T; rfl)
end
def zZ := And.intro @dO (And.intro @dM (And.intro @wX (And.intro @KL (And.intro @BU (And.intro @xI (And.intro @CN (And.intro @G3 (And.intro @QT (And.intro @BN (And.intro @yH (And.intro @CV (And.intro @wK (And.intro @BX (And.intro @vY (And.intro @T_C (And.intro @T_V (And.intro @KQ (And.intro @YX (And.intro @LG (And.intro @YR (And.intro @YN (And.intro @yM (And.intro @tA (And.intro @K9 (And.intro @LB (And.intro @K1 (And.intro @JU (And.intro @C0 (And.intro @B1 (And.intro @wV (And.intro @uS (And.intro @J7 (And.intro @ZV (And.intro @JR (And.intro @KY (And.intro @qY (And.intro @CK (And.intro @LH (And.intro @n9 (And.intro @mO (And.intro @BC (And.intro @xN (And.intro @tP (And.intro @qV (And.intro @K2 (And.intro @YO (And.intro @ZH (And.intro @ZU (And.intro @UE (And.intro @D6 (And.intro @J8 (And.intro @pD (And.intro @rH (And.intro @J0 (And.intro @B9 (And.intro @CL (And.intro @B7 (And.intro @b7 (And.intro @CJ (And.intro @CZ (And.intro @yF (And.intro @Y6 (And.intro @wC (And.intro @wN (And.intro @oY (And.intro @sO (And.intro @sU (And.intro @KP (And.intro @K6 (And.intro @K3 (And.intro @tZ (And.intro @JZ (And.intro @tW (And.intro @sl0 (And.intro @sl1 (And.intro @sl2 (And.intro @sl3 (And.intro @sl4 (And.intro @sl5 (And.intro @sl6 (And.intro @sl7 (And.intro @sl8 (And.intro @sl9 (And.intro @aIH (And.intro @aIt (And.intro @aIC (And.intro @aBX (And.intro @NF (And.intro @V7 (And.intro @yI (And.intro @aHO (And.intro @aIW (And.intro @aF4 (And.intro @GC (@HE)))))))))))))))))))))))))))))))))))))))))))))))))))))))))))))))))))))))))))))))))))))))))))))))
theorem aDR {xs ys : List D} : aM xs ys = xs := rfl
def zY := And.intro zZ (And.intro @dm.{0} (And.intro @dn.{0} (And.intro @List.set_cons_zero.{0} (And.intro @List.set_cons_succ.{0} (And.intro @ck.{0} (And.intro @dc.{0} (And.intro @aDR (And.intro @true_and (And.intro @and_true (And.intro @ax (And.intro @bf (And.intro @cc (And.intro @Bool.true_eq_false (And.intro @bj.{1} @ah.{0}))))))))))))))
def i9 : Nat → D → Bool
 | 0, _ => false
 | _ + 1, .non => true
 | _ + 1, .bl _ => true
 | _ + 1, .int i => decide (i ≤ 100000000000000000000000000000000000000000000000000)
 | _ + 1, .str x => PyData.strOk x
 | n + 1, .tup xs => xs.all (i9 n) && decide (xs.length ≤ 70000)
 | n + 1, .lst xs => xs.all (i9 n) && decide (xs.length ≤ 70000)
 | n + 1, .xO ks vs => (ks.all (i9 n) && vs.all (i9 n)) && decide (ks.length ≤ 15)
 | _ + 1, _ => false
def UD : Nat → D → Bool
 | 0, _ => false
 | _ + 1, .non => true
 | _ + 1, .bl _ => true
 | _ + 1, .int i => decide (i ≤ 100000000000000000000000000000000000000000000000000)
 | _ + 1, .str x => PyData.strOk x
 | n + 1, .tup xs => xs.all (UD n) && decide (xs.length ≤ 70000)
 | n + 1, .lst xs => xs.all (UD n) && decide (xs.length ≤ 70000)
 | _ + 1, _ => false
def isInt : D → Bool
 | .int _ => true
 | _ => false
def aN (lo hi : Int) : D → Bool
 | .int i => decide (lo ≤ i) && decide (i ≤ hi)
 | _ => false
def aAT (n : Int) : D → Bool
 | .tup xs => (xs.length : Int) == n
 | _ => false
def jR : D → Bool
 | .tup _ => true
 | _ => false
section
variable {w : W} {P : D → W → Prop} {k : bH} {p h n : Nat} {m : Mo} {b : Int} {d : D}
theorem oH {xs : List D} (e : i9 (n + 1) (.tup xs) = true) : (∀ x ∈ xs, i9 n x = true) ∧ xs.length ≤ 70000 := by
 simp only [i9, ak, bg, aq] at e
 exact e
theorem aEz (e : i9 n d = true) : T (fS iB [d, .ty "int"] w) P = P (.bl (match d with | .int _ => true | .bl _ => true | _ => false)) w := by
 cases n with
 | zero => simp [i9] at e
 | succ n => cases d <;> first | (simp [i9] at e; done) | (unfold T; rfl)
theorem N0 (e : i9 n d = true) : T (fS iB [d, .ty "bool"] w) P = P (.bl (match d with | .bl _ => true | _ => false)) w := by
 cases n with
 | zero => simp [i9] at e
 | succ n => cases d <;> first | (simp [i9] at e; done) | (unfold T; rfl)
theorem A4 (e : i9 n d = true) : T (fS iB [d, .ty "tuple"] w) P = P (.bl (jR d)) w := by
 cases n with
 | zero => simp [i9] at e
 | succ n => cases d <;> first | (simp [i9] at e; done) | (unfold T; rfl)
theorem aEs (e : i9 n d = true) : T (gN k [d] w) P = P (.bl (isInt d)) w := by
 unfold gN jL
 rw [dO, D2]
 simp only [aEz e, N0 e, zY, ae, ab, reduceCtorEq]
 cases d <;> simp [isInt]
theorem rE (lo hi : Int) (e : i9 n d = true) : T (bG k [d, .int lo, .int hi] w) P = P (.bl (aN lo hi d)) w := by
 unfold bG iJ
 rw [dO, zW]
 simp only [aEs e, zY, ae, ab, reduceCtorEq]
 cases d <;> simp only [isInt, aN, zY, ae, ab, reduceCtorEq]
 rename_i i
 by_cases h : lo ≤ i <;> simp [h]
end
def allI (f : Nat → D → Bool) : Nat → List D → Bool
 | _, [] => true
 | i, x :: xs => f i x && allI f (i + 1) xs
theorem HL {f : Nat → D → Bool} : ∀ {n : Nat} {xs : List D}, allI f n xs = true ↔ ∀ i x, xs[i]? = some x → f (n + i) x = true
 | n, [] => by simp [allI]
 | n, x :: xs => by
  unfold allI
  rw [ak, HL (n := n + 1) (xs := xs)]
  constructor
  ·rintro ⟨h1, h2⟩ i y hy
   cases i with
   | zero => simp only [dm, ah] at hy; subst hy; exact h1
   | succ i =>
    simp only [dn] at hy
    have := h2 i y hy
    rwa [show n + (i + 1) = n + 1 + i by omega]
  ·intro h
   refine ⟨h 0 x rfl, fun i y hy => ?_⟩
   have := h (i + 1) y (by simpa using hy)
   rwa [show n + (i + 1) = n + 1 + i by omega] at this
theorem aGF {it : lB} {g : MG} {body : MS} {P : Fl → W → Prop} {σ : Sg} {w : W} (f : Nat → D → Bool) (K : Sg → Prop) (ok : it.ok w) (init : K σ)
  (step : ∀ i x σ, it.xs[i]? = some x → K σ → T (g x σ w) fun σ1 w1 => T (body σ1 w1) fun fl w2 => w2 = w ∧ (if f i x = true then ∃ s, fl = .nx s ∧ K s else fl = .rt (.bl false)))
  (fin : if allI f 0 it.xs = true then ∀ σ, K σ → P (.nx σ) w else P (.rt (.bl false)) w) : T (forL it g body it.xs σ w) P := by
 refine uW (fun i σ w' => w' = w ∧ K σ ∧ ∀ j x, j < i → it.xs[j]? = some x → f j x = true) (fun _ _ _ h => h.1 ▸ ok) ⟨rfl, init, fun j x h => absurd h (Nat.not_lt_zero j)⟩ (fun i x σ w1 hx hI => ?_) fun σ w1 hI => ?_
 ·obtain ⟨rfl, hk, hall⟩ := hI
  refine (step i x σ hx hk).mono fun s1 w2 _ q0 => q0.mono fun fl w3 _ q => ?_
  obtain ⟨rfl, q⟩ := q
  clear q0
  cases hf : f i x with
  | true =>
   rw [hf, if_pos rfl] at q
   obtain ⟨s, rfl, hs⟩ := q
   refine ⟨rfl, hs, fun j y hj hy => ?_⟩
   by_cases e : j = i
   ·subst e
    rw [hx] at hy
    cases hy
    exact hf
   ·exact hall j y (by omega) hy
  | false =>
   rw [hf, if_neg (by decide)] at q
   subst q
   have : ¬ allI f 0 it.xs = true := fun e => by
    have := HL.mp e i x hx
    rw [Nat.zero_add, hf] at this
    cases this
   rw [if_neg this] at fin
   exact fin
 ·obtain ⟨rfl, hk, hall⟩ := hI
  have : allI f 0 it.xs = true := HL.mpr fun i x hx => by
   rw [Nat.zero_add]
   exact hall i x (aj.mp hx).1 hx
  rw [if_pos this] at fin
  exact fin σ hk
section
variable {w : W} {P : D → W → Prop} {k : bH} {p h n : Nat} {m : Mo} {b : Int} {d : D}
theorem within_int {lo hi : Int} (e : aN lo hi d = true) : ∃ i, d = .int i ∧ lo ≤ i ∧ i ≤ hi := by
 cases d <;> simp only [aN, ax, ak, aq] at e
 exact ⟨_, rfl, e⟩
end
section
variable {w : W} {P : D → W → Prop} {k : bH} {p h n : Nat} {m : Mo} {b : Int} {d : D}
def DR (ls : List D) : List D := (List.range ls.length).zipWith (fun i x => D.tup [.int (i : Nat), x]) ls
end
def DN : List Str := [("_law_it" : Str), ("_law_count" : Str)]
def DE (k : bH) : MS :=
 (a7 (jS (aQ (fS iB) (aA (aB 0) (aA (eC (.ty "tuple")) aE))) (aD gO (aQ cX (aA (aB 0) aE)) (aB 1))))
def DB (k : bH) : MF := bL (DE k) DN
theorem LX (x0 x1 : D) : begin DN [x0, x1] = [some x0, some x1] := rfl
theorem aEp {n : Nat} {xs : List D} (e : UD (n + 1) (.tup xs) = true) : (∀ x ∈ xs, UD n x = true) ∧ xs.length ≤ 70000 := by
 simp only [UD, ak, bg, aq] at e
 exact e
theorem aDv {n : Nat} {xs : List D} (e : UD (n + 1) (.lst xs) = true) : (∀ x ∈ xs, UD n x = true) ∧ xs.length ≤ 70000 := by
 simp only [UD, ak, bg, aq] at e
 exact e
theorem M6 {w : W} : ∀ {n : Nat} {xs : List D}, (∀ d, UD n d = true → ∃ p, d.py w = some p ∧ p.canLay0 = true ∧ p.depth ≤ n) → (∀ x ∈ xs, UD n x = true) → ∃ ps, D.pysR (IE 8 w) xs = some ps ∧ ps.length = xs.length ∧ PyData.canLayAll0 ps = true ∧ PyData.depthAll ps ≤ n
 | n, [], h, hx => ⟨[], rfl, rfl, rfl, Nat.zero_le _⟩
 | n, x :: xs, h, hx => by
  obtain ⟨p, p1, p2, p3⟩ := h x (hx x (bc ..))
  obtain ⟨ps, q1, q0, q2, q3⟩ := M6 h fun y hy => hx y (br _ hy)
  refine ⟨p :: ps, ?_, by simp [q0], ?_, ?_⟩
  ·unfold D.py at p1
   unfold D.pysR
   rw [p1, q1]
  ·simp [PyData.canLayAll0, p2, q2]
  ·rw [PyData.depthAll]; omega
theorem VB {w : W} : ∀ {n : Nat} {d : D}, UD n d = true → ∃ p, d.py w = some p ∧ p.canLay0 = true ∧ p.depth ≤ n
 | 0, _, e => by simp [UD] at e
 | n + 1, d, e => by
  cases d
  case tup xs =>
   obtain ⟨e1, _⟩ := aEp e
   obtain ⟨ps, q1, _, q2, q3⟩ := M6 (w := w) (fun d hd => VB hd) e1
   exact ⟨.tuple ps, by unfold D.py D.eP; rw [q1]; rfl, by rw [PyData.canLay0]; exact q2, by rw [PyData.depth]; omega⟩
  case lst xs =>
   obtain ⟨e1, _⟩ := aDv e
   obtain ⟨ps, q1, _, q2, q3⟩ := M6 (w := w) (fun d hd => VB hd) e1
   exact ⟨.list ps, by unfold D.py D.eP; rw [q1]; rfl, by rw [PyData.canLay0]; exact q2, by rw [PyData.depth]; omega⟩
  case str x => exact ⟨.str x, rfl, by simpa [UD, PyData.canLay0] using e, by simp [PyData.depth]⟩
  case int i => exact ⟨.int i, rfl, rfl, by simp [PyData.depth]⟩
  case bl b => exact ⟨.bool b, rfl, rfl, by simp [PyData.depth]⟩
  case non => exact ⟨.none, rfl, rfl, by simp [PyData.depth]⟩
  all_goals simp [UD] at e
theorem LW {f : Nat → Option PyData} : ∀ {xs : List D} {ps : List PyData}, D.pysR f xs = some ps → ps.length = xs.length
 | [], ps, h => by simp only [D.pysR, ah] at h; subst h; rfl
 | x :: xs, ps, h => by
  simp only [D.pysR] at h
  split at h
  ·rename_i p ps' e1 e2
   cases h
   simp [LW e2]
  ·cases h
theorem SU {w : W} {ys : List D} : tU (.lst ys) (.lst []) w = some ys.isEmpty := by
 unfold tU
 cases h : xF (.lst ys) (.lst []) w with
 | none => rfl
 | some b =>
  unfold xF at h
  have e2 : D.py w (.lst []) = some (.list []) := rfl
  rw [e2] at h
  split at h
  ·rename_i p q e3 e4
   cases e4
   split at h
   ·cases h
    unfold D.py D.eP at e3
    obtain ⟨ps, q1, rfl⟩ := au.mp e3
    have hl := LW q1
    cases ys with
    | nil => cases ps with
     | nil => rfl
     | cons => simp at hl
    | cons y ys => cases ps with
     | nil => simp at hl
     | cons => rfl
   ·cases h
  ·cases h
theorem CG {w : W} {ys : List D} : tU (.tup ys) (.tup []) w = some ys.isEmpty := by
 unfold tU
 cases h : xF (.tup ys) (.tup []) w with
 | none => rfl
 | some b =>
  unfold xF at h
  have e2 : D.py w (.tup []) = some (.tuple []) := rfl
  rw [e2] at h
  split at h
  ·rename_i p q e3 e4
   cases e4
   split at h
   ·cases h
    unfold D.py D.eP at e3
    obtain ⟨ps, q1, rfl⟩ := au.mp e3
    have hl := LW q1
    cases ys with
    | nil => cases ps with
     | nil => rfl
     | cons => simp at hl
    | cons y ys => cases ps with
     | nil => simp at hl
     | cons => rfl
   ·cases h
  ·cases h
section
variable {w : W} {P : D → W → Prop} {k : bH} {p h n i : Nat} {m : Mo} {b : Int} {d : D}
theorem XA {ys : List D} (h : ∀ y ∈ ys, i9 n y = true) (hn : n ≤ 60) : tU (.lst ys) (.lst []) w = some ys.isEmpty := SU
theorem ne_nil {ys : List D} (h : ∀ y ∈ ys, i9 n y = true) (hn : n ≤ 60) : T (pT (.lst ys) (.lst []) w) P = P (.bl (!ys.isEmpty)) w := by
 rw [UG, XA h hn]
 simp
theorem eq_nil {ys : List D} (h : ∀ y ∈ ys, i9 n y = true) (hn : n ≤ 60) : T (gO (.lst ys) (.lst []) w) P = P (.bl ys.isEmpty) w := by
 rw [IM, XA h hn]
 simp
theorem aBc {c : Int} (e : i9 n d = true) : T (DB k [d, .int c] w) P = P (.bl (aAT c d)) w := by
 unfold DB DE
 rw [dO, LX]
 simp only [A4 e, zY, ae, ab, reduceCtorEq]
 cases d <;> simp only [jR, aAT, zY, ae, ab, reduceCtorEq]
end
section
variable {w : W} {P : D → W → Prop} {k : bH} {p h n i : Nat} {m : Mo} {b : Int} {d : D}
theorem wG : ∀ {l : List Int}, nB (l.map D.int) = some l
 | [] => rfl
 | a :: l => by simp [nB, wG (l := l)]
end
def ZQ : List (Str × Option D) := [(("fall" : Str), some (.int 1)), (("stop" : Str), some (.int 1)), (("rise" : Str), some (.int 1)), (("down" : Str), some (.int 1)), (("up" : Str), some (.int 1)), (("rank" : Str), some (.int 3)), (("tear" : Str), some (.int 2)), (("heal" : Str), some (.int 0)), (("ask" : Str), some (.int 2))]
def IU : List Str := [("plan" : Str), ("state" : Str), ("host" : Str), ("address" : Str), ("told" : Str)]
def HY (k : bH) : MS :=
 (aK (aT (aD aS (aD aS (aD aS (aB 1) (eC (.int 7))) (aB 2)) (aB 3)) (aU 4))
 (aK (dX (fE (bC (aD SR (aB 4) (eC (.int 0)))) (bC (aD pT (aD aS (aD aS (aB 1) (eC (.int 1))) (aB 4)) (aD aS (aD aS (aB 1) (eC (.int 1))) (aD bJ (aQ (uC k.aF (dQ k)) (aA (aB 0) aE)) (aB 2)))))) (a7 (eC (.bl false))) aX)
 (a7 (aD gO (aD aS (aD aS (aD aS (aD aS (aB 1) (eC (.int 4))) (aB 3)) (aB 4)) (eC (.int 0))) (eC (.str ("serves" : Str)))))))
def IF (k : bH) : MF := bL (HY k) IU
def aGY : List Str := [("row" : Str), ("at" : Str), ("thing" : Str)]
def aHE (k : bH) : MS :=
 (a7 (aD bJ (aD bJ (oM g6 (aB 0) cW (cN (aB 1))) (bM (aA (aB 2) aE))) (oM g6 (aB 0) (cN (aD bJ (aB 1) (eC (.int 1)))) cW)))
def pA (k : bH) : MF := bL (aHE k) aGY
def V3 : List Str := [("plan" : Str), ("state" : Str), ("host" : Str), ("address" : Str), ("many" : Str), ("dropped" : Str), ("told" : Str)]
def TY (k : bH) : MS :=
 (aK (aT (aD aS (aD aS (aB 1) (eC (.int 8))) (aB 2)) (cC 2 (aL (aU 4) (aL (aU 5) cA))))
 (aK (aT (bM (aA (aD bJ (aB 4) (eC (.int 1))) (aA (aD bJ (aB 5) (aQ ED (aA (A6 notM (aJ (IF k) 4 aM (aA (aB 0) (aA (aB 1) (aA (aB 2) (aA (aB 3) aE)))))) aE))) aE))) (aU 6))
 (a7 (aJ (pA k) 3 aM (aA (aB 1) (aA (eC (.int 8)) (aA (aJ (pA k) 3 aM (aA (aD aS (aB 1) (eC (.int 8))) (aA (aB 2) (aA (aB 6) aE)))) aE)))))))
def UL (k : bH) : MF := bL (TY k) V3
def CD : List Str := [("plan" : Str)]
def B6 (k : bH) : MS :=
 (a7 (aQ cX (aA (bU k.aF ("ranks" : Str) (aB 0)) aE)))
def fA (k : bH) : MF := bL (B6 k) CD
def RJ : List Str := [("state" : Str), ("house" : Str), ("lives" : Str)]
def QA (k : bH) : MS :=
 (a7 (aJ (pA k) 3 aM (aA (aB 0) (aA (eC (.int 0)) (aA (aJ (pA k) 3 aM (aA (aD aS (aB 0) (eC (.int 0))) (aA (aB 1) (aA (aB 2) aE)))) aE)))))
def DG (k : bH) : MF := bL (QA k) RJ
def JF : List Str := [("state" : Str), ("house" : Str), ("stands" : Str), ("rows" : Str), ("row" : Str), ("stand" : Str)]
def I7 (k : bH) : MS :=
 (aK (aT (aQ iC (aA (cG (fU zmM (aA (aD aS (aB 0) (eC (.int 4))) (aA (aB 2) aE))) [4, 5] (cC 2 (aL (aU 4) (aL (aU 5) cA))) cL (aJ (pA k) 3 aM (aA (aB 4) (aA (aB 1) (aA (aB 5) aE))))) aE)) (aU 3))
 (a7 (aJ (pA k) 3 aM (aA (aB 0) (aA (eC (.int 4)) (aA (aB 3) aE))))))
def xV (k : bH) : MF := bL (I7 k) JF
def aAH : List Str := [("plan" : Str), ("state" : Str), ("house" : Str)]
def aBD (k : bH) : MS :=
 (a7 (aJ (xV k) 3 aM (aA (aJ (DG k) 3 aM (aA (aB 1) (aA (aB 2) (aA (eC (.int 0)) aE)))) (aA (aB 2) (aA (aD mulM (eV (aA (bM (aA (eC (.str ("rests" : Str))) (aA (eC (.int 0)) aE))) aE)) (aJ (fA k) 1 aM (aA (aB 0) aE))) aE)))))
def QG (k : bH) : MF := bL (aBD k) aAH
def US : List Str := [("plan" : Str), ("state" : Str), ("address" : Str), ("house" : Str), ("downs" : Str), ("ranks" : Str), ("taken" : Str), ("one" : Str), ("tie" : Str), ("less" : Str)]
def WC (k : bH) : MS :=
 (aK (aT (bM (aA (aD aS (aB 1) (eC (.int 2))) (aA (aD aS (aB 1) (eC (.int 3))) aE))) (cC 2 (aL (aU 4) (aL (aU 5) cA))))
 (aK (aT (aQ PM (aA (cG (eQ (bU k.aF ("ties" : Str) (aB 0))) [7, 8, 9] (cC 3 (aL (aU 7) (aL (aU 8) (aL (aU 9) cA)))) (i4 (bC (aD gO (aB 7) (aB 3))) (bC (aD ZG (aB 8) (aB 4)))) (aB 9)) aE)) (aU 6))
 (a7 (aQ max2 (aA (eC (.int 1)) (aA (aD kX (aD aS (aD aS (aB 5) (aB 2)) (aB 3)) (aB 6)) aE))))))
def oW (k : bH) : MF := bL (WC k) US
def IG : List Str := [("plan" : Str), ("state" : Str), ("address" : Str), ("house" : Str)]
def IT (k : bH) : MS :=
 (a7 (aD bJ (aJ (KH k) 2 aM (aA (aB 0) (aA (aJ (oW k) 4 aM (aA (aB 0) (aA (aB 1) (aA (aB 2) (aA (aB 3) aE))))) aE))) (bU k.aF ("hold" : Str) (aB 0))))
def qP (k : bH) : MF := bL (IT k) IG
def IX : List Str := [("plan" : Str), ("ahead" : Str), ("state" : Str), ("address" : Str), ("house" : Str), ("role" : Str), ("clock" : Str), ("row" : Str)]
def JP (k : bH) : MS :=
 (aK (fW (fU nH (aA (aJ (fA k) 1 aM (aA (aB 0) aE)) aE)) (aU 3) (fW (fU nH (aA (aQ (uC k.aF (dQ k)) (aA (aB 0) aE)) aE)) (aU 4) (aK (aT (aD aS (aD aS (aD aS (aB 2) (eC (.int 4))) (aB 3)) (aB 4)) (cC 2 (aL (aU 5) (aL (aU 6) cA))))
 (dX (i4 (bC (aD gO (aB 5) (eC (.str ("waits" : Str))))) (bC (aD NP (aJ (oW k) 4 aM (aA (aB 0) (aA (aB 2) (aA (aB 3) (aA (aB 4) aE))))) (aJ (oW k) 4 aM (aA (aB 0) (aA (aB 1) (aA (aB 3) (aA (aB 4) aE)))))))) (aK (aT (aQ max2 (aA (aB 6) (aA (aJ (qP k) 4 aM (aA (aB 0) (aA (aB 2) (aA (aB 3) (aA (aB 4) aE))))) aE))) (aU 6))
 (aK (aT (aJ (pA k) 3 aM (aA (aD aS (aD aS (aB 2) (eC (.int 4))) (aB 3)) (aA (aB 4) (aA (bM (aA (aB 5) (aA (aB 6) aE))) aE)))) (aU 7))
 (aT (aJ (pA k) 3 aM (aA (aB 2) (aA (eC (.int 4)) (aA (aJ (pA k) 3 aM (aA (aD aS (aB 2) (eC (.int 4))) (aA (aB 3) (aA (aB 7) aE)))) aE)))) (aU 2)))) aX))))
 (a7 (aB 2)))
def qI (k : bH) : MF := bL (JP k) IX
def aCZ : List Str := [("plan" : Str), ("state" : Str), ("house" : Str), ("stands" : Str), ("address" : Str)]
def aEr (k : bH) : MS :=
 (aK (aT (cG (fU nH (aA (aJ (fA k) 1 aM (aA (aB 0) aE)) aE)) [4] (aU 4) cL (bM (aA (eC (.str ("waits" : Str))) (aA (aJ (qP k) 4 aM (aA (aB 0) (aA (aB 1) (aA (aB 4) (aA (aB 2) aE))))) aE)))) (aU 3))
 (a7 (aJ (xV k) 3 aM (aA (aJ (DG k) 3 aM (aA (aB 1) (aA (aB 2) (aA (eC (.int 1)) aE)))) (aA (aB 2) (aA (aB 3) aE))))))
def aDQ (k : bH) : MF := bL (aEr k) aCZ
def VJ : List Str := [("lacks" : Str), ("sent" : Str), ("fates" : Str), ("found" : Str), ("address" : Str), ("sender" : Str), ("receiver" : Str), ("rank" : Str), ("lost" : Str), ("rows" : Str), ("own" : Str), ("houses" : Str), ("row" : Str), ("many" : Str)]
def TC (k : bH) : MS :=
 (aK (aT sX (aU 3))
 (aK (fW (eQ (aB 1)) (cC 4 (aL (aU 4) (aL (aU 5) (aL (aU 6) (aL (aU 7) cA))))) (aK (aT (aD gO (dD "dict" getM (aB 2) (aA (bM (aA (aB 4) (aA (aB 5) (aA (aB 6) aE)))) (aA (eC (.int 1)) aE))) (eC (.int 0))) (aU 8))
 (aT (QD (cU (aB 8)) (aD bJ (aD aS (aD aS (aD aS (aB 0) (aB 4)) (aB 5)) (aB 6)) (eC (.int 1))) (eC (.int 0))) (eJ (aB 3) (bM (aA (aB 4) (aA (aB 5) (aA (aB 6) aE))))))))
 (aK (dX (bC (aD eqE (aB 3) sX)) (a7 (aB 0)) aX)
 (aK (aT (eNew aE) (aU 9))
 (aK (fW (fU FN (aA (aB 0) aE)) (cC 2 (aL (aU 4) (aL (aU 10) cA))) (aK (aT (eNew aE) (aU 11))
 (aK (fW (fU FN (aA (aB 10) aE)) (cC 2 (aL (aU 5) (aL (aU 12) cA))) (cV (dD "list" c8 (aB 11) (aA (aQ iC (aA (cG (fU FN (aA (aB 12) aE)) [6, 13] (cC 2 (aL (aU 6) (aL (aU 13) cA))) cL (dD "dict" getM (aB 3) (aA (bM (aA (aB 4) (aA (aB 5) (aA (aB 6) aE)))) (aA (aB 13) aE)))) aE)) aE))))
 (cV (dD "list" c8 (aB 9) (aA (aQ iC (aA (aB 11) aE)) aE))))))
 (a7 (aQ iC (aA (aB 9) aE))))))))
def FV (k : bH) : MF := bL (TC k) VJ
def NY : List Str := [("sent" : Str), ("fates" : Str), ("found" : Str), ("address" : Str), ("sender" : Str), ("receiver" : Str), ("rank" : Str), ("fate" : Str)]
def N9 (k : bH) : MS :=
 (aK (aT (eNew aE) (aU 2))
 (aK (fW (eQ (aB 0)) (cC 4 (aL (aU 3) (aL (aU 4) (aL (aU 5) (aL (aU 6) cA))))) (aK (aT (dD "dict" getM (aB 1) (aA (bM (aA (aB 3) (aA (aB 4) (aA (aB 5) aE)))) (aA (eC (.int 1)) aE))) (aU 7))
 (dX (bC (aD NP (aB 7) (eC (.int 0)))) (cV (dD "list" c8 (aB 2) (aA (bM (aA (aB 7) (aA (aB 3) (aA (aB 4) (aA (aB 5) (aA (aB 6) aE)))))) aE))) aX)))
 (a7 (aQ iC (aA (aB 2) aE)))))
def zP (k : bH) : MF := bL (N9 k) NY
def FE : List Str := [("plan" : Str), ("state" : Str), ("house" : Str), ("living" : Str), ("parts" : Str), ("found" : Str), ("receiver" : Str), ("part" : Str)]
def GL (k : bH) : MS :=
 (aK (MC 3 4 (aA (aD aS (aB 1) (eC (.int 0))) (aA (aD aS (aB 1) (eC (.int 1))) aE)))
 (aK (aT (eNew aE) (aU 5))
 (aK (fW (fU FN (aA (aB 4) aE)) (cC 2 (aL (aU 6) (aL (aU 7) cA))) (dX (i4 (bC (aD pT (aB 6) (aB 2))) (i4 (bC (aD gO (aB 7) (aD aS (aB 4) (aB 2)))) (fE (bC (aD geM (aB 6) (aQ (uC k.aF (dQ k)) (aA (aB 0) aE)))) (bC (aD gO (aD aS (aB 3) (aB 6)) (eC (.int 1))))))) (cV (dD "list" c8 (aB 5) (aA (aB 6) aE))) aX))
 (a7 (aQ iC (aA (aB 5) aE))))))
def uF (k : bH) : MF := bL (GL k) FE
def HC : List Str := [("plan" : Str), ("state" : Str), ("address" : Str), ("house" : Str), ("rank" : Str), ("fates" : Str), ("sent" : Str), ("letters" : Str), ("receiver" : Str)]
def GW (k : bH) : MS :=
 (aK (aT (cG (eQ (aJ (uF k) 3 aM (aA (aB 0) (aA (aB 1) (aA (aB 3) aE))))) [8] (aU 8) cL (bM (aA (aB 2) (aA (aB 3) (aA (aB 8) (aA (aB 4) aE)))))) (aU 6))
 (aK (aT (aD bJ (aD aS (aB 1) (eC (.int 5))) (aJ (zP k) 2 aM (aA (aB 6) (aA (aB 5) aE)))) (aU 7))
 (a7 (aD bJ (aD bJ (oM g6 (aB 1) cW (cN (eC (.int 5)))) (bM (aA (aB 7) (aA (aJ (FV k) 3 aM (aA (aD aS (aB 1) (eC (.int 6))) (aA (aB 6) (aA (aB 5) aE)))) aE)))) (oM g6 (aB 1) (cN (aD bJ (eC (.int 6)) (eC (.int 1)))) cW)))))
def FD (k : bH) : MF := bL (GW k) HC
def aAc : List Str := [("plan" : Str), ("state" : Str), ("house" : Str), ("fates" : Str), ("address" : Str), ("row" : Str)]
def YQ (k : bH) : MS :=
 (aK (fW (fU FN (aA (aD aS (aB 1) (eC (.int 4))) aE)) (cC 2 (aL (aU 4) (aL (aU 5) cA))) (dX (bC (aD gO (aD aS (aD aS (aB 5) (aB 2)) (eC (.int 0))) (eC (.str ("serves" : Str))))) (aT (aJ (FD k) 6 aM (aA (aB 0) (aA (aB 1) (aA (aB 4) (aA (aB 2) (aA (eC (.int 0)) (aA (aB 3) aE))))))) (aU 1)) aX))
 (a7 (aJ (QG k) 3 aM (aA (aB 0) (aA (aB 1) (aA (aB 2) aE))))))
def ZR (k : bH) : MF := bL (YQ k) aAc
def RR : List Str := [("plan" : Str), ("state" : Str), ("houses" : Str), ("hosts" : Str), ("there" : Str), ("host" : Str), ("place" : Str)]
def QV (k : bH) : MS :=
 (aK (aT (aD bJ (aB 2) (aQ iC (aA (cG (eQ (aB 3)) [5] (aU 5) cL (aD bJ (aQ (uC k.aF (dQ k)) (aA (aB 0) aE)) (aB 5))) aE))) (aU 4))
 (a7 (aJ (pA k) 3 aM (aA (aB 1) (aA (eC (.int 1)) (aA (aQ iC (aA (cG (fU nH (aA (aQ cX (aA (aD aS (aB 1) (eC (.int 1))) aE)) aE)) [6] (aU 6) cL (aQ ED (aA (aD ZG (aB 6) (aB 4)) aE))) aE)) aE))))))
def DP (k : bH) : MF := bL (QV k) RR
def RK : List Str := [("plan" : Str), ("state" : Str), ("deed" : Str), ("fates" : Str), ("word" : Str), ("rest" : Str), ("downs" : Str), ("address" : Str), ("house" : Str), ("rank" : Str), ("ranks" : Str), ("tie" : Str)]
def S4 (k : bH) : MS :=
 (aK (aT (aB 2) (XM 1 (aL (aU 4) (aL (aU 5) cA))))
 (aK (dX (bC (aD gO (aB 4) (eC (.str ("fall" : Str))))) (a7 (aJ (QG k) 3 aM (aA (aB 0) (aA (aB 1) (aA (aD aS (aB 5) (eC (.int 0))) aE))))) aX)
 (aK (dX (bC (aD gO (aB 4) (eC (.str ("stop" : Str))))) (a7 (aJ (ZR k) 4 aM (aA (aB 0) (aA (aB 1) (aA (aD aS (aB 5) (eC (.int 0))) (aA (aB 3) aE)))))) aX)
 (aK (dX (bC (aD gO (aB 4) (eC (.str ("rise" : Str))))) (a7 (aJ (aDQ k) 3 aM (aA (aB 0) (aA (aB 1) (aA (aD aS (aB 5) (eC (.int 0))) aE))))) aX)
 (aK (dX (bC (aD gO (aB 4) (eC (.str ("down" : Str))))) (a7 (aJ (qI k) 3 aM (aA (aB 0) (aA (aB 1) (aA (aJ (pA k) 3 aM (aA (aB 1) (aA (eC (.int 2)) (aA (aQ iC (aA (aQ aC5 (aA (aD bJ (aD aS (aB 1) (eC (.int 2))) (bM (aA (aD aS (aB 5) (eC (.int 0))) aE))) aE)) aE)) aE)))) aE))))) aX)
 (aK (dX (bC (aD gO (aB 4) (eC (.str ("up" : Str))))) (aK (aT (aQ iC (aA (cG (eQ (aD aS (aB 1) (eC (.int 2)))) [11] (aU 11) (bC (aD pT (aB 11) (aD aS (aB 5) (eC (.int 0))))) (aB 11)) aE)) (aU 6))
 (a7 (aJ (qI k) 3 aM (aA (aB 0) (aA (aB 1) (aA (aJ (pA k) 3 aM (aA (aB 1) (aA (eC (.int 2)) (aA (aB 6) aE)))) aE)))))) aX)
 (aK (dX (bC (aD gO (aB 4) (eC (.str ("rank" : Str))))) (aK (aT (aB 5) (aEA 3 (aL (aU 7) (aL (aU 8) (aL (aU 9) cA)))))
 (aK (aT (aJ (pA k) 3 aM (aA (aD aS (aB 1) (eC (.int 3))) (aA (aB 7) (aA (aJ (pA k) 3 aM (aA (aD aS (aD aS (aB 1) (eC (.int 3))) (aB 7)) (aA (aB 8) (aA (aB 9) aE)))) aE)))) (aU 10))
 (a7 (aJ (qI k) 3 aM (aA (aB 0) (aA (aB 1) (aA (aJ (pA k) 3 aM (aA (aB 1) (aA (eC (.int 3)) (aA (aB 10) aE)))) aE))))))) aX)
 (aK (dX (bC (aD gO (aB 4) (eC (.str ("tear" : Str))))) (a7 (aJ (DP k) 4 aM (aA (aB 0) (aA (aB 1) (aA (aD aS (aB 5) (eC (.int 0))) (aA (aD aS (aB 5) (eC (.int 1))) aE)))))) aX)
 (aK (dX (bC (aD gO (aB 4) (eC (.str ("heal" : Str))))) (a7 (aJ (DP k) 4 aM (aA (aB 0) (aA (aB 1) (aA (bM aE) (aA (bM aE) aE)))))) aX)
 (a7 (aJ (UL k) 4 aM (aA (aB 0) (aA (aB 1) (aA (aD aS (aB 5) (eC (.int 0))) (aA (aD aS (aB 5) (eC (.int 1))) aE)))))))))))))))
def RY (k : bH) : MF := bL (S4 k) RK
def T9 : List Str := [("thing" : Str), ("many" : Str), ("one" : Str), ("other" : Str)]
def TX (k : bH) : MS :=
 (aK (dX (fE (bT (cU (aQ (fS iB) (aA (aB 0) (aA (eC (.ty "tuple")) aE))))) (bT (cU (aQ allM (aA (cG (eQ (aB 0)) [2] (aU 2) cL (aJ (bG k) 3 aM (aA (aB 2) (aA (eC (.int 0)) (aA (aD kX (aB 1) (eC (.int 1))) aE))))) aE))))) (a7 (eC (.bl false))) aX)
 (a7 (aQ allM (aA (cG (fU zsM (aA (oM g6 (aB 0) cW (cN (A6 yR (eC (.int 1))))) (aA (oM g6 (aB 0) (cN (eC (.int 1))) cW) aE))) [2, 3] (cC 2 (aL (aU 2) (aL (aU 3) cA))) cL (aD SR (aB 2) (aB 3))) aE))))
def HU (k : bH) : MF := bL (TX k) T9
def V0 : List Str := [("plan" : Str), ("state" : Str), ("houses" : Str), ("hosts" : Str)]
def VY (k : bH) : MS :=
 (aK (dX (fE (cU (aQ anyM (aA (aD aS (aB 1) (eC (.int 1))) aE))) (fE (bT (cU (aJ (HU k) 2 aM (aA (aB 2) (aA (aQ (uC k.aF (dQ k)) (aA (aB 0) aE)) aE))))) (bT (cU (aJ (HU k) 2 aM (aA (aB 3) (aA (bU k.aF ("hosts" : Str) (aB 0)) aE))))))) (a7 (eC (.bl false))) aX)
 (a7 (TF SR SR (eC (.int 0)) (aQ cX (aA (aB 2) aE)) (aQ (uC k.aF (dQ k)) (aA (aB 0) aE)))))
def VH (k : bH) : MF := bL (VY k) V0
def HF : List Str := [("plan" : Str), ("address" : Str), ("house" : Str), ("rank" : Str)]
def GS (k : bH) : MS :=
 (aK (dX (fE (bT (cU (aJ (bG k) 3 aM (aA (aB 1) (aA (eC (.int 0)) (aA (aD kX (aJ (fA k) 1 aM (aA (aB 0) aE)) (eC (.int 1))) aE)))))) (bT (cU (aJ (bG k) 3 aM (aA (aB 2) (aA (eC (.int 0)) (aA (aD kX (aQ (uC k.aF (dQ k)) (aA (aB 0) aE)) (eC (.int 1))) aE))))))) (a7 (eC (.bl false))) aX)
 (a7 (aJ (bG k) 3 aM (aA (aB 3) (aA (eC (.int 1)) (aA (eC (.int 12)) aE))))))
def FH (k : bH) : MF := bL (GS k) HF
def uZ : List Str := [("plan" : Str), ("thing" : Str), ("house" : Str), ("tie" : Str), ("less" : Str)]
def t8 (k : bH) : MS :=
 (a7 (jS (aJ (bG k) 3 aM (aA (aB 1) (aA (eC (.int 0)) (aA (eC (.int 9)) aE)))) (aD ZG (aB 1) (cG (eQ (bU k.aF ("ties" : Str) (aB 0))) [2, 3, 4] (cC 3 (aL (aU 2) (aL (aU 3) (aL (aU 4) cA)))) cL (aB 3)))))
def pC (k : bH) : MF := bL (t8 k) uZ
theorem EC (x0 x1 : D) : begin uZ [x0, x1] = [some x0, some x1, none, none, none] := rfl
def Z9 : List Str := [("plan" : Str), ("state" : Str), ("thing" : Str), ("word" : Str), ("rest" : Str)]
def ZZ (k : bH) (tS : Addr) : MS :=
 (aK (dX (fE (bT (cU (aQ (fS iB) (aA (aB 2) (aA (eC (.ty "tuple")) aE))))) (fE (bC (aD gO (aB 2) (bM aE))) (bT (cU (aQ (fS iB) (aA (aD aS (aB 2) (eC (.int 0))) (aA (eC (.ty "str")) aE))))))) (a7 (eC (.bl false))) aX)
 (aK (aT (aB 2) (XM 1 (aL (aU 3) (aL (aU 4) cA))))
 (aK (dX (bC (aD pT (aQ cX (aA (aB 4) aE)) (aHT tS ZQ (eC (.con tS)) (aA (aB 3) (aA (A6 yR (eC (.int 1))) aE))))) (a7 (eC (.bl false))) aX)
 (aK (dX (bC (aD ZG (aB 3) (bM (aA (eC (.str ("fall" : Str))) (aA (eC (.str ("stop" : Str))) (aA (eC (.str ("rise" : Str))) aE)))))) (a7 (jS (aJ (bG k) 3 aM (aA (aD aS (aB 4) (eC (.int 0))) (aA (eC (.int 0)) (aA (aD kX (aQ (uC k.aF (dQ k)) (aA (aB 0) aE)) (eC (.int 1))) aE)))) (aD gO (aD aS (aD aS (aB 1) (eC (.int 0))) (aD aS (aB 4) (eC (.int 0)))) (aQ ED (aA (aD pT (aB 3) (eC (.str ("rise" : Str)))) aE))))) aX)
 (aK (dX (bC (aD ZG (aB 3) (bM (aA (eC (.str ("down" : Str))) (aA (eC (.str ("up" : Str))) aE))))) (a7 (jS (aJ (pC k) 2 aM (aA (aB 0) (aA (aD aS (aB 4) (eC (.int 0))) aE))) (aD gO (aD ZG (aD aS (aB 4) (eC (.int 0))) (aD aS (aB 1) (eC (.int 2)))) (aD gO (aB 3) (eC (.str ("up" : Str))))))) aX)
 (aK (dX (bC (aD gO (aB 3) (eC (.str ("rank" : Str))))) (a7 (aJ (FH k) 4 aM (aA (aB 0) (aA (aD aS (aB 4) (eC (.int 0))) (aA (aD aS (aB 4) (eC (.int 1))) (aA (aD aS (aB 4) (eC (.int 2))) aE)))))) aX)
 (aK (dX (bC (aD gO (aB 3) (eC (.str ("tear" : Str))))) (a7 (aJ (VH k) 4 aM (aA (aB 0) (aA (aB 1) (aA (aD aS (aB 4) (eC (.int 0))) (aA (aD aS (aB 4) (eC (.int 1))) aE)))))) aX)
 (aK (dX (bC (aD gO (aB 3) (eC (.str ("heal" : Str))))) (a7 (aQ anyM (aA (aD aS (aB 1) (eC (.int 1))) aE))) aX)
 (a7 (jS (aJ (bG k) 3 aM (aA (aD aS (aB 4) (eC (.int 0))) (aA (eC (.int 0)) (aA (aD kX (bU k.aF ("hosts" : Str) (aB 0)) (eC (.int 1))) aE)))) (aJ (bG k) 3 aM (aA (aD aS (aB 4) (eC (.int 1))) (aA (eC (.int 0)) (aA (aD kX (aJ (fA k) 1 aM (aA (aB 0) aE)) (eC (.int 1))) aE))))))))))))))
def ZL (k : bH) (tS : Addr) : MF := bL (ZZ k tS) Z9
end Lb
namespace Lw
open PySem PySem.Spec PyProof.Rows L2 Pc Lb
def S6 : List Str := [("_law_model_here" : Str), ("_law_world_here" : Str), ("_law_a" : Str), ("_law_h" : Str), ("_law_down" : Str), ("_law_house" : Str), ("_law_tie" : Str), ("_law_less" : Str)]
def SY (k : bH) : MS :=
 (aK (aT (aQ PM (aA (cG (eQ (aD aS (aB 0) (eC (.str ("ties" : Str))))) [5, 6, 7] (cC 3 (aL (aU 5) (aL (aU 6) (aL (aU 7) cA)))) (i4 (bC (aD gO (aB 5) (aB 3))) (bC (aD ZG (aB 6) (aD aS (aB 1) (eC (.str ("downs" : Str))))))) (aB 7)) aE)) (aU 4))
 (a7 (aQ max2 (aA (eC (.int 1)) (aA (aD kX (aD aS (aD aS (aD aS (aB 1) (eC (.str ("ranks" : Str)))) (aB 2)) (aB 3)) (aB 4)) aE)))))
def nD (k : bH) : MF := bL (SY k) S6
def RU : List Str := [("_law_model_here" : Str), ("_law_rank_here" : Str), ("_law_whole" : Str)]
def QC (k : bH) : MS :=
 (aK (aT (aD bJ (aD mulM (aD bJ (aD aS (aB 0) (eC (.str ("bears" : Str)))) (eC (.int 1))) (aD aS (aB 0) (eC (.str ("every" : Str))))) (aD aS (aB 0) (eC (.str ("slow" : Str))))) (aU 2))
 (a7 (aD bJ (aB 2) (aD mulM (aD aS (aB 0) (eC (.str ("gap" : Str)))) (aD kX (eC (.int 12)) (aB 1))))))
def DD (k : bH) : MF := bL (QC k) RU
def MK : List Str := [("_law_model_here" : Str), ("_law_world_here" : Str), ("_law_a" : Str), ("_law_h" : Str)]
def LM (k : bH) : MS :=
 (a7 (eNew (aA (eC (.str ("waits" : Str))) (aA (aD bJ (aJ (DD k) 2 aM (aA (aB 0) (aA (aJ (nD k) 4 aM (aA (aB 0) (aA (aB 1) (aA (aB 2) (aA (aB 3) aE))))) aE))) (aD aS (aB 0) (eC (.str ("hold" : Str))))) aE))))
def tH (k : bH) : MF := bL (LM k) MK
def AF : List Str := [("_law_lots" : Str), ("_law_one" : Str)]
def BJ (k : bH) : MS :=
 (a7 (aQ aHI (aA (cG (eQ (aB 0)) [1] (aU 1) cL (bM (aA (oM g6 (aB 1) cW (cN (eC (.int 3)))) (aA (aD aS (aB 1) (eC (.int 3))) aE)))) aE)))
def zF (k : bH) : MF := bL (BJ k) AF
def OD : List Str := [("_law_world_here" : Str), ("_law_host" : Str), ("_law_a" : Str), ("_law_told" : Str), ("_law_many" : Str), ("_law_good" : Str)]
def M3 (k : bH) : MS :=
 (aK (aT (aD aS (aD aS (aD aS (aB 0) (eC (.str ("tables" : Str)))) (aB 1)) (aB 2)) (aU 3))
 (aK (aT (aQ cX (aA (aD aS (aB 0) (eC (.str ("living" : Str)))) aE)) (aU 4))
 (aK (aT (jS (aD geM (aB 3) (eC (.int 0))) (aD gO (aD aS (aD aS (aB 0) (eC (.str ("parts" : Str)))) (aB 3)) (aD aS (aD aS (aB 0) (eC (.str ("parts" : Str)))) (aD bJ (aB 4) (aB 1))))) (aU 5))
 (aK (aT (jS (aB 5) (aD gO (aD aS (aD aS (aD aS (aD aS (aB 0) (eC (.str ("stands" : Str)))) (aB 2)) (aB 3)) (eC (.int 0))) (eC (.str ("serves" : Str))))) (aU 5))
 (aT (eNew (aA (aD bJ (aD aS (aD aS (aD aS (aB 0) (eC (.str ("asks" : Str)))) (aB 1)) (eC (.int 0))) (eC (.int 1))) (aA (aD bJ (aD aS (aD aS (aD aS (aB 0) (eC (.str ("asks" : Str)))) (aB 1)) (eC (.int 1))) (aQ ED (aA (A6 notM (aB 5)) aE))) aE))) (eJ (aD aS (aB 0) (eC (.str ("asks" : Str)))) (aB 1)))))))
def N5 (k : bH) : MF := bL (M3 k) OD
def NL : List Str := [("_law_world_here" : Str), ("_law_h" : Str), ("_law_news" : Str), ("_law_a" : Str), ("_law_row" : Str)]
def M9 (k : bH) : MS :=
 (aK (aT (eC (.int 0)) (eJ (aD aS (aB 0) (eC (.str ("living" : Str)))) (aB 1)))
 (fW (fU DR (aA (aD aS (aB 0) (eC (.str ("stands" : Str)))) aE)) (cC 2 (aL (aU 3) (aL (aU 4) cA))) (aK (aT (eNew (aA (eC (.str ("rests" : Str))) (aA (eC (.int 0)) aE))) (eJ (aB 4) (aB 1)))
 (cV (dD "list" c8 (aB 2) (aA (bM (aA (aB 3) (aA (aB 1) (aA (eC (.str ("rests" : Str))) aE)))) aE))))))
def OE (k : bH) : MF := bL (M9 k) NL
def PV : List Str := [("_law_world_here" : Str), ("_law_a" : Str), ("_law_s" : Str), ("_law_rank_here" : Str), ("_law_lots" : Str), ("_law_r" : Str), ("_law_fate" : Str)]
def SA (k : bH) : MS :=
 (fW (fU nH (aA (aQ cX (aA (aD aS (aB 0) (eC (.str ("parts" : Str)))) aE)) aE)) (aU 5) (dX (i4 (bC (aD pT (aB 5) (aB 2))) (i4 (bC (aD gO (aD aS (aD aS (aB 0) (eC (.str ("parts" : Str)))) (aB 5)) (aD aS (aD aS (aB 0) (eC (.str ("parts" : Str)))) (aB 2)))) (bC (aD pT (oM g6 (aD aS (aB 0) (eC (.str ("living" : Str)))) (cN (aB 5)) (cN (aD bJ (aB 5) (eC (.int 1))))) (eV (aA (eC (.int 0)) aE)))))) (aK (aT (dD "dict" getM (aB 4) (aA (bM (aA (aB 1) (aA (aB 2) (aA (aB 5) aE)))) (aA (eC (.int 1)) aE))) (aU 6))
 (aK (aT (QD (bC (aD gO (aB 6) (eC (.int 0)))) (aD bJ (dD "dict" getM (aD aS (aB 0) (eC (.str ("lacks" : Str)))) (aA (bM (aA (aB 1) (aA (aB 2) (aA (aB 5) aE)))) (aA (eC (.int 0)) aE))) (eC (.int 1))) (eC (.int 0))) (eJ (aD aS (aB 0) (eC (.str ("lacks" : Str)))) (bM (aA (aB 1) (aA (aB 2) (aA (aB 5) aE))))))
 (aK (cV (dD "list" c8 (aD aS (aB 0) (eC (.str ("sent" : Str)))) (aA (bM (aA (aB 1) (aA (aB 2) (aA (aB 5) aE)))) aE)))
 (dX (bC (aD NP (aB 6) (eC (.int 0)))) (cV (dD "list" c8 (aD aS (aB 0) (eC (.str ("under" : Str)))) (aA (bM (aA (aB 6) (aA (aB 1) (aA (aB 2) (aA (aB 5) (aA (aB 3) aE)))))) aE))) aX)))) aX))
def EA (k : bH) : MF := bL (SA k) PV
def IQ : List Str := [("_law_model_here" : Str), ("_law_world_here" : Str), ("_law_deed_here" : Str), ("_law_word" : Str), ("_law_rest" : Str), ("_law_many" : Str), ("_law_old" : Str), ("_law_a" : Str), ("_law_row" : Str), ("_law_h" : Str), ("_law_stand" : Str), ("_law_tie" : Str)]
def JQ (k : bH) : MS :=
 (aK (aT (bM (aA (aD aS (aB 2) (eC (.int 0))) (aA (oM g6 (aB 2) (cN (eC (.int 1))) cW) aE))) (cC 2 (aL (aU 3) (aL (aU 4) cA))))
 (aK (aT (aQ cX (aA (aD aS (aB 1) (eC (.str ("living" : Str)))) aE)) (aU 5))
 (aK (aT (cG (fU nH (aA (aQ cX (aA (aD aS (aB 0) (eC (.str ("ranks" : Str)))) aE)) aE)) [7] (aU 7) cL (cG (fU nH (aA (aB 5) aE)) [9] (aU 9) cL (aJ (nD k) 4 aM (aA (aB 0) (aA (aB 1) (aA (aB 7) (aA (aB 9) aE))))))) (aU 6))
 (aK (dX (bC (aD gO (aB 3) (eC (.str ("down" : Str))))) (cV (dD "list" c8 (aD aS (aB 1) (eC (.str ("downs" : Str)))) (aA (aD aS (aB 4) (eC (.int 0))) aE))) aX)
 (aK (dX (bC (aD gO (aB 3) (eC (.str ("up" : Str))))) (aT (UP (eQ (aD aS (aB 1) (eC (.str ("downs" : Str))))) [11] (aU 11) (bC (aD pT (aB 11) (aD aS (aB 4) (eC (.int 0))))) (aB 11)) (eJ (aB 1) (eC (.str ("downs" : Str))))) aX)
 (aK (dX (bC (aD gO (aB 3) (eC (.str ("rank" : Str))))) (aT (aD aS (aB 4) (eC (.int 2))) (eJ (aD aS (aD aS (aB 1) (eC (.str ("ranks" : Str)))) (aD aS (aB 4) (eC (.int 0)))) (aD aS (aB 4) (eC (.int 1))))) aX)
 (fW (fU DR (aA (aD aS (aB 1) (eC (.str ("stands" : Str)))) aE)) (cC 2 (aL (aU 7) (aL (aU 8) cA))) (fW (fU DR (aA (aB 8) aE)) (cC 2 (aL (aU 9) (aL (aU 10) cA))) (dX (i4 (bC (aD gO (aD aS (aB 10) (eC (.int 0))) (eC (.str ("waits" : Str))))) (bC (aD NP (aJ (nD k) 4 aM (aA (aB 0) (aA (aB 1) (aA (aB 7) (aA (aB 9) aE))))) (aD aS (aD aS (aB 6) (aB 7)) (aB 9))))) (aT (aQ max2 (aA (aD aS (aB 10) (eC (.int 1))) (aA (aD aS (aJ (tH k) 4 aM (aA (aB 0) (aA (aB 1) (aA (aB 7) (aA (aB 9) aE))))) (eC (.int 1))) aE))) (eJ (aB 10) (eC (.int 1)))) aX)))))))))
def JL (k : bH) : MF := bL (JQ k) IQ
def P0 : List Str := [("_law_model_here" : Str), ("_law_world_here" : Str), ("_law_deed_here" : Str), ("_law_lots" : Str), ("_law_news" : Str), ("_law_word" : Str), ("_law_rest" : Str), ("_law_a" : Str), ("_law_row" : Str), ("_law_many" : Str), ("_law_there" : Str), ("_law_host" : Str), ("_law_k" : Str)]
def R8 (k : bH) : MS :=
 (aK (MC 5 6 (aA (aD aS (aB 2) (eC (.int 0))) (aA (oM g6 (aB 2) (cN (eC (.int 1))) cW) aE)))
 (aK (dX (bC (aD gO (aB 5) (eC (.str ("stop" : Str))))) (fW (fU DR (aA (aD aS (aB 1) (eC (.str ("stands" : Str)))) aE)) (cC 2 (aL (aU 7) (aL (aU 8) cA))) (dX (bC (aD gO (aD aS (aD aS (aB 8) (aD aS (aB 6) (eC (.int 0)))) (eC (.int 0))) (eC (.str ("serves" : Str))))) (cV (aJ (EA k) 5 aM (aA (aB 1) (aA (aB 7) (aA (aD aS (aB 6) (eC (.int 0))) (aA (eC (.int 0)) (aA (aB 3) aE))))))) aX)) aX)
 (aK (dX (bC (aD ZG (aB 5) (bM (aA (eC (.str ("stop" : Str))) (aA (eC (.str ("fall" : Str))) aE))))) (cV (aJ (OE k) 3 aM (aA (aB 1) (aA (aD aS (aB 6) (eC (.int 0))) (aA (aB 4) aE))))) aX)
 (aK (dX (bC (aD gO (aB 5) (eC (.str ("rise" : Str))))) (aK (aT (eC (.int 1)) (eJ (aD aS (aB 1) (eC (.str ("living" : Str)))) (aD aS (aB 6) (eC (.int 0)))))
 (fW (fU DR (aA (aD aS (aB 1) (eC (.str ("stands" : Str)))) aE)) (cC 2 (aL (aU 7) (aL (aU 8) cA))) (aT (aJ (tH k) 4 aM (aA (aB 0) (aA (aB 1) (aA (aB 7) (aA (aD aS (aB 6) (eC (.int 0))) aE))))) (eJ (aB 8) (aD aS (aB 6) (eC (.int 0))))))) aX)
 (aK (dX (bC (aD ZG (aB 5) (bM (aA (eC (.str ("down" : Str))) (aA (eC (.str ("up" : Str))) (aA (eC (.str ("rank" : Str))) aE)))))) (cV (aJ (JL k) 3 aM (aA (aB 0) (aA (aB 1) (aA (aB 2) aE))))) aX)
 (aK (dX (bC (aD ZG (aB 5) (bM (aA (eC (.str ("tear" : Str))) (aA (eC (.str ("heal" : Str))) aE))))) (aK (aT (aQ cX (aA (aD aS (aB 1) (eC (.str ("living" : Str)))) aE)) (aU 9))
 (aK (aT (QD (bC (aD gO (aB 5) (eC (.str ("tear" : Str))))) (aD bJ (aQ HI (aA (aD aS (aB 6) (eC (.int 0))) aE)) (cG (eQ (aD aS (aB 6) (eC (.int 1)))) [11] (aU 11) cL (aD bJ (aB 9) (aB 11)))) (eV aE)) (aU 10))
 (aT (UP (fU nH (aA (aQ cX (aA (aD aS (aB 1) (eC (.str ("parts" : Str)))) aE)) aE)) [12] (aU 12) cL (aQ ED (aA (aD ZG (aB 12) (aB 10)) aE))) (eJ (aB 1) (eC (.str ("parts" : Str))))))) aX)
 (dX (bC (aD gO (aB 5) (eC (.str ("ask" : Str))))) (cV (aJ (N5 k) 3 aM (aA (aB 1) (aA (aD aS (aB 6) (eC (.int 0))) (aA (aD aS (aB 6) (eC (.int 1))) aE))))) aX)))))))
def RD (k : bH) : MF := bL (R8 k) P0
end Lw
namespace Lb
open PySem PySem.Spec PyProof.Rows L2 Pc
def aC3 (s : BL) (a h : Nat) : Role × Int := ((s.eG[a]?).getD []).getD h (.rests, 0)
section
variable {w : W} {P : D → W → Prop} {σ : Sg} {k : bH} {p h : Nat} {m : Mo} {b : Int} {s : BL}
theorem getD_some {α : Type} {xs : List α} {i : Nat} {x d : α} (h : xs[i]? = some x) : xs.getD i d = x := by rw [dq, h]; rfl
theorem nW {α : Type} {xs : List α} {i : Nat} (h : i < xs.length) : ∃ x, xs[i]? = some x := ⟨xs[i], bz h⟩
theorem aHY {q : Bool} : T (ED [.bl q] w) P = P (.int (if q = true then 1 else 0)) w := by
 have : ED [.bl q] w = .ok (.int (if q = true then 1 else 0)) w := by cases q <;> rfl
 rw [this, b7]
end
inductive aBO where
 | YU | stop | rise | down | up | rank | VR | V1 | ask
deriving DecidableEq
def aBO.s : aBO → Str
 | .YU => "fall" | .stop => "stop" | .rise => "rise" | .down => "down" | .up => "up" | .rank => "rank" | .VR => "tear" | .V1 => "heal" | .ask => "ask"
inductive u6 where
 | down (t : Int) | up (t : Int) | rank (a c : Nat) (r : Int) | VR (hs cs : List Int) | V1 | ask (c a : Nat)
 | YU (c : Nat) | stop (c : Nat) | rise (c : Nat)
def u6.word : u6 → aBO
 | .down _ => .down | .up _ => .up | .rank .. => .rank | .VR .. => .VR | .V1 => .V1 | .ask .. => .ask | .YU _ => .YU | .stop _ => .stop | .rise _ => .rise
def u6.args : u6 → List D
 | .down t => [.int t] | .up t => [.int t] | .rank a c r => [.int (a : Nat), .int (c : Nat), .int r] | .VR hs cs => [c7 hs, c7 cs] | .V1 => [] | .ask c a => [.int (c : Nat), .int (a : Nat)]
 | .YU c => [.int (c : Nat)] | .stop c => [.int (c : Nat)] | .rise c => [.int (c : Nat)]
section
variable {w : W} {P : D → W → Prop} {PL : List (List Key × D) → W → Prop} {σ : Sg} {k : bH} {tS : Addr} {p h : Nat} {m : Mo} {b : Int} {s : BL}
def aBO.size : aBO → Int
 | .rank => 3
 | .VR => 2
 | .V1 => 0
 | .ask => 2
 | _ => 1
def aAA (n : Int) (xs : List Int) : Prop := (∀ x ∈ xs, 0 ≤ x ∧ x ≤ n - 1) ∧ xs.Pairwise (· < ·)
def Fits (m : Mo) (h : Nat) : u6 → Prop
 | .down t => (0 ≤ t ∧ t ≤ 9) ∧ t ∈ m.dE.map fun t => t.2.1
 | .up t => (0 ≤ t ∧ t ≤ 9) ∧ t ∈ m.dE.map fun t => t.2.1
 | .rank a c r => a < m.cP.length ∧ c < h ∧ 1 ≤ r ∧ r ≤ 12
 | .VR hs cs => (aAA h hs ∧ aAA m.f7 cs) ∧ (hs.length ≤ 100 ∧ cs.length ≤ 100) ∧ 0 < hs.length ∧ hs.length < h
 | .V1 => True
 | .ask c a => (c : Int) < m.f7 ∧ a < m.cP.length
 | .YU c => c < h
 | .stop c => c < h
 | .rise c => c < h
end
end Lb
namespace Lw
open PySem PySem.Spec PyProof.Rows L2 Pc Lb
inductive oN where
 | dict | living | parts | downs | under | m5 | cP | eG | tables | asks | Q6
 | aAY (a : Nat) | UZ (a : Nat) | QW (a c : Nat) | aA7 (c : Nat) | ask (c : Nat)
deriving DecidableEq
abbrev tO := oN → Nat
abbrev Con := oN → Option MO
def nG {α : Type} (f : oN → α) (l : oN) (x : α) : oN → α := fun q => if q = l then x else f q
theorem oK {α : Type} {f : oN → α} {l : oN} {x : α} : nG f l x l = x := if_pos rfl
theorem fG {α : Type} {f : oN → α} {l q : oN} {x : α} (h : q ≠ l) : nG f l x q = f q := if_neg h
def onS (S : oN → Bool) (C : Con) : Con := fun l => if S l then C l else none
def qA (n : Nat) (w : W) (A : tO) (C : Con) : Prop := ∀ l o, C l = some o → n ≤ A l ∧ w[A l]? = some o ∧ ∀ l' o', C l' = some o' → A l' = A l → l' = l
section
variable {n : Nat} {w w' : W} {A A' : tO} {C C' : Con} {l : oN} {o : MO}
theorem qA.get (h : qA n w A C) (e : C l = some o) : w[A l]? = some o := (h l o e).2.1
theorem qA.lt (h : qA n w A C) (e : C l = some o) : A l < w.length := (aj.mp (h.get e)).1
theorem qA.keep (h : qA n w A C) (hk : ∀ i, n ≤ i → i < w.length → w'[i]? = w[i]?) : qA n w' A C := fun l o e =>
 ⟨(h l o e).1, by rw [hk _ (h l o e).1 (h.lt e)]; exact h.get e, (h l o e).2.2⟩
theorem qA.grow (h : qA n w A C) (h2 : 2 ≤ n) (g : lQ w w' 1 0) : qA n w' A C := h.keep fun i hi hl => g.at_ i hl (by omega) (by omega)
theorem qA.app (h : qA n w A C) (u : W) : qA n (w ++ u) A C := h.keep fun i _ hl => av hl
theorem qA.set (h : qA n w A C) (e : C l = some o) (o1 : MO) : qA n (w.set (A l) o1) A (nG C l (some o1)) := fun q u eq => by
 have inj : ∀ l' o', nG C l (some o1) l' = some o' → ∃ o2, C l' = some o2 := fun l' o' e' => by
  by_cases c : l' = l
  ·subst c; exact ⟨o, e⟩
  ·rw [fG c] at e'; exact ⟨o', e'⟩
 obtain ⟨u2, e2⟩ := inj q u eq
 refine ⟨(h q u2 e2).1, ?_, fun l' o' e' ea => ?_⟩
 ·by_cases c : q = l
  ·subst c
   rw [oK] at eq
   cases eq
   rw [bh (h.lt e)]
  ·rw [fG c] at eq
   rw [az (fun x => c ((h l o e).2.2 q u2 e2 x.symm))]
   exact h.get eq
 ·obtain ⟨o3, e3⟩ := inj l' o' e'
  exact (h q u2 e2).2.2 l' o3 e3 ea
theorem qA.new (h : qA n w A C) (hk : ∀ i, n ≤ i → i < w.length → w'[i]? = w[i]?) {r : Nat} (h1 : w.length ≤ r) (h0 : n ≤ w.length) (e : w'[r]? = some o) (l : oN) : qA n w' (nG A l r) (nG C l (some o)) := fun q u eq => by
 by_cases c : q = l
 ·subst c
  rw [oK] at eq ⊢
  cases eq
  refine ⟨di h0 h1, e, fun l' o' e' ea => ?_⟩
  by_cases c' : l' = q
  ·exact c'
  ·rw [fG c'] at e' ea
   have := h.lt e'
   omega
 ·rw [fG c] at eq ⊢
  refine ⟨(h q u eq).1, by rw [hk _ (h q u eq).1 (h.lt eq)]; exact h.get eq, fun l' o' e' ea => ?_⟩
  by_cases c' : l' = l
  ·subst c'
   rw [oK] at ea
   have := h.lt eq
   omega
  ·rw [fG c'] at e' ea
   exact (h q u eq).2.2 l' o' e' ea
theorem qA.add (h : qA n w A C) (h0 : n ≤ w.length) (l : oN) (o : MO) : qA n (w ++ [o]) (nG A l w.length) (nG C l (some o)) :=
 h.new (fun i _ hl => av hl) (bq _) h0 (by rw [bw (bq _)]; simp) l
theorem qA.sub (h : qA n w A C) (hs : ∀ l o, C' l = some o → C l = some o ∧ A' l = A l) : qA n w A' C' := fun l o e => by
 obtain ⟨e1, e2⟩ := hs l o e
 rw [e2]
 refine ⟨(h l o e1).1, h.get e1, fun l' o' e' ea => ?_⟩
 obtain ⟨e3, e4⟩ := hs l' o' e'
 rw [e4] at ea
 exact (h l o e1).2.2 l' o' e3 ea
theorem qA.nil : qA n w A fun _ => none := fun l o e => nomatch e
end
structure Wx where
 s : BL
 lk : List (List Key × D)
 Q6 : List D
def LQ (A : tO) : List (Key × D) := [(.inr "living", .ref (A .living)), (.inr "parts", .ref (A .parts)), (.inr "downs", .ref (A .downs)), (.inr "under", .ref (A .under)), (.inr "lacks", .ref (A .m5)),
 (.inr "ranks", .ref (A .cP)), (.inr "stands", .ref (A .eG)), (.inr "tables", .ref (A .tables)), (.inr "asks", .ref (A .asks)), (.inr "sent", .ref (A .Q6))]
def fC (A : tO) (g : Nat → oN) (k : Nat) : List D := (List.range k).map fun i => .ref (A (g i))
def QM (xs : List Int) : MO := .lst (xs.map D.int)
def aHf (q : Role × Int) : MO := .lst [.str q.1.s, .int q.2]
def aII (q : Int × Int) : MO := .lst [.int q.1, .int q.2]
def cont (A : tO) (x : Wx) : Con
 | .dict => some (.dK (LQ A))
 | .living => some (QM x.s.living)
 | .parts => some (QM x.s.parts)
 | .downs => some (QM x.s.downs)
 | .under => some (.lst (x.s.mF.map aEC))
 | .m5 => some (.dT x.lk)
 | .cP => some (.lst (fC A .aAY x.s.cP.length))
 | .eG => some (.lst (fC A .UZ x.s.eG.length))
 | .tables => some (.lst (fC A .aA7 x.s.tables.length))
 | .asks => some (.lst (fC A .ask x.s.asks.length))
 | .Q6 => some (.lst x.Q6)
 | .aAY a => x.s.cP[a]?.map QM
 | .UZ a => x.s.eG[a]?.map fun r => .lst (fC A (.QW a) r.length)
 | .QW a c => (x.s.eG[a]?.bind (·[c]?)).map aHf
 | .aA7 c => x.s.tables[c]?.map QM
 | .ask c => x.s.asks[c]?.map aII
def World (n : Nat) (w : W) (A : tO) (x : Wx) : Prop := qA n w A (cont A x)
section
variable {n : Nat} {w w' : W} {A A' : tO} {x x' : Wx} {P : D → W → Prop} {PU : Unit → W → Prop} {l : oN} {o o1 : MO}
theorem World.set (h : World n w A x) (e : cont A x l = some o) (o1 : MO) (hc : ∀ q, cont A x' q = nG (cont A x) l (some o1) q) : World n (w.set (A l) o1) A x' := by
 unfold World
 rw [funext hc]
 exact qA.set h e o1
theorem YV {g : Nat → oN} {k i v : Nat} (inj : ∀ i j, g i = g j → i = j) : (fC A g k).set i (.ref v) = fC (nG A (g i) v) g k := by
 refine List.ext_getElem? fun j => ?_
 rw [List.getElem?_set]
 unfold fC
 by_cases c : i = j
 ·subst c
  rw [if_pos rfl]
  by_cases h : i < k
  ·simp [h, oK]
  ·simp [h]
 ·rw [if_neg c]
  simp only [cu]
  cases e : (List.range k)[j]? with
  | none => rfl
  | some y =>
   have : y = j := by
    have := aj.mp e
    obtain ⟨_, h⟩ := this
    rw [List.getElem_range] at h
    exact h.symm
   subst this
   simp only [Option.map_some]
   rw [fG (fun z => c (inj _ _ z).symm)]
theorem aHn {z : Str} {d : D} (h : World n w A x) (e : kZ (LQ A) (.inr z) = some d) : T (aS (.ref (A .dict)) (.str z) w) P = P d w := by
 rw [R0 (h.get (l := .dict) rfl), e]
 simp
theorem NN (h : World n w A x) : T (aS (.ref (A .dict)) (.str ("ranks" : Str)) w) P = P (.ref (A .cP)) w := aHn h rfl
theorem aEe {r : Nat} {xs : List D} (h : w[r]? = some (.lst xs)) : T (cX [.ref r] w) P = P (.int xs.length) w := by
 rw [YK]
 simp [JB, D.items, h]
end
open PySem.W (dataLe)
section
variable {n : Nat} {w w' : W} {A A' : tO} {x x' : Wx} {P : D → W → Prop} {PU : Unit → W → Prop} {l : oN} {o o1 : MO} {k : bH} {i h : Nat} {m : Mo} {b : Int}
def q7 (w : W) (i : Nat) (m : Mo) : Prop := w[i]? = some (.dK m.kvs)
end
def aHF (lk : List (List Key × D)) : Prop := ∀ ks d, kZ lk ks = some d → ∃ i, d = .int i
section
variable {n : Nat} {w w' : W} {A A' : tO} {x x' : Wx} {P : D → W → Prop} {PU : Unit → W → Prop} {PI : lB → W → Prop} {l : oN} {o o1 : MO} {k : bH} {i h : Nat} {m : Mo} {b : Int}
theorem aEP {r : Nat} {xs : List D} (e : w[r]? = some (.lst xs)) : T (iterM (.ref r) w) PI = PI ⟨xs, holds r (.lst xs)⟩ w := by
 have : iterM (.ref r) w = .ok ⟨xs, holds r (.lst xs)⟩ w := by simp only [iterM, e]
 rw [this, b7]
theorem World.app (hW : World n w A x) (u : W) : World n (w ++ u) A x := qA.app hW u
end
def aFi (g : Nat → oN) (o : Nat → MO) : Nat → Con → Con
 | 0, C => C
 | j + 1, C => nG (aFi g o j C) (g j) (some (o j))
theorem TH {A : tO} {g : Nat → oN} {j r : Nat} (inj : ∀ i j, g i = g j → i = j) : fC (nG A (g j) r) g (j + 1) = fC A g j ++ [.ref r] := by
 unfold fC
 rw [List.range_succ, du]
 congr 1
 ·refine List.map_congr_left fun i hi => ?_
  rw [fG fun e => by have := inj _ _ e; have := List.mem_range.mp hi; omega]
 ·simp [oK]
section
variable {n : Nat} {w w' : W} {A A' : tO} {C : Con} {x x' : Wx} {σ : Sg} {P : D → W → Prop} {PL : List D → W → Prop} {PF : Fl → W → Prop} {PU : Unit → W → Prop} {PI : lB → W → Prop} {l : oN} {o1 : MO} {k : bH} {i h : Nat} {m : Mo} {b : Int}
theorem lQ.le2 {w1 w2 w3 : W} (a : lQ w1 w2 1 0) (b : lQ w2 w3 1 0) : lQ w1 w3 1 0 := ⟨di a.le b.le, fun i hi h1 h0 => by rw [b.at_ i (dv hi a.le) h1 h0, a.at_ i hi h1 h0]⟩
theorem pQ {it : lB} {vs : List Nat} {g : MG} {e : ME} (gl : Nat → oN) (inj : ∀ i j, gl i = gl j → i = j) (o : Nat → MO) (K : W → Prop) (hA : qA n w A C) (hn : n ≤ w.length) (h2 : 2 ≤ n) (hk : K w) (ok : ∀ w', K w' → it.ok w')
  (step : ∀ j d w', it.xs[j]? = some d → K w' → lQ w w' 1 0 → T (g d (eA σ vs) w') fun σ1 w1 => T (e σ1 w1) fun y w2 => ∃ r, y = .ref r ∧ K w2 ∧ lQ w' w2 1 0 ∧ w'.length ≤ r ∧ w2[r]? = some (o j))
  (fin : ∀ A' w', K w' → lQ w w' 1 0 → qA n w' A' (aFi gl o it.xs.length C) → (∀ l, (∀ j, l ≠ gl j) → A' l = A l) → PL (fC A' gl it.xs.length) w') : T (k0 it vs g cL e it.xs σ w) PL := by
 refine EK (fun j acc w' => K w' ∧ lQ w w' 1 0 ∧ ∃ A', qA n w' A' (aFi gl o j C) ∧ (∀ l, (∀ j, l ≠ gl j) → A' l = A l) ∧ acc = fC A' gl j) (fun _ _ w' q => ok w' q.1) ⟨hk, lQ.refl, A, hA, fun _ _ => rfl, rfl⟩ (fun j d acc w' hx ⟨k1, g1, A', a1, a2, a3⟩ => ?_) fun acc w' ⟨k1, g1, A', a1, a2, a3⟩ => ?_
 ·refine (step j d w' hx k1 g1).mono fun σ1 w1 _ q => ?_
  rw [n9, if_pos rfl]
  refine q.mono fun y w2 _ ⟨r, er, k2, g2, lr, hr⟩ => ?_
  refine ⟨k2, lQ.le2 g1 g2, nG A' (gl j) r, ?_, fun l hl => by rw [fG (hl j)]; exact a2 l hl, ?_⟩
  ·exact a1.new (fun i h1 h3 => g2.at_ i h3 (by omega) (by omega)) lr (di hn g1.le) hr (gl j)
  ·rw [er, a3, TH inj]
 ·rw [a3]
  exact fin A' w' k1 g1 a1 a2
theorem qA.bind {S : oN → Bool} (h : qA n w A (onS S (cont A x))) (hS : S .dict = true) (hn : n ≤ w.length) (hl : l ≠ .dict) (hc : cont (nG A l w.length) x' l = some o1)
  (hr : ∀ q, q ≠ .dict → q ≠ l → S q = true → cont (nG A l w.length) x' q = cont A x q) :
  qA n ((w ++ [o1]).set (A .dict) (.dK (LQ (nG A l w.length)))) (nG A l w.length) (onS (fun q => S q || q == l) (cont (nG A l w.length) x')) := by
 have h1 := h.add hn l o1
 have e : nG (onS S (cont A x)) l (some o1) .dict = some (.dK (LQ A)) := by
  rw [fG hl.symm, onS, hS]
  rfl
 have h3 := h1.set e (.dK (LQ (nG A l w.length)))
 rw [fG hl.symm] at h3
 refine h3.sub fun q o e => ⟨?_, rfl⟩
 replace e : (if (S q || q == l) = true then cont (nG A l w.length) x' q else none) = some o := e
 by_cases c : q = .dict
 ·subst c
  rw [oK]
  rw [hS] at e
  exact e
 ·rw [fG c]
  by_cases c2 : q = l
  ·subst c2
   rw [oK]
   simp only [beq_self_eq_true, Bool.or_true, ae] at e
   rw [← hc]
   exact e
  ·rw [fG c2]
   unfold onS
   have c3 : (q == l) = false := by simpa using c2
   rw [c3, Bool.or_false] at e
   cases s : S q with
   | false => rw [s] at e; exact nomatch e
   | true =>
    rw [s] at e
    simp only [ae] at e ⊢
    rw [← hr q c c2 s]
    exact e
end
def oN.top : oN → Bool
 | .living => true | .parts => true | .downs => true | .under => true | .m5 => true | .cP => true | .eG => true | .tables => true | .asks => true | .Q6 => true
 | _ => false
def dep : oN → oN → Prop
 | .dict, q => q.top = true
 | .cP, q => ∃ a, q = .aAY a
 | .eG, q => ∃ a, q = .UZ a
 | .tables, q => ∃ a, q = .aA7 a
 | .asks, q => ∃ a, q = .ask a
 | .UZ a, q => ∃ c, q = .QW a c
 | _, _ => False
theorem m9 {A A' : tO} {g : Nat → oN} {k : Nat} (h : ∀ i, A (g i) = A' (g i)) : fC A g k = fC A' g k := by
 unfold fC
 exact List.map_congr_left fun i _ => by rw [h i]
theorem VT {A A' : tO} {x : Wx} {l : oN} (h : ∀ q, dep l q → A q = A' q) : cont A x l = cont A' x l := by
 cases l with
 | dict =>
  show some (MO.dK (LQ A)) = some (MO.dK (LQ A'))
  unfold LQ
  rw [h .living rfl, h .parts rfl, h .downs rfl, h .under rfl, h .m5 rfl, h .cP rfl, h .eG rfl, h .tables rfl, h .asks rfl, h .Q6 rfl]
 | cP =>
  show some (MO.lst (fC A .aAY x.s.cP.length)) = some (MO.lst (fC A' .aAY x.s.cP.length))
  rw [m9 fun i => h _ ⟨i, rfl⟩]
 | eG =>
  show some (MO.lst (fC A .UZ x.s.eG.length)) = some (MO.lst (fC A' .UZ x.s.eG.length))
  rw [m9 fun i => h _ ⟨i, rfl⟩]
 | tables =>
  show some (MO.lst (fC A .aA7 x.s.tables.length)) = some (MO.lst (fC A' .aA7 x.s.tables.length))
  rw [m9 fun i => h _ ⟨i, rfl⟩]
 | asks =>
  show some (MO.lst (fC A .ask x.s.asks.length)) = some (MO.lst (fC A' .ask x.s.asks.length))
  rw [m9 fun i => h _ ⟨i, rfl⟩]
 | UZ a =>
  show x.s.eG[a]?.map (fun r => MO.lst (fC A (.QW a) r.length)) = x.s.eG[a]?.map (fun r => MO.lst (fC A' (.QW a) r.length))
  congr 1
  funext r
  rw [m9 fun i => h _ ⟨i, rfl⟩]
 | _ => rfl
section
variable {n : Nat} {w w' w0 : W} {A A' A1 : tO} {C : Con} {x x' : Wx} {σ : Sg} {P : D → W → Prop} {PL : List D → W → Prop} {PF : Fl → W → Prop} {PU : Unit → W → Prop} {PI : lB → W → Prop} {l : oN} {o1 : MO} {k : bH} {i h : Nat} {m : Mo} {b : Int}
theorem aCm {v : Nat} {q : oN} (ht : l.top = true) (hq : q ≠ .dict) : cont (nG A l v) x q = cont A x q := VT fun r d => fG fun e => by
 subst e
 cases q <;> simp only [dep] at d
 case dict => exact hq rfl
 all_goals
  obtain ⟨a, rfl⟩ := d
  exact nomatch ht
structure fX (w w' : W) : Prop where
 le : w.length ≤ w'.length
 at_ : ∀ i, i < w.length → w'[i]? = w[i]?
theorem fX.refl : fX w w := ⟨bq _, fun _ _ => rfl⟩
theorem fX.app (h : fX w0 w) (u : W) : fX w0 (w ++ u) := ⟨by rw [cw]; have := h.le; omega, fun i hi => by rw [av (dv hi h.le)]; exact h.at_ i hi⟩
theorem fX.set (h : fX w0 w) {j : Nat} (hj : w0.length ≤ j) (o : MO) : fX w0 (w.set j o) := ⟨by rw [de]; exact h.le, fun i hi => by rw [az (by omega)]; exact h.at_ i hi⟩
theorem fX.trans {w1 w2 w3 : W} (a : fX w1 w2) (b : fX w2 w3) : fX w1 w3 := ⟨di a.le b.le, fun i hi => by rw [b.at_ i (dv hi a.le), a.at_ i hi]⟩
theorem fX.FW (e : fX w0 w) (hW : World n w0 A x) : World n w A x := qA.keep hW fun i _ hl => e.at_ i hl
theorem fX.mod {j : Nat} (e : fX w0 w) (hM : q7 w0 j m) : q7 w j m := by
 unfold q7
 rw [e.at_ j (aj.mp hM).1]
 exact hM
theorem fX.grow (e : fX w0 w) : lQ w0 w 1 0 := ⟨e.le, fun i hi _ _ => e.at_ i hi⟩
end
structure Fr (n : Nat) (w w' : W) : Prop where
 le : w.length ≤ w'.length
 at_ : ∀ i, i < n → w'[i]? = w[i]?
section
variable {n : Nat} {w w' w0 : W} {A A' A1 : tO} {C : Con} {x x' : Wx} {σ : Sg} {P : D → W → Prop} {PL : List D → W → Prop} {PF : Fl → W → Prop} {PU : Unit → W → Prop} {PI : lB → W → Prop} {l : oN} {o1 : MO} {k : bH} {i h : Nat} {m : Mo} {b : Int}
theorem Fr.refl : Fr n w w := ⟨bq _, fun _ _ => rfl⟩
theorem Fr.trans {w1 w2 w3 : W} (a : Fr n w1 w2) (b : Fr n w2 w3) : Fr n w1 w3 := ⟨di a.le b.le, fun i hi => by rw [b.at_ i hi, a.at_ i hi]⟩
theorem Fr.app (h : n ≤ w.length) (u : W) : Fr n w (w ++ u) := ⟨by simp, fun i hi => av (by omega)⟩
theorem Fr.set {j : Nat} (h : n ≤ j) (o : MO) : Fr n w (w.set j o) := ⟨by simp, fun i hi => az (by omega)⟩
theorem fX.fr (e : fX w w') (h : n ≤ w.length) : Fr n w w' := ⟨e.le, fun i hi => e.at_ i (by omega)⟩
theorem Fr.FW {n' : Nat} (f : Fr n w w') (hW : World n' w A x) (hn : w.length ≤ n) : World n' w' A x := qA.keep hW fun i _ hl => f.at_ i (by omega)
theorem Fr.mod {j : Nat} (e : Fr n w w') (hM : q7 w j m) (hj : j < n) : q7 w' j m := by
 unfold q7
 rw [e.at_ j hj]
 exact hM
theorem World.onS (hW : World n w A x) : qA n w A (Lw.onS (fun _ => true) (cont A x)) := hW
theorem World.le (hW : World n w A x) : n ≤ A .dict := (hW .dict _ rfl).1
theorem World.ge (hW : World n w A x) (l : oN) {o : MO} (e : cont A x l = some o) : n ≤ A l := (hW l o e).1
theorem World.lt (hW : World n w A x) (l : oN) {o : MO} (e : cont A x l = some o) : A l < w.length := qA.lt hW e
theorem World.aEf (hW : World n w A x) : n ≤ w.length := by
 have h1 := hW.le
 have h2 := hW.lt .dict rfl
 omega
theorem World.bind (hW : World n w A x) (l : oN) (ht : l.top = true) (hc : ∀ A, cont A x' l = some o1) (hr : ∀ A q, q ≠ .dict → q ≠ l → cont A x' q = cont A x q) :
  World n ((w ++ [o1]).set (A .dict) (.dK (LQ (nG A l w.length)))) (nG A l w.length) x' := by
 have hl : l ≠ .dict := fun e => by subst e; exact nomatch ht
 have := qA.bind (x' := x') (l := l) (o1 := o1) hW.onS rfl hW.aEf hl (hc _) fun q q1 q2 _ => by rw [hr _ q q1 q2, aCm ht q1]
 exact this.sub fun q o e => ⟨by unfold Lw.onS; exact e, rfl⟩
def Apart (A : tO) (x : Wx) (r : Nat) : Prop := ∀ l o, cont A x l = some o → A l ≠ r
theorem World.other (hW : World n w A x) {r : Nat} (ap : Apart A x r) (o : MO) : World n (w.set r o) A x := fun l u e => by
 obtain ⟨h1, h2, h3⟩ := hW l u e
 exact ⟨h1, by rw [az (Ne.symm (ap l u e))]; exact h2, h3⟩
structure Kp (A : tO) (x : Wx) (w : W) (A' : tO) (x' : Wx) (w' : W) (ex : Nat) : Prop where
 len : w.length ≤ w'.length
 at_ : ∀ r, r < w.length → r ≠ ex → Apart A x r → w'[r]? = w[r]?
 ap : ∀ r, r < w.length → Apart A x r → Apart A' x' r
theorem Kp.refl {ex : Nat} : Kp A x w A x w ex := ⟨bq _, fun _ _ _ _ => rfl, fun _ _ h => h⟩
theorem Kp.trans {A2 A3 : tO} {x2 x3 : Wx} {w2 w3 : W} {ex : Nat} (a : Kp A x w A2 x2 w2 ex) (b : Kp A2 x2 w2 A3 x3 w3 ex) : Kp A x w A3 x3 w3 ex :=
 ⟨di a.len b.len, fun r h1 h2 h3 => by rw [b.at_ r (dv h1 a.len) h2 (a.ap r h1 h3), a.at_ r h1 h2 h3], fun r h1 h3 => b.ap r (dv h1 a.len) (a.ap r h1 h3)⟩
theorem Kp.fr {ex : Nat} (a : Kp A x w A' x' w' ex) (hW : World n w A x) (h : n ≤ ex) : Fr n w w' := ⟨a.len, fun i hi => a.at_ i (dv hi hW.aEf) (by omega) fun l o e q => by have := hW.ge l e; omega⟩
theorem Kp.app (u : W) {ex : Nat} : Kp A x w A x (w ++ u) ex := ⟨by simp, fun r h1 _ _ => av h1, fun _ _ h => h⟩
end
section
variable {n : Nat} {w w' w0 : W} {A A' A1 : tO} {C : Con} {x x' : Wx} {σ : Sg} {P : D → W → Prop} {PL : List D → W → Prop} {PF : Fl → W → Prop} {PU : Unit → W → Prop} {PI : lB → W → Prop} {l : oN} {o1 : MO} {k : bH} {tS : Addr} {i h p : Nat} {m : Mo} {b : Int}
theorem fX.aJu {w1 w2 : W} (e : fX w1 w2) (hp : i7 k w1 p m b) : i7 k w2 p m b := by
 unfold i7
 rw [e.at_ p (aj.mp hp).1]
 exact hp
end
section
variable {n d0 : Nat} {w w' w0 : W} {A A' A1 : tO} {C : Con} {x x' : Wx} {σ : Sg} {P : D → W → Prop} {PL : List D → W → Prop} {PF : Fl → W → Prop} {PU : Unit → W → Prop} {PI : lB → W → Prop} {l : oN} {o1 u : MO} {k : bH} {tS : Addr} {i h p : Nat} {m : Mo} {b : Int}
theorem aGp : T (sX σ w) P = P (.ref w.length) (w ++ [.dT []]) := by unfold sX; rw [b7]
end
section
variable {n d0 : Nat} {w w' w0 : W} {A A' A1 : tO} {C : Con} {x x' : Wx} {σ : Sg} {P : D → W → Prop} {PL : List D → W → Prop} {PF : Fl → W → Prop} {PU : Unit → W → Prop} {PI : lB → W → Prop} {l : oN} {o o1 u : MO} {k : bH} {tS : Addr} {i h p : Nat} {m : Mo} {b : Int}
theorem Kept.FW (kk : Pc.Kept w w' 1 0) (h2 : 2 ≤ n) (hW : World n w A x) : World n w' A x := qA.keep hW fun i h1 _ => kk.2 i (by omega) (by omega)
theorem Kept.mod (kk : Pc.Kept w w' 1 0) (i2 : 2 ≤ i) (hM : q7 w i m) : q7 w' i m := kk.obj hM (by omega) (by omega)
theorem lQ.mod (g : lQ w w' 1 0) (i2 : 2 ≤ i) (hM : q7 w i m) : q7 w' i m := by
 unfold q7
 rw [g.at_ i (aj.mp hM).1 (by omega) (by omega)]
 exact hM
theorem World.row {par : oN} {gl : Nat → oN} {kk c r : Nat} (hW : World n w A x) (hk : ∀ i, n ≤ i → i < w.length → w'[i]? = w[i]?) (hr : w.length ≤ r) (er : w'[r]? = some o) (inj : ∀ i j, gl i = gl j → i = j) (hne : par ≠ gl c)
  (hpar : cont A x par = some (.lst (fC A gl kk))) (hpar' : ∀ A', cont A' x' par = some (.lst (fC A' gl kk))) (hrow : ∀ A', cont A' x' (gl c) = some o) (hoth : ∀ A' q, q ≠ par → q ≠ gl c → (∀ l, l ≠ gl c → A' l = A l) → cont A' x' q = cont A x q) :
  World n (w'.set (A par) (.lst ((fC A gl kk).set c (.ref r)))) (nG A (gl c) r) x' := by
 have h1 := qA.new hW hk hr hW.aEf er (gl c)
 have ee : nG (cont A x) (gl c) (some o) par = some (.lst (fC A gl kk)) := by rw [fG hne]; exact hpar
 have h3 := h1.set ee (.lst ((fC A gl kk).set c (.ref r)))
 rw [fG hne] at h3
 refine h3.sub fun q u e => ⟨?_, rfl⟩
 by_cases c1 : q = par
 ·subst c1
  rw [oK, YV inj]
  rw [hpar'] at e
  exact e
 rw [fG c1]
 by_cases c2 : q = gl c
 ·subst c2
  rw [oK]
  rw [hrow] at e
  exact e
 rw [fG c2, ← e]
 exact (hoth _ q c1 c2 fun l hl => fG hl).symm
end
structure St (n i : Nat) (m : Mo) (w0 w : W) (A : tO) (x : Wx) : Prop where
 aHa : GB w 1 0
 mod : q7 w i m
 FW : World n w A x
 n2 : 2 ≤ n
 i2 : 2 ≤ i
 hi : i < n
 le : w0.length ≤ w.length
 fd : ∀ j, j < n → j ≠ 1 → j ≠ 0 → w[j]? = w0[j]?
section
variable {n d0 : Nat} {w w' w0 : W} {A A' A1 : tO} {C : Con} {x x' : Wx} {σ : Sg} {P : D → W → Prop} {PL : List D → W → Prop} {PF : Fl → W → Prop} {PU : Unit → W → Prop} {PI : lB → W → Prop} {l : oN} {o o1 u : MO} {k : bH} {tS : Addr} {i h p : Nat} {m : Mo} {b : Int}
theorem St.kept (s : St n i m w0 w A x) (d : GB w' 1 0) (kk : Pc.Kept w w' 1 0) : St n i m w0 w' A x :=
 ⟨d, Kept.mod kk s.i2 s.mod, Kept.FW kk s.n2 s.FW, s.n2, s.i2, s.hi, by rw [kk.1]; exact s.le, fun j h1 h2 h3 => by rw [kk.2 j h2 h3]; exact s.fd j h1 h2 h3⟩
theorem St.grow (s : St n i m w0 w A x) (d : GB w' 1 0) (g : lQ w w' 1 0) : St n i m w0 w' A x :=
 ⟨d, lQ.mod g s.i2 s.mod, qA.grow s.FW s.n2 g, s.n2, s.i2, s.hi, di s.le g.le, fun j h1 h2 h3 => by rw [g.at_ j (by have := s.FW.aEf; omega) h2 h3]; exact s.fd j h1 h2 h3⟩
theorem St.app (s : St n i m w0 w A x) (u : W) : St n i m w0 (w ++ u) A x := s.grow s.aHa.app ⟨by simp, fun i hi _ _ => av hi⟩
theorem St.set {j : Nat} (s : St n i m w0 w A x) (hj : n ≤ j) (hw : World n (w.set j o) A' x') : St n i m w0 (w.set j o) A' x' :=
 ⟨s.aHa.set (by have := s.n2; omega) (by have := s.n2; omega), by unfold q7; rw [az (by have := s.hi; omega)]; exact s.mod, hw, s.n2, s.i2, s.hi, by rw [de]; exact s.le, fun j' h1 h2 h3 => by rw [az (by omega)]; exact s.fd j' h1 h2 h3⟩
end
section
variable {n d0 : Nat} {w w' w0 : W} {A A' A1 : tO} {C : Con} {x x' : Wx} {σ : Sg} {P : D → W → Prop} {PL : List D → W → Prop} {PF : Fl → W → Prop} {PU : Unit → W → Prop} {PI : lB → W → Prop} {l : oN} {o o1 u : MO} {k : bH} {tS : Addr} {i h p : Nat} {m : Mo} {b : Int}
theorem aAj {a b : D} {r : Int} (h0 : 0 ≤ r) (h1 : r < 2) : ∃ y, atI [a, b] r = some y ∧ ((r = 0 ∧ y = a) ∨ (r = 1 ∧ y = b)) := by
 have : r = 0 ∨ r = 1 := by omega
 rcases this with rfl | rfl
 ·exact ⟨a, rfl, .inl ⟨rfl, rfl⟩⟩
 ·exact ⟨b, rfl, .inr ⟨rfl, rfl⟩⟩
end
abbrev V6 := Nat → Nat → Nat → Int
structure R4 where
 a : Nat
 s : Nat
 r : Nat
 rank : Int
section
variable {n : Nat} {w w' : W} {x : Wx} {σ : Sg} {P : D → W → Prop} {PF : Fl → W → Prop} {PU : Unit → W → Prop} {k : bH} {i h p f : Nat} {m : Mo} {b : Int} {s : BL} {ts : List R4} {kv : List (List Key × D)}
theorem LL {o : MO} : (w ++ [o])[w.length]? = some o := by rw [bw (bq _)]; simp
theorem aB0 {i : Nat} {o u : MO} (h : w[i]? = some u) : (w ++ [o])[i]? = some u := by rw [av (aj.mp h).1]; exact h
theorem tyL {r : Nat} {xs : List D} (e : w[r]? = some (.lst xs)) : tyD (.ref r) w = some "list" := by simp only [tyD, e]
end
structure WB (m : Mo) (h B : Nat) (s : BL) : Prop where
 living : s.living.length = h
 parts : (s.parts.length : Int) = h + m.f7
 m5 : s.m5.length = m.cP.length ∧ ∀ own ∈ s.m5, own.length = h ∧ ∀ row ∈ own, row.length = s.parts.length
 few : s.mF.length ≤ B
section
variable {n B : Nat} {w w' : W} {x : Wx} {σ : Sg} {P : D → W → Prop} {PF : Fl → W → Prop} {PU : Unit → W → Prop} {PI : lB → W → Prop} {k : bH} {i h p f : Nat} {m : Mo} {b : Int} {s : BL} {ts : List R4} {kv : List (List Key × D)}
theorem WB.le (o : MoB m h) (ok : WB m h B s) : s.parts.length ≤ 10 := by
 have h6 := o.cP.h6
 have ho := o.f7
 have := ok.parts
 omega
theorem aBf.send (ok : aBf m h s) (hB : s.mF.length ≤ B) : WB m h B s := by
 refine ⟨ok.living.1, ok.parts.1, ⟨ok.m5.1, fun own ho => ⟨(ok.m5.2 own ho).1, fun row hr => ?_⟩⟩, hB⟩
 obtain ⟨j, hj⟩ := List.getElem?_of_mem hr
 have := ((ok.m5.2 own ho).2 j row hj).1
 have := ok.parts.1
 omega
theorem tL {xs : List D} : T (iterM (.tup xs) w) PI = PI ⟨xs, always⟩ w := by unfold T; rfl
theorem aH1 {xs : List D} : T (iterM (.lst xs) w) PI = PI ⟨xs, always⟩ w := by unfold T; rfl
end
def keyD (a c r : Nat) : D := .tup [.int (a : Nat), .int (c : Nat), .int (r : Nat)]
structure pI (m : Mo) (h B : Nat) (x : Wx) : Prop where
 living : x.s.living.length = h ∧ ∀ v ∈ x.s.living, 0 ≤ v ∧ v ≤ 1
 parts : (x.s.parts.length : Int) = h + m.f7
 eG : x.s.eG.length = m.cP.length ∧ ∀ r ∈ x.s.eG, r.length = h
 lk : aHF x.lk
 b1 : x.lk.length ≤ B
 b2 : x.Q6.length ≤ B
 b3 : x.s.mF.length ≤ B
section
variable {n d0 B : Nat} {w w' w0 : W} {A A' A1 : tO} {C : Con} {x x' : Wx} {σ : Sg} {P : D → W → Prop} {PL : List D → W → Prop} {PF : Fl → W → Prop} {PU : Unit → W → Prop} {PI : lB → W → Prop} {l : oN} {o o1 u : MO} {k : bH} {i h p f : Nat} {m : Mo} {b : Int} {kv : List (List Key × D)} {fa : V6}
theorem pI.le (o : MoB m h) (ok : pI m h B x) : x.s.parts.length ≤ 10 := by
 have h6 := o.cP.h6
 have ho := o.f7
 have := ok.parts
 omega
theorem pI.mono {B' : Nat} (ok : pI m h B x) (hB : B ≤ B') : pI m h B' x := ⟨ok.living, ok.parts, ok.eG, ok.lk, di ok.b1 hB, di ok.b2 hB, di ok.b3 hB⟩
end
section
variable {n d0 B : Nat} {w w' w0 : W} {A A' A1 : tO} {C : Con} {x x' : Wx} {σ : Sg} {P : D → W → Prop} {PL : List D → W → Prop} {PF : Fl → W → Prop} {PU : Unit → W → Prop} {PI : lB → W → Prop} {l : oN} {o o1 u : MO} {k : bH} {i h p f : Nat} {m : Mo} {b : Int} {kv : List (List Key × D)} {fa : V6}
theorem zipIdx {α β : Type} {f : α → β → α} {ss : Nat → β} : ∀ {xs : List α}, (xs.mapIdx fun a x => if a < xs.length then f x (ss a) else x) = List.zipWith f xs ((List.range xs.length).map ss) := fun {xs} => by
 refine List.ext_getElem? fun j => ?_
 rw [List.getElem?_mapIdx, List.getElem?_zipWith, cu]
 by_cases c : j < xs.length
 ·rw [bz c, List.getElem?_range c]
  simp [c]
 ·rw [List.getElem?_eq_none (by omega)]
  rfl
end
structure Bd where
 k : bH
 B : Addr
 S : Addr
def QK : List Str := [("self" : Str), ("address" : Str), ("house" : Str), ("role" : Str), ("rank" : Str), ("receiver" : Str)]
def RS (k : Bd) : MS :=
 (aK (dX (bC (aD gO (aB 3) (eC (.str ("waits" : Str))))) (cV (dD "list" c8 (bU k.B ("news_told" : Str) (aB 0)) (aA (bM (aA (aB 1) (aA (aB 2) (aA (eC (.str ("serves" : Str))) aE)))) aE))) aX)
 (aK (aT (bM (aA (eC (.str ("serves" : Str))) (aA (bU k.k.aF ("every" : Str) (bU k.B ("plan_here" : Str) (aB 0))) aE))) (eJ (aD aS (bU k.B ("stands_now" : Str) (aB 0)) (aB 1)) (aB 2)))
 (aK (aT (aJ (oW k.k) 4 aM (aA (bU k.B ("plan_here" : Str) (aB 0)) (aA (bU k.B ("state_here" : Str) (aB 0)) (aA (aB 1) (aA (aB 2) aE))))) (aU 4))
 (fW (eQ (aJ (uF k.k) 3 aM (aA (bU k.B ("plan_here" : Str) (aB 0)) (aA (bU k.B ("state_here" : Str) (aB 0)) (aA (aB 2) aE))))) (aU 5) (cV (dD "list" c8 (bU k.B ("letters_sent" : Str) (aB 0)) (aA (bM (aA (aB 1) (aA (aB 2) (aA (aB 5) (aA (aB 4) aE))))) aE)))))))
def R5 (k : Bd) : MF := bL (RS k) QK
def zM : List Str := [("self" : Str), ("address" : Str), ("row" : Str), ("house" : Str), ("role" : Str), ("clock" : Str)]
def AZ (k : Bd) : MS :=
 (fW (fU DR (aA (bU k.B ("stands_now" : Str) (aB 0)) aE)) (cC 2 (aL (aU 1) (aL (aU 2) cA))) (fW (fU DR (aA (aQ HI (aA (aB 2) aE)) aE)) (cC 2 (aL (aU 3) (aL (cC 2 (aL (aU 4) (aL (aU 5) cA))) cA))) (dX (i4 (bC (aD pT (aB 4) (eC (.str ("rests" : Str))))) (bC (aD NP (aB 5) (eC (.int 1))))) (aT (bM (aA (aB 4) (aA (aD kX (aB 5) (eC (.int 1))) aE))) (eJ (aB 2) (aB 3))) (dX (bC (aD pT (aB 4) (eC (.str ("rests" : Str))))) (cV (kP k.B ("send" : Str) (R5 k) 4 aM (aB 0) (aA (aB 1) (aA (aB 3) (aA (aB 4) aE))))) aX))))
def AS (k : Bd) : MF := bL (AZ k) zM
def VD : List Str := [("one" : Str), ("other" : Str), ("rank" : Str), ("number" : Str), ("other_rank" : Str), ("other_number" : Str)]
def V5 (k : Bd) : MS :=
 (aK (aT (aB 0) (cC 2 (aL (aU 2) (aL (aU 3) cA))))
 (aK (aT (aB 1) (cC 2 (aL (aU 4) (aL (aU 5) cA))))
 (a7 (eOr (aD NP (aB 2) (aB 4)) (jS (aD gO (aB 2) (aB 4)) (aD SR (aB 3) (aB 5)))))))
def UI (k : Bd) : MF := bL (V5 k) VD
def P8 : List Str := [("self" : Str), ("address" : Str), ("sender" : Str), ("house" : Str), ("rank" : Str), ("role" : Str), ("clock" : Str), ("own" : Str), ("is_sender_ahead" : Str)]
def Q2 (k : Bd) : MS :=
 (aK (aT (aD aS (aD aS (bU k.B ("stands_now" : Str) (aB 0)) (aB 1)) (aB 3)) (cC 2 (aL (aU 5) (aL (aU 6) cA))))
 (aK (aT (aJ (oW k.k) 4 aM (aA (bU k.B ("plan_here" : Str) (aB 0)) (aA (bU k.B ("state_here" : Str) (aB 0)) (aA (aB 1) (aA (aB 3) aE))))) (aU 7))
 (aK (aT (aJ (UI k) 2 aM (aA (bM (aA (aB 4) (aA (aB 2) aE))) (aA (bM (aA (aB 7) (aA (aB 3) aE))) aE))) (aU 8))
 (dX (bC (aD gO (aB 5) (eC (.str ("serves" : Str))))) (dX (i4 (bC (aD NP (aB 4) (eC (.int 0)))) (cU (aB 8))) (aK (aT (bM (aA (eC (.str ("waits" : Str))) (aA (aJ (qP k.k) 4 aM (aA (bU k.B ("plan_here" : Str) (aB 0)) (aA (bU k.B ("state_here" : Str) (aB 0)) (aA (aB 1) (aA (aB 3) aE))))) aE))) (eJ (aD aS (bU k.B ("stands_now" : Str) (aB 0)) (aB 1)) (aB 3)))
 (cV (dD "list" c8 (bU k.B ("news_told" : Str) (aB 0)) (aA (bM (aA (aB 1) (aA (aB 3) (aA (eC (.str ("yields" : Str))) aE)))) aE)))) aX) (dX (bC (aD gO (aB 4) (eC (.int 0)))) (aT (bM (aA (aB 5) (aA (aQ min2 (aA (aB 6) (aA (aJ (Y7 k.k) 2 aM (aA (bU k.B ("plan_here" : Str) (aB 0)) (aA (aB 7) aE))) aE))) aE))) (eJ (aD aS (bU k.B ("stands_now" : Str) (aB 0)) (aB 1)) (aB 3))) (dX (fE (cU (aB 8)) (bT (cU (bU k.k.aF ("takes" : Str) (bU k.B ("plan_here" : Str) (aB 0)))))) (aT (bM (aA (aB 5) (aA (aQ max2 (aA (aB 6) (aA (aJ (KH k.k) 2 aM (aA (bU k.B ("plan_here" : Str) (aB 0)) (aA (aB 7) aE))) aE))) aE))) (eJ (aD aS (bU k.B ("stands_now" : Str) (aB 0)) (aB 1)) (aB 3))) aX))))))
def SX (k : Bd) : MF := bL (Q2 k) P8
def IZ : List Str := [("self" : Str), ("address" : Str), ("sender" : Str), ("receiver" : Str), ("rank" : Str), ("living" : Str), ("parts" : Str), ("others" : Str)]
def IW (k : Bd) : MS :=
 (aK (aT (bU k.B ("state_here" : Str) (aB 0)) (XM 2 (aL (aU 5) (aL (aU 6) (aL (aU 7) cA)))))
 (aK (dX (bC (aD pT (aD aS (aB 6) (aB 2)) (aD aS (aB 6) (aB 3)))) (a7 (eC .non)) aX)
 (dX (bC (aD geM (aB 3) (aQ cX (aA (aB 5) aE)))) (dX (bC (aD NP (aB 4) (eC (.int 0)))) (aT (aB 2) (eJ (aD aS (bU k.B ("tables_now" : Str) (aB 0)) (aD kX (aB 3) (aQ cX (aA (aB 5) aE)))) (aB 1))) aX) (dX (bC (aD gO (aD aS (aB 5) (aB 3)) (eC (.int 1)))) (cV (kP k.B ("hear" : Str) (SX k) 5 aM (aB 0) (aA (aB 1) (aA (aB 2) (aA (aB 3) (aA (aB 4) aE)))))) aX))))
def IC (k : Bd) : MF := bL (IW k) IZ
def GN : List Str := [("self" : Str), ("letter" : Str), ("left" : Str), ("rest" : Str)]
def FY (k : Bd) : MS :=
 (aK (aT (aB 1) (XM 1 (aL (aU 2) (aL (aU 3) cA))))
 (dX (bC (aD NP (aB 2) (eC (.int 1)))) (cV (dD "list" c8 (bU k.B ("still_under_way" : Str) (aB 0)) (aA (aD bJ (bM (aA (aD kX (aB 2) (eC (.int 1))) aE)) (aQ iC (aA (aB 3) aE))) aE))) (cV (kP k.B ("arrive" : Str) (IC k) 5 aM (aB 0) (aA (aD aS (aB 3) (eC (.int 0))) (aA (aD aS (aB 3) (eC (.int 1))) (aA (aD aS (aB 3) (eC (.int 2))) (aA (aD aS (aB 3) (eC (.int 3))) aE))))))))
def FR (k : Bd) : MF := bL (FY k) GN
def QZ : List Str := [("self" : Str), ("plan" : Str), ("state" : Str), ("many_old" : Str), ("living" : Str), ("parts" : Str), ("downs" : Str), ("ranks" : Str), ("stands" : Str), ("letters" : Str), ("lacks" : Str), ("tables" : Str), ("asks" : Str), ("letter" : Str), ("row" : Str)]
def SM (k : Bd) : MS :=
 (aK (aT (aB 2) (cC 9 (aL (aU 4) (aL (aU 5) (aL (aU 6) (aL (aU 7) (aL (aU 8) (aL (aU 9) (aL (aU 10) (aL (aU 11) (aL (aU 12) cA)))))))))))
 (aK (dH k.B ("plan_here" : Str) (aB 0) (aB 1))
 (aK (dH k.B ("state_here" : Str) (aB 0) (aB 2))
 (aK (dH k.B ("stands_now" : Str) (aB 0) (cG (eQ (aB 8)) [14] (aU 14) cL (aQ E7 (aA (aB 14) aE))))
 (aK (dH k.B ("tables_now" : Str) (aB 0) (cG (eQ (aB 11)) [14] (aU 14) cL (aQ E7 (aA (aB 14) aE))))
 (aK (dH k.B ("still_under_way" : Str) (aB 0) (eNew aE))
 (aK (dH k.B ("letters_sent" : Str) (aB 0) (UP (eQ (oM g6 (aB 9) (cN (aB 3)) cW)) [13] (aU 13) cL (oM g6 (aB 13) (cN (eC (.int 1))) cW)))
 (aK (dH k.B ("news_told" : Str) (aB 0) (eNew aE))
 (aK (fW (eQ (oM g6 (aB 9) cW (cN (aB 3)))) (aU 13) (cV (kP k.B ("move_on" : Str) (FR k) 2 aM (aB 0) (aA (aB 13) aE))))
 (cV (kP k.B ("end_clocks" : Str) (AS k) 1 aM (aB 0) aE)))))))))))
def OU (k : Bd) : MF := bL (SM k) QZ
def EG : List Str := [("self" : Str), ("lacks" : Str), ("fates" : Str), ("living" : Str), ("parts" : Str), ("downs" : Str), ("ranks" : Str), ("stands" : Str), ("letters" : Str), ("others" : Str), ("tables" : Str), ("asks" : Str), ("row" : Str)]
def EI (k : Bd) : MS :=
 (aK (aT (bU k.B ("state_here" : Str) (aB 0)) (cC 9 (aL (aU 3) (aL (aU 4) (aL (aU 5) (aL (aU 6) (aL (aU 7) (aL (aU 8) (aL (aU 9) (aL (aU 10) (aL (aU 11) cA)))))))))))
 (aK (aT (aQ iC (aA (cG (eQ (bU k.B ("stands_now" : Str) (aB 0))) [12] (aU 12) cL (aQ iC (aA (aB 12) aE))) aE)) (aU 7))
 (aK (aT (aD bJ (aQ iC (aA (bU k.B ("still_under_way" : Str) (aB 0)) aE)) (aJ (zP k.k) 2 aM (aA (bU k.B ("letters_sent" : Str) (aB 0)) (aA (aB 2) aE)))) (aU 8))
 (aK (aT (aQ iC (aA (cG (eQ (bU k.B ("tables_now" : Str) (aB 0))) [12] (aU 12) cL (aQ iC (aA (aB 12) aE))) aE)) (aU 10))
 (a7 (bM (aA (aB 3) (aA (aB 4) (aA (aB 5) (aA (aB 6) (aA (aB 7) (aA (aB 8) (aA (aJ (FV k.k) 3 aM (aA (aB 1) (aA (bU k.B ("letters_sent" : Str) (aB 0)) (aA (aB 2) aE)))) (aA (aB 10) (aA (aB 11) aE)))))))))))))))
def EB (k : Bd) : MF := bL (EI k) EG
def BQ : List Str := [("plan" : Str), ("lacks" : Str), ("sent_here" : Str), ("ahead" : Str), ("thing" : Str), ("address" : Str), ("sender" : Str), ("receiver" : Str), ("fate" : Str), ("part" : Str)]
def CO (k : Bd) : MS :=
 (aK (dX (fE (bT (cU (aQ (fS iB) (aA (aB 4) (aA (eC (.ty "tuple")) aE))))) (fE (bC (aD pT (aQ cX (aA (aB 4) aE)) (eC (.int 4)))) (bT (cU (aQ allM (aA (cG (eQ (aB 4)) [9] (aU 9) cL (aJ (gN k.k) 1 aM (aA (aB 9) aE))) aE)))))) (a7 (eC (.bl false))) aX)
 (aK (aT (aB 4) (cC 4 (aL (aU 5) (aL (aU 6) (aL (aU 7) (aL (aU 8) cA))))))
 (aK (dX (fE (bC (aD aCj (oM g6 (aB 4) cW (cN (A6 yR (eC (.int 1))))) (aB 2))) (i4 (bC (aD pT (aB 3) (bM aE))) (bC (aD leA (oM g6 (aB 4) cW (cN (A6 yR (eC (.int 1))))) (oM g6 (aB 3) cW (cN (A6 yR (eC (.int 1))))))))) (a7 (eC (.bl false))) aX)
 (aK (dX (bC (aD gO (aB 8) (eC (.int 0)))) (a7 (aD SR (aD aS (aD aS (aD aS (aB 1) (aB 5)) (aB 6)) (aB 7)) (bU k.k.aF ("lost" : Str) (aB 0)))) aX)
 (a7 (TF GU GU (eC (.int 1)) (aB 8) (bU k.k.aF ("slow" : Str) (aB 0))))))))
def KW (k : Bd) : MF := bL (CO k) BQ
def VZ : List Str := [("plan" : Str), ("lacks" : Str), ("sent_here" : Str), ("fates" : Str), ("found" : Str), ("ahead" : Str), ("place" : Str), ("thing" : Str)]
def U1 (k : Bd) : MS :=
 (aK (aT sX (aU 4))
 (aK (aT (bM aE) (aU 5))
 (aK (fW (fU FN (aA (aB 3) aE)) (cC 2 (aL (aU 6) (aL (aU 7) cA))) (aK (dX (bT (cU (aJ (KW k) 5 aM (aA (aB 0) (aA (aB 1) (aA (aB 2) (aA (aB 5) (aA (aB 7) aE)))))))) N7 aX)
 (aK (aT (aD aS (aB 7) (A6 yR (eC (.int 1)))) (eJ (aB 4) (oM g6 (aB 7) cW (cN (A6 yR (eC (.int 1)))))))
 (aT (aB 7) (aU 5)))))
 (a7 (aB 4)))))
def VM (k : Bd) : MF := bL (U1 k) VZ
def TK : List Str := [("plan" : Str), ("deed" : Str), ("address" : Str)]
def T6 (k : Bd) : MS :=
 (aK (dX (bC (aD aCj (aD aS (aB 1) (eC (.int 0))) (bM (aA (eC (.str ("fall" : Str))) (aA (eC (.str ("stop" : Str))) aE))))) (a7 (bM aE)) aX)
 (a7 (aQ iC (aA (cG (fU nH (aA (aJ (fA k.k) 1 aM (aA (aB 0) aE)) aE)) [2] (aU 2) cL (bM (aA (aB 2) (aA (aD aS (aB 1) (eC (.int 1))) (aA (eC (.str ("rests" : Str))) aE))))) aE))))
def U8 (k : Bd) : MF := bL (T6 k) TK
def MV : List Str := [("plan" : Str), ("state" : Str), ("deeds" : Str), ("news" : Str), ("place" : Str), ("deed" : Str)]
def OL (k : Bd) : MS :=
 (aK (aT (eNew aE) (aU 3))
 (aK (fW (fU FN (aA (aB 2) aE)) (cC 2 (aL (aU 4) (aL (aU 5) cA))) (aK (dX (bT (cU (aJ (ZL k.k k.S) 3 aM (aA (aB 0) (aA (aB 1) (aA (aB 5) aE)))))) N7 aX)
 (aK (aT (aJ (RY k.k) 4 aM (aA (aB 0) (aA (aB 1) (aA (aB 5) (aA sX aE))))) (aU 1))
 (cV (dD "list" aEt (aB 3) (aA (aJ (U8 k) 2 aM (aA (aB 0) (aA (aB 5) aE))) aE))))))
 (a7 (bM (aA (aB 1) (aA (aQ iC (aA (aB 3) aE)) aE))))))
def M4 (k : Bd) : MF := bL (OL k) MV
def aB1 : List Str := [("plan" : Str), ("state" : Str), ("deeds" : Str), ("fates" : Str), ("after" : Str), ("news" : Str), ("beat" : Str), ("sent_here" : Str), ("known" : Str), ("letter" : Str)]
def aAz (k : Bd) : MS :=
 (aK (aT (aJ (M4 k) 3 aM (aA (aB 0) (aA (aB 1) (aA (aB 2) aE)))) (cC 2 (aL (aU 4) (aL (aU 5) cA))))
 (aK (aT (aIa k.B (OU k) 3 aM (aA (aB 0) (aA (aB 4) (aA (aQ cX (aA (aD aS (aB 1) (eC (.int 5))) aE)) aE)))) (aU 6))
 (aK (aT (aIT (eQ (bU k.B ("letters_sent" : Str) (aB 6))) [9] (aU 9) cL (oM g6 (aB 9) cW (cN (A6 yR (eC (.int 1))))) (eC (.bl true))) (aU 7))
 (aK (aT (aJ (VM k) 4 aM (aA (aB 0) (aA (aD aS (aB 1) (eC (.int 6))) (aA (aB 7) (aA (aB 3) aE))))) (aU 8))
 (a7 (bM (aA (aD bJ (aB 5) (aQ iC (aA (bU k.B ("news_told" : Str) (aB 6)) aE))) (aA (kP k.B ("state_by" : Str) (EB k) 3 aM (aB 6) (aA (aD aS (aB 1) (eC (.int 6))) (aA (aB 8) aE))) aE))))))))
def aCp (k : Bd) : MF := bL (aAz k) aB1
abbrev sN (k : Bd) : List D → List D → List D := fun xs zs => j7 [(0, 0), (0, 1), (1, 0), (1, 1)] xs zs []
def IY : List Str := [("_law_one" : Str), ("_law_other" : Str)]
def JH (k : bH) : MS :=
 (a7 (eOr (aD NP (aD aS (aB 0) (eC (.int 0))) (aD aS (aB 1) (eC (.int 0)))) (jS (aD gO (aD aS (aB 0) (eC (.int 0))) (aD aS (aB 1) (eC (.int 0)))) (aD SR (aD aS (aB 0) (eC (.int 1))) (aD aS (aB 1) (eC (.int 1)))))))
def xP (k : bH) : MF := bL (JH k) IY
def HJ : List Str := [("_law_model_here" : Str), ("_law_world_here" : Str), ("_law_letter" : Str), ("_law_news" : Str), ("_law_left" : Str), ("_law_a" : Str), ("_law_s" : Str), ("_law_r" : Str), ("_law_rank_here" : Str), ("_law_many" : Str), ("_law_stand" : Str), ("_law_own" : Str)]
def E8 (k : bH) : MS :=
 (aK (aT (aB 2) (cC 5 (aL (aU 4) (aL (aU 5) (aL (aU 6) (aL (aU 7) (aL (aU 8) cA)))))))
 (aK (aT (aQ cX (aA (aD aS (aB 1) (eC (.str ("living" : Str)))) aE)) (aU 9))
 (aK (dX (fE (bC (aD pT (aD aS (aD aS (aB 1) (eC (.str ("parts" : Str)))) (aB 6)) (aD aS (aD aS (aB 1) (eC (.str ("parts" : Str)))) (aB 7)))) (i4 (bC (aD SR (aB 7) (aB 9))) (bC (aD gO (aD aS (aD aS (aB 1) (eC (.str ("living" : Str)))) (aB 7)) (eC (.int 0)))))) (a7 (eC .non)) aX)
 (aK (dX (bC (aD geM (aB 7) (aB 9))) (aK (dX (bC (aD NP (aB 8) (eC (.int 0)))) (aT (aB 6) (eJ (aD aS (aD aS (aB 1) (eC (.str ("tables" : Str)))) (aD kX (aB 7) (aB 9))) (aB 5))) aX)
 (a7 (eC .non))) aX)
 (aK (MC 10 11 (aA (aD aS (aD aS (aD aS (aB 1) (eC (.str ("stands" : Str)))) (aB 5)) (aB 7)) (aA (bM (aA (aJ (nD k) 4 aM (aA (aB 0) (aA (aB 1) (aA (aB 5) (aA (aB 7) aE))))) (aA (aB 7) aE))) aE)))
 (dX (i4 (bC (aD gO (aD aS (aB 10) (eC (.int 0))) (eC (.str ("serves" : Str))))) (i4 (bC (aD NP (aB 8) (eC (.int 0)))) (cU (aJ (xP k) 2 aM (aA (bM (aA (aB 8) (aA (aB 6) aE))) (aA (aB 11) aE)))))) (aK (aT (aJ (tH k) 4 aM (aA (aB 0) (aA (aB 1) (aA (aB 5) (aA (aB 7) aE))))) (eJ (aD aS (aD aS (aB 1) (eC (.str ("stands" : Str)))) (aB 5)) (aB 7)))
 (cV (dD "list" c8 (aB 3) (aA (bM (aA (aB 5) (aA (aB 7) (aA (eC (.str ("yields" : Str))) aE)))) aE)))) (dX (i4 (bC (aD gO (aD aS (aB 10) (eC (.int 0))) (eC (.str ("waits" : Str))))) (bC (aD gO (aB 8) (eC (.int 0))))) (aT (aQ min2 (aA (aD aS (aB 10) (eC (.int 1))) (aA (aD bJ (eC (.int 2)) (aD mulM (aD aS (aB 0) (eC (.str ("gap" : Str)))) (aD kX (eC (.int 12)) (aD aS (aB 11) (eC (.int 0)))))) aE))) (eJ (aB 10) (eC (.int 1)))) (dX (i4 (bC (aD gO (aD aS (aB 10) (eC (.int 0))) (eC (.str ("waits" : Str))))) (fE (bT (cU (aD aS (aB 0) (eC (.str ("takes" : Str)))))) (cU (aJ (xP k) 2 aM (aA (bM (aA (aB 8) (aA (aB 6) aE))) (aA (aB 11) aE)))))) (aT (aQ max2 (aA (aD aS (aB 10) (eC (.int 1))) (aA (aJ (DD k) 2 aM (aA (aB 0) (aA (aD aS (aB 11) (eC (.int 0))) aE))) aE))) (eJ (aB 10) (eC (.int 1)))) aX))))))))
def HB (k : bH) : MF := bL (E8 k) HJ
def SV : List Str := [("_law_model_here" : Str), ("_law_world_here" : Str), ("_law_acts" : Str), ("_law_lots" : Str), ("_law_news" : Str), ("_law_letters" : Str), ("_law_deed_here" : Str), ("_law_one" : Str), ("_law_a" : Str), ("_law_h" : Str), ("_law_role" : Str), ("_law_clock" : Str)]
def P6 (k : bH) : MS :=
 (aK (aT (bM (aA (eNew aE) (aA (eNew aE) aE))) (cC 2 (aL (aU 4) (aL (eJ (aB 1) (eC (.str ("sent" : Str)))) cA))))
 (aK (aT (bM (aA (cG (eQ (aD aS (aB 1) (eC (.str ("under" : Str))))) [7] (aU 7) cL (aD bJ (bM (aA (aD kX (aD aS (aB 7) (eC (.int 0))) (eC (.int 1))) aE)) (oM g6 (aB 7) (cN (eC (.int 1))) cW))) (aA (eNew aE) aE))) (cC 2 (aL (aU 5) (aL (eJ (aB 1) (eC (.str ("under" : Str)))) cA))))
 (aK (fW (eQ (aB 2)) (aU 6) (cV (aJ (RD k) 5 aM (aA (aB 0) (aA (aB 1) (aA (aB 6) (aA (aB 3) (aA (aB 4) aE))))))))
 (aK (aT (aD AA (cG (eQ (aB 5)) [7] (aU 7) (bC (aD NP (aD aS (aB 7) (eC (.int 0))) (eC (.int 0)))) (aB 7)) (aD aS (aB 1) (eC (.str ("under" : Str))))) (eJ (aB 1) (eC (.str ("under" : Str)))))
 (aK (fW (eQ (aB 5)) (aU 7) (dX (bC (aD gO (aD aS (aB 7) (eC (.int 0))) (eC (.int 0)))) (cV (aJ (HB k) 4 aM (aA (aB 0) (aA (aB 1) (aA (aB 7) (aA (aB 4) aE)))))) aX))
 (aK (fW (fU nH (aA (aQ cX (aA (aD aS (aB 0) (eC (.str ("ranks" : Str)))) aE)) aE)) (aU 8) (fW (fU nH (aA (aQ cX (aA (aD aS (aB 1) (eC (.str ("living" : Str)))) aE)) aE)) (aU 9) (aK (aT (aD aS (aD aS (aD aS (aB 1) (eC (.str ("stands" : Str)))) (aB 8)) (aB 9)) (aEA 2 (aL (aU 10) (aL (aU 11) cA))))
 (aK (aT (eNew (aA (aB 10) (aA (aD kX (aB 11) (aQ ED (aA (aD pT (aB 10) (eC (.str ("rests" : Str)))) aE))) aE))) (eJ (aD aS (aD aS (aB 1) (eC (.str ("stands" : Str)))) (aB 8)) (aB 9)))
 (dX (i4 (bC (aD pT (aB 10) (eC (.str ("rests" : Str))))) (bC (aD gO (aB 11) (eC (.int 1))))) (aK (dX (bC (aD gO (aB 10) (eC (.str ("waits" : Str))))) (cV (dD "list" c8 (aB 4) (aA (bM (aA (aB 8) (aA (aB 9) (aA (eC (.str ("serves" : Str))) aE)))) aE))) aX)
 (aK (aT (eNew (aA (eC (.str ("serves" : Str))) (aA (aD aS (aB 0) (eC (.str ("every" : Str)))) aE))) (eJ (aD aS (aD aS (aB 1) (eC (.str ("stands" : Str)))) (aB 8)) (aB 9)))
 (cV (aJ (EA k) 5 aM (aA (aB 1) (aA (aB 8) (aA (aB 9) (aA (aJ (nD k) 4 aM (aA (aB 0) (aA (aB 1) (aA (aB 8) (aA (aB 9) aE))))) (aA (aB 3) aE))))))))) aX)))))
 (a7 (aQ iC (aA (aB 4) aE)))))))))
def SG (k : bH) : MF := bL (P6 k) SV
structure Bt where
 eG : List (List (Role × Int))
 tables : List (List Int)
 under : List CT
 Q6 : List R4
 news : List D
def nwD (a c : Nat) (z : Str) : D := .tup [.int (a : Nat), .int (c : Nat), .str z]
def aG6 (y : Bt) (a c : Nat) : Role × Int := (y.eG.getD a []).getD c (.rests, 0)
section
variable {n : Nat} {w w' : W} {A : tO} {x : Wx} {y : Bt} {σ : Sg} {P : D → W → Prop} {PF : Fl → W → Prop} {PU : Unit → W → Prop} {PI : lB → W → Prop} {k : Bd} {cB : Addr} {i h p : Nat} {m : Mo} {b : Int} {s : BL} {l : oN} {o o1 : MO}
theorem aEb {C : Addr} {nm : Str} {mf : MF} {j : Nat} {gd : List D → List D → List D} {me : ME} {ma : MA} : T (kP C nm mf j gd me ma σ w) P = T (me σ w) fun x w1 => match BO C nm x w1 with
  | some i => T (ma σ w1) fun xs w2 => xs.length + 1 = j ∧ T (mf (gd (.ref i :: xs) []) w2) P
  | none => False := by
 unfold kP
 simp only [bE]
 congr 1; funext x w1
 cases BO C nm x w1 with
 | none => simp only [aET]
 | some i => simp only [c5, bE]
end
def aHX (l : CT) : R4 := ⟨l.a.toNat, l.s.toNat, l.r.toNat, l.rank⟩
def bt0 (s : BL) (j : Nat) : Bt := ⟨s.eG, s.tables, [], (s.mF.drop j).map aHX, []⟩
section
variable {n B0 : Nat} {w w' : W} {A : tO} {x : Wx} {y y' : Bt} {σ : Sg} {P : D → W → Prop} {PL : List D → W → Prop} {PF : Fl → W → Prop} {PU : Unit → W → Prop} {PI : lB → W → Prop} {k : Bd} {cB : Addr} {i h p : Nat} {m : Mo} {b : Int} {s : BL} {l : oN} {o o1 : MO}
theorem ins_get {r : List MO} {o : MO} : (w ++ (o :: r))[w.length]? = some o := by rw [bw (bq _), Nat.sub_self]; rfl
end
section
variable {n B0 : Nat} {w w' : W} {A : tO} {x : Wx} {y y' : Bt} {σ : Sg} {P : D → W → Prop} {PL : List D → W → Prop} {PK : List (List Key × D) → W → Prop} {PF : Fl → W → Prop} {PU : Unit → W → Prop} {PI : lB → W → Prop} {k : Bd} {cB : Addr} {i h p f q : Nat} {m : Mo} {b : Int} {s : BL} {l : oN} {o o1 : MO} {kv : List (List Key × D)} {lk : List (List (List Int))} {ts ls : List R4} {t u : R4}
theorem at4 {a b c d : D} : T (aS (.tup [a, b, c, d]) (.int (-1)) w) P = P d w := by
 have : aS (.tup [a, b, c, d]) (.int (-1)) w = .ok d w := rfl
 rw [this, b7]
end
def Pos (y : Bt) : Prop := ∀ a c, (aG6 y a c).1 ≠ .rests → 1 ≤ (aG6 y a c).2
section
variable {n B0 : Nat} {w w' w0 : W} {A A' A0 : tO} {x X X0 : Wx} {y y' : Bt} {σ : Sg} {P : D → W → Prop} {PL : List D → W → Prop} {PF : Fl → W → Prop} {PU : Unit → W → Prop} {PI : lB → W → Prop} {k : bH} {i h p f q news : Nat} {m : Mo} {b : Int} {s s1 s2 : BL} {l : CT} {o o1 : MO} {kv : List (List Key × D)} {nw : List D} {fa : V6} {ts t1 t2 : List R4} {ls : List CT} {ds : List u6}
theorem X2 {a c : D} {xs zs : List D} (h1 : EE a w = some xs) (h2 : EE c w = some zs) : T (AA a c w) P = (xs.length + zs.length ≤ sizeLine ∧ P (.ref w.length) (w ++ [.lst (xs ++ zs)])) := by
 simp only [AA, h1, h2]
 by_cases c : xs.length + zs.length ≤ sizeLine
 ·rw [if_pos c, b7]; simp [c]
 ·rw [if_neg c, aET]; simp [c]
end
section
variable {n B0 Q : Nat} {w w' w0 : W} {A A' A0 : tO} {x X X0 e : Wx} {y y' z : Bt} {P : D → W → Prop} {kb : Bd} {k : bH} {i h p f q news : Nat} {m : Mo} {b xE : Int} {s s1 s2 : BL} {l : CT} {o o1 : MO} {kv : List (List Key × D)} {nw : List D} {fa : V6} {t : R4} {ts t1 t2 ls : List R4} {L : List CT} {ds : List u6}
theorem eY {v : Int} (h0 : -1000 ≤ v) (h1 : v ≤ 1000) : v.natAbs < 10 ^ 40 := by
 have : (1001 : Nat) ≤ 10 ^ 40 := by decide
 omega
theorem qX {v : Int} (h0 : -1000 ≤ v) (h1 : v ≤ 1000) : cO 0 6 (.int v) := (cO.int (eY h0 h1)).mono (bq _) (by omega)
theorem aFO : bR 0 6 [] := bR.nil.mono (bq _) (by omega)
def aHq (d : D) : Prop := ∃ (a c : Nat) (z : Str), (a ≤ 100 ∧ c ≤ 100) ∧ (z = ("rests" : Str) ∨ z = ("yields" : Str) ∨ z = ("serves" : Str)) ∧ d = nwD a c z
end
def Tells (ds : List D) : Prop := ∀ d ∈ ds, aHq d
open PySem.W (dataLe)
section
variable {n B0 Q : Nat} {w w' w0 : W} {A A' A0 : tO} {x X X0 e : Wx} {y y' z : Bt} {σ : Sg} {P : D → W → Prop} {PL : List D → W → Prop} {kb : Bd} {k : bH} {i h p f q news : Nat} {m : Mo} {b xE : Int} {s s1 s2 : BL} {l : CT} {o o1 : MO} {kv : List (List Key × D)} {nw : List D} {fa : V6} {t : R4} {ts t1 t2 ls : List R4} {L : List CT} {S : List D} {ds : List u6}
theorem ZP {us : List (Int × Int × Int)} (h : us.length ≤ 1000) : O7 (us.map cQ) w = some ((us.mergeSort G1).map cQ) := by
 unfold O7
 rw [ZJ, if_pos]
 refine ⟨?_, ?_, by rw [ay, sizeLine_eq]; omega⟩
 ·rw [bg]
  intro d hd
  obtain ⟨t, _, rfl⟩ := cb.mp hd
  rfl
 ·have e : (us.map cQ).map (OB w) = us.map fun t => .tuple [.int t.1, .int t.2.1, .int t.2.2] := by rw [cy]; rfl
  rw [e]
  unfold kD
  simp only [ak, Bool.or_eq_true, bg]
  refine ⟨⟨fun p hp q hq => ?_, .inl fun p hp => ?_⟩, fun p hp => ?_⟩
  ·obtain ⟨t, _, rfl⟩ := cb.mp hp
   obtain ⟨u, _, rfl⟩ := cb.mp hq
   simp [PySem.W.alike, PySem.W.alikeAll]
  ·obtain ⟨t, _, rfl⟩ := cb.mp hp
   rfl
  ·obtain ⟨t, _, rfl⟩ := cb.mp hp
   simp [PyData.depth, PyData.depthAll]
end
end Lw
namespace Lq
open PySem PySem.Spec PyProof.Rows L2 Pc Lb Lw
section
variable {n d0 : Nat} {w w' w0 w1 : W} {A A' A1 : tO} {C : Con} {x x' x0 : Wx} {σ : Sg} {P : D → W → Prop} {PL : List D → W → Prop} {PF : Fl → W → Prop} {PU : Unit → W → Prop} {PI : lB → W → Prop} {l : oN} {o o1 u : MO} {k : bH} {tS : Addr} {i h p na : Nat} {m : Mo} {b : Int}
theorem at4 {a b c d : Int} {x : Int} (h0 : 0 ≤ x) (h1 : x < 4) : ∃ y, atI [D.int a, D.int b, D.int c, D.int d] x = some (.int y) ∧ (y = a ∨ y = b ∨ y = c ∨ y = d) := by
 have : x = 0 ∨ x = 1 ∨ x = 2 ∨ x = 3 := by omega
 rcases this with rfl | rfl | rfl | rfl
 ·exact ⟨a, rfl, .inl rfl⟩
 ·exact ⟨b, rfl, .inr (.inl rfl)⟩
 ·exact ⟨c, rfl, .inr (.inr (.inl rfl))⟩
 ·exact ⟨d, rfl, .inr (.inr (.inr rfl))⟩
end
end Lq
namespace Lw
open PySem PySem.Spec PyProof.Rows L2 Pc Lb
section
variable {n B0 Q : Nat} {w w' : W} {A A' : tO} {x : Wx} {y : Bt} {P : D → W → Prop} {kb : Bd} {k : bH} {i h p f : Nat} {m : Mo} {b : Int} {s : BL} {ls : List R4} {ds : List u6}
theorem VC {us : List (Int × Int × Int)} (hl : us.length ≤ 1000) : T (oF [.lst (us.map cQ)] w) P = P (.lst ((us.mergeSort G1).map cQ)) w := by
 have : oF [.lst (us.map cQ)] w = .ok (.lst ((us.mergeSort G1).map cQ)) w := by
  have l : xG (.lst (us.map cQ)) w = some (us.map cQ) := rfl
  simp only [oF, l, Option.bind_some, ZP (w := w) hl]
 rw [this, b7]
end
open PySem.W (dataLe)
abbrev Qd := Int × Int × Int × Int
def l4 (t : Qd) : List Int := [t.1, t.2.1, t.2.2.1, t.2.2.2]
def aG0 (q : Role × Int) : Bool := decide (q.1 = .TR)
structure Nd where
 b : Bd
 N : Addr
def fT : List Str := [("self" : Str), ("numbers" : Str)]
def gS (k : Nd) : MS :=
 (aK (aT (bM (aA (bU k.b.k.aF ("every" : Str) (aB 0)) (aA (bU k.b.k.aF ("lost" : Str) (aB 0)) (aA (bU k.b.k.aF ("slow" : Str) (aB 0)) (aA (bU k.b.k.aF ("bears" : Str) (aB 0)) (aA (bU k.b.k.aF ("gap" : Str) (aB 0)) (aA (bU k.b.k.aF ("hold" : Str) (aB 0)) aE))))))) (aU 1))
 (a7 (aD bJ (aD bJ (bM (aA (bU k.b.k.aF ("ranks" : Str) (aB 0)) aE)) (aB 1)) (bM (aA (bU k.b.k.aF ("takes" : Str) (aB 0)) (aA (bU k.b.k.aF ("ties" : Str) (aB 0)) (aA (bU k.b.k.aF ("hosts" : Str) (aB 0)) aE)))))))
def dJ (k : Nd) : MF := bL (gS k) fT
theorem E9 (x0 : D) : begin fT [x0] = [some x0, none] := rfl
def oR : List Str := [("self" : Str), ("other" : Str)]
def oQ (k : Nd) : MS :=
 (a7 (jS (aQ (fS (kcI k.b.k.aF)) (aA (aB 1) (aA (eC (.con k.b.k.aF)) aE))) (aD gO (kP k.b.k.aF ("fields" : Str) (dJ k) 1 aM (aB 0) aE) (kP k.b.k.aF ("fields" : Str) (dJ k) 1 aM (aB 1) aE))))
def bN (k : Nd) : MF := bL (oQ k) oR
def PD : List Str := [("self" : Str)]
def SI (k : Nd) : MS :=
 (a7 (aD aS (bU k.N ("states_kept" : Str) (aB 0)) (A6 yR (eC (.int 1)))))
def S5 (k : Nd) : MF := bL (SI k) PD
def V9 : List Str := [("self" : Str), ("deeds" : Str), ("fates" : Str), ("told" : Str), ("state" : Str)]
def UY (k : Nd) : MS :=
 (aK (aEw k.N ("beats_begun" : Str) (aB 0) (eC (.int 1)))
 (aK (aIL (aK (aT (U3 (aCp k.b) 2 2 (sN k.b) (aA (bU k.N ("plan" : Str) (aB 0)) (aA (kP k.N ("state" : Str) (S5 k) 1 aM (aB 0) aE) aE)) (aA (aB 1) (aA (aB 2) aE))) (cC 2 (aL (aU 3) (aL (aU 4) cA))))
 (aK (cV (dD "list" c8 (bU k.N ("states_kept" : Str) (aB 0)) (aA (aB 4) aE)))
 (cV (dD "list" c8 (bU k.N ("news_kept" : Str) (aB 0)) (aA (aB 3) aE))))) (aEw k.N ("beats_left" : Str) (aB 0) (eC (.int 1))))
 (a7 (aB 3))))
def WH (k : Nd) : MF := bL (UY k) V9
abbrev qM (k : Nd) : List D → List D → List D := fun xs zs => j7 [(0, 0), (1, 0), (1, 1)] xs zs []
section
variable {n B0 Q : Nat} {w w' w0 : W} {A A' A0 : tO} {x : Wx} {y : Bt} {P : D → W → Prop} {PF : Fl → W → Prop} {kb : Bd} {k : Nd} {i h p q f S N : Nat} {m : Mo} {b g l : Int} {s : BL} {lk : List (List (List Int))} {ts ls : List R4} {ds : List u6} {dd ff cur : D} {ss : List D} {ns : List (List D)}
def XC (m : Mo) (b : Int) : D := .tup [.tup (m.cP.map c7), .int m.j3, .int m.xE, .int m.tT, .int b, .int m.gap, .int m.hold, .bl m.takes, .tup (m.dE.map cQ), .int m.f7]
theorem rM (hp : i7 k.b.k w p m b) : T (dJ k [.ref p] w) P = P (XC m b) w := by
 unfold dJ gS
 rw [dO, E9, bD]
 simp only [aCJ hp, aGM hp, aGH hp, aC4 hp, aH8 hp, aFB hp, aC9 hp, aCQ hp, aAV hp, aCW hp, zY, ae, ab, reduceCtorEq]
 exact propext ⟨fun h => h.2, fun h => ⟨xH _ (by simp), h⟩⟩
theorem yK (o : MoB m h) (b0 : 0 ≤ b ∧ b ≤ 3) : ∃ u, (∀ w, (XC m b).py w = some u) ∧ Fit u := by
 have h6 := o.cP.h6
 have n4 := o.n4
 have t6 := o.dE.few
 obtain ⟨v1, v2⟩ := o.j3
 obtain ⟨v3, v4⟩ := o.xE
 obtain ⟨v5, v6⟩ := o.tT
 obtain ⟨v7, v8⟩ := o.gap
 obtain ⟨v9, v10⟩ := o.hold
 obtain ⟨v11, v12⟩ := o.f7
 have fr : cO 100 6 (.tup (m.cP.map c7)) := (cO.yJ (n := 6) (d := 2) (c := 4) (fun y hy => by
  obtain ⟨r, hr, rfl⟩ := cb.mp hy
  obtain ⟨e1, e2⟩ := o.cP.row r hr
  exact cO.row (fun z hz => eY (by have := e2 z hz; omega) (by have := e2 z hz; omega)) (by omega)) (by rw [ay]; omega)).mono (by omega) (by omega)
 have ft : cO 100 6 (.tup (m.dE.map cQ)) := (cO.yJ (n := 3) (d := 2) (c := 6) (fun y hy => by
  obtain ⟨t, ht, rfl⟩ := cb.mp hy
  obtain ⟨⟨a1, a2⟩, ⟨a3, a4⟩, a5, a6⟩ := o.dE.each t ht
  exact (cO.tup (bR.cons (cO.int (eY (v := t.1) (by omega) (by omega))) (bR.cons (cO.int (eY (v := t.2.1) (by omega) (by omega))) (bR.cons (cO.int (eY (v := t.2.2) (by omega) (by omega))) (bR.nil.mono (bq _) (by omega)))))).mono (by omega) (bq _)) (by rw [ay]; omega)).mono (by omega) (by omega)
 exact (cO.tup (bR.cons fr (bR.cons (qX (v := m.j3) (by omega) (by omega)) (bR.cons (qX (v := m.xE) (by omega) (by omega)) (bR.cons (qX (v := m.tT) (by omega) (by omega)) (bR.cons (qX (v := b) (by omega) (by omega)) (bR.cons (qX (v := m.gap) (by omega) (by omega)) (bR.cons (qX (v := m.hold) (by omega) (by omega)) (bR.cons (cO.bl.mono (bq _) (by omega)) (bR.cons ft (bR.cons (qX (v := m.f7) (by omega) (by omega)) aFO))))))))))).fit (by omega) (by omega)
end
section
variable {n n' nn Q : Nat} {w w' : W} {A : tO} {x : Wx} {P : D → W → Prop} {i h p q F S N r : Nat} {m : Mo} {b g l : Int} {ds : List u6} {ls : List R4} {ns : List (List D)} {nw : List D} {ys : List D}
theorem World.mono (hW : World n w A x) (h : n' ≤ n) : World n' w A x := fun l o e => by
 obtain ⟨h1, h2, h3⟩ := hW l o e
 exact ⟨by omega, h2, h3⟩
end
abbrev G2 := List u6 × List R4
end Lw
namespace Pro
structure Dat where
 N : Nat
 mem : Nat → Prop
 R : Nat → Int
 takes : Bool
 j3 : Nat
 xE : Nat
 tT : Nat
 B : Nat
 wait : Nat → Int
 srv : Nat → Nat → Prop
 clk : Nat → Nat → Int
 snd : Nat → Nat → Prop
 hit : Nat → Nat → Nat → Prop
 lk : Nat → Nat → Nat → Nat
def Dat.ahead (D : Dat) (d c : Nat) : Prop := D.R d > D.R c ∨ (D.R d = D.R c ∧ d < c)
def Dat.P (D : Dat) : Nat := (D.xE + 1) * D.j3 + D.tT - 1
variable {D : Dat}
end Pro
namespace Lw
open PySem PySem.Spec PyProof.Rows L2 Pc Lb
section
variable {m : Mo} {b : Int} {h Q : Nat} {s : BL} {x e : Wx} {a c r : Nat} {q : Role × Int} {ds : List u6} {fa : V6} {l : CT}
def aIr (m : Mo) (b : Int) : Int := A7 m b 1 + m.hold
end
section
variable {m : Mo} {b : Int} {h Q : Nat} {s : BL} {x x' e : Wx} {a c d r t : Nat} {p : Int} {q : Role × Int} {ds : List u6} {fa : V6} {l : CT} {ts : List G2}
open Classical in
def aHK (m : Mo) (b : Int) (h : Nat) : Nat := (h + 1) * m.tT.toNat + (aIr m b).toNat
def aHD (m : Mo) : Nat := (m.xE.toNat + 1) * m.j3.toNat + m.tT.toNat - 1
end
def j0 : List Str := [("_law_net" : Str), ("_law_model_here" : Str), ("_law_world_here" : Str), ("_law_acts" : Str), ("_law_lots" : Str)]
def nM (k : Nd) : MS :=
 (aK (cV (aDP k.N ("turn" : Str) (WH k) 1 2 (qM k) (aB 0) aE (aA (aB 3) (aA (aB 4) aE))))
 (cV (aJ (SG k.b.k) 4 aM (aA (aB 1) (aA (aB 2) (aA (aB 3) (aA (aJ (zF k.b.k) 1 aM (aA (aB 4) aE)) aE)))))))
def mR (k : Nd) : MF := bL (nM k) j0
def aAl (h : Nat) (s : BL) (v : Nat) : List Nat := (List.range h).filter fun c => s.living.getD c 0 == 1 && s.parts.getD c 0 == (v : Int)
section
variable {k : Nd} {m : Mo} {b g l : Int} {h n i n0 p q S N D0 TT Q t C : Nat} {ss : List D} {ns : List (List D)} {w w' w0 : W} {A A' : tO} {x : Wx} {s : BL} {P : D → W → Prop} {PF : Fl → W → Prop} {ds : List u6} {a c d r v : Nat} {cs : List Nat} {kvs : List (List Key × D)} {V : Nat → Nat → Nat → Int}
theorem aAI {F : Nat} {ys xs : List D} (h : w[F]? = some (.lst xs)) : T (wU (.ref F) [.lst ys] w) P = (xs.length + ys.length ≤ sizeLine ∧ P .non (w.set F (.lst (xs ++ ys)))) := by
 simp only [wU, h, c5, b7]
end
section
variable {k : Nd} {m : Mo} {b : Int} {h Q C : Nat} {w : W} {x x0 : Wx} {s : BL} {P : D → W → Prop} {ts : List G2} {u : G2} {kvs kvs' : List (List Key × D)} {V : Nat → Nat → Nat → Int}
theorem EM : ∀ {ns : List Int}, nB (ns.map D.int) = some ns
 | [] => rfl
 | n :: ns => by
  rw [cg]
  unfold nB
  rw [EM]
  rfl
end
section
variable {k : Nd} {m : Mo} {b : Int} {h n0 p q S N TT Q i a c r : Nat} {ss : List D} {ns : List (List D)} {w w' w0 : W} {x : Wx} {P : D → W → Prop} {PF : Fl → W → Prop} {ds : List u6} {ls : List R4} {dd ff : D}
theorem e6 (s : BL) : atI [c7 s.living, c7 s.parts, c7 s.downs, .tup (s.cP.map c7), .tup (s.eG.map aHk), .tup (s.mF.map aEC), .tup (s.m5.map aEZ), .tup (s.tables.map c7), .tup (s.asks.map Pc.pairD)] 6 = some (.tup (s.m5.map aEZ)) := rfl
end
open PySem.W (dataLe)
abbrev Pd := Int × Int
def l2P (t : Pd) : List Int := [t.1, t.2]
def le2 (t u : Pd) : Bool := decide (l2P t ≤ l2P u)
section
variable {w : W} {P : D → W → Prop} {PI : lB → W → Prop} {kvs : List (List Key × D)} {i a c d C : Nat}
theorem aD1 (h : w[i]? = some (.dT kvs)) : T (zA (.ref i) w) PI = PI ⟨kvs.map fun p => .tup (p.1.map iS), always⟩ (w.set i (.dG kvs)) := by
 have : zA (.ref i) w = .ok ⟨kvs.map fun p => .tup (p.1.map iS), always⟩ (w.set i (.dG kvs)) := by simp only [zA, h]
 rw [this, b7]
theorem aCF {m : ME} {σ : Sg} : T (vX m σ w) PI = T (m σ w) fun d w1 => T (zA d w1) PI := by
 unfold vX
 rw [bE]
end
end Lw
namespace Lb
open PySem PySem.Spec PyProof.Rows L2 Pc
section
variable {w : W} {P : D → W → Prop} {k : bH} {tS : Addr} {p h n : Nat} {m : Mo} {b : Int} {s : BL} {d : D}
def aH6 (m : Mo) : D → Bool
 | .int t => (decide (0 ≤ t) && decide (t ≤ 9)) && decide (t ∈ m.dE.map fun t => t.2.1)
 | _ => false
theorem q8 (hp : i7 k w p m b) (o : MoB m h) (e : i9 (n + 1) d = true) (hP : P (.bl (aH6 m d)) w) : T (pC k [.ref p, d] w) P := by
 have few := o.dE.few
 unfold pC t8
 rw [dO, EC]
 simp only [rE 0 9 e, zY, ae, ab, reduceCtorEq]
 cases d <;> simp only [aN, aH6, zY, ae, ab, reduceCtorEq] at hP ⊢ <;> first | exact hP | skip
 rename_i t
 by_cases hr : (decide (0 ≤ t) && decide (t ≤ 9)) = true
 ·rw [hr] at hP
  simp only [hr, Bool.true_and, aAV hp, zY, ae, ab, reduceCtorEq] at hP ⊢
  refine ⟨xH _ (by rw [ay]; omega), ?_⟩
  refine mK (it := ⟨m.dE.map cQ, always⟩) m.dE cQ (fun t => .int t.2.1) rfl trivial (fun t _ => ?_) ?_
  ·simp only [eA, cQ, zY, ae, ab, reduceCtorEq]
  have em : m.dE.map (fun t => D.int t.2.1) = (m.dE.map fun t => t.2.1).map D.int := by rw [cy]; rfl
  rw [em]
  simp only [aIV, aDe, zY, ae, ab, reduceCtorEq]
  exact hP
 ·rw [Bool.not_eq_true] at hr
  rw [hr] at hP
  simp only [hr, Bool.false_and, zY, ae, ab, reduceCtorEq] at hP ⊢
  exact hP
end
end Lb
namespace Lw
open PySem PySem.Spec PyProof.Rows L2 Pc Lb TL
def YJ (z : Str) : Prop := tl (reprText z) = 39 :: (tl z ++ [39]) ∧ 39 ∉ tl z
mutual
def fV : PyData → Prop
 | .int _ => True
 | .str z => YJ z
 | .tuple xs => SimPs xs
 | _ => False
def SimPs : List PyData → Prop
 | [] => True
 | x :: xs => fV x ∧ SimPs xs
end
def mJ : List PyData → List Nat
 | [] => [41]
 | y :: t => 44 :: 32 :: (tl y.shown ++ mJ t)
def nQ : List PyData → List Nat
 | [] => [41]
 | [x] => tl x.shown ++ [44, 41]
 | x :: y :: t => tl x.shown ++ (44 :: 32 :: (tl y.shown ++ mJ t))
theorem J4 : ∀ (x : PyData) (t : List PyData), joinL [44, 32] ((PyData.shownAll (x :: t)).map tl) ++ [41] = tl x.shown ++ mJ t
 | x, [] => rfl
 | x, y :: t => by
  show (tl x.shown ++ ([44, 32] ++ joinL [44, 32] ((PyData.shownAll (y :: t)).map tl))) ++ [41] = _
  rw [cv, cv, J4 y t]
  rfl
theorem zX (xs : List PyData) : tl (PyData.tuple xs).shown = 40 :: nQ xs := by
 have e : (PyData.tuple xs).shown = ("(" : Str) ++ Str.join ", " (PyData.shownAll xs) ++ (if (PyData.shownAll xs).length == 1 then ",)" else ")" : String) := by
  simp only [PyData.shown]
  rfl
 have e1 : tl ("(" : Str) = [40] := by decide +kernel
 have e2 : tl (", " : Str) = [44, 32] := by decide +kernel
 have e3 : tl (Str.ofString ",)") = [44, 41] := by decide +kernel
 have e4 : tl (Str.ofString ")") = [41] := by decide +kernel
 rw [e, tl_append, tl_append, tl_join, e1, e2]
 match xs with
 | [] => simp only [PyData.shownAll, dc, List.map_nil]; exact congrArg _ e4
 | [x] =>
  show ([40] ++ tl x.shown) ++ tl (Str.ofString ",)") = _
  rw [e3]; rfl
 | x :: y :: t =>
  show ([40] ++ joinL [44, 32] ((PyData.shownAll (x :: y :: t)).map tl)) ++ tl (Str.ofString ")") = _
  rw [e4, cv, J4]; rfl
theorem EZ (n : Nat) : tl (PyData.int (Int.negSucc n)).shown = 45 :: numL (n + 1) := by
 have e : (PyData.int (Int.negSucc n)).shown = Str.ofString ("-" ++ toString ((n + 1 : Nat) : Int)) := by
  simp only [PyData.shown]
  rfl
 rw [e, tl_ofString, String.toList_append, du, ← tl_ofString, ← tl_ofString, tl_num]
 have : tl (Str.ofString "-") = [45] := by decide +kernel
 rw [this]
 rfl
theorem NA (n : Nat) : tl (PyData.int (n : Nat)).shown = numL n := by
 simp only [PyData.shown]
 exact tl_num n
def Dl (r : List Nat) : Prop := r = [] ∨ (∃ t, r = 44 :: t) ∨ ∃ t, r = 41 :: t
theorem aD0 : ∀ (a b : List Nat) {r r' : List Nat}, (∀ c ∈ a, 48 ≤ c ∧ c ≤ 57) → (∀ c ∈ b, 48 ≤ c ∧ c ≤ 57) → Dl r → Dl r' → a ++ r = b ++ r' → a = b ∧ r = r'
 | [], [], r, r', _, _, _, _, h => ⟨rfl, h⟩
 | x :: a, y :: b, r, r', ha, hb, d, d', h => by
  rw [bp, bp] at h
  injection h with h1 h2
  obtain ⟨e1, e2⟩ := aD0 a b (fun c hc => ha c (br _ hc)) (fun c hc => hb c (br _ hc)) d d' h2
  exact ⟨by rw [h1, e1], e2⟩
 | x :: a, [], r, r', ha, _, _, d', h => by
  exfalso
  have hx := ha x (bc ..)
  rw [cq] at h
  rcases d' with e | ⟨t, e⟩ | ⟨t, e⟩ <;> rw [e, bp] at h <;> injection h <;> omega
 | [], y :: b, r, r', _, hb, d, _, h => by
  exfalso
  have hy := hb y (bc ..)
  rw [cq] at h
  rcases d with e | ⟨t, e⟩ | ⟨t, e⟩ <;> rw [e, bp] at h <;> injection h <;> omega
theorem marks : ∀ (a b : List Nat) {r r' : List Nat}, 39 ∉ a → 39 ∉ b → a ++ 39 :: r = b ++ 39 :: r' → a = b ∧ r = r'
 | [], [], _, _, _, _, h => ⟨rfl, by injection h⟩
 | x :: a, y :: b, r, r', ha, hb, h => by
  rw [bp, bp] at h
  injection h with h1 h2
  obtain ⟨e1, e2⟩ := marks a b (fun c => ha (br _ c)) (fun c => hb (br _ c)) h2
  exact ⟨by rw [h1, e1], e2⟩
 | x :: a, [], r, r', ha, _, h => by
  rw [bp, cq] at h
  injection h with h1 h2
  exact absurd (by rw [h1]; exact bc ..) ha
 | [], y :: b, r, r', _, hb, h => by
  rw [bp, cq] at h
  injection h with h1 h2
  exact absurd (by rw [← h1]; exact bc ..) hb
theorem AJ {z : Str} (h : YJ z) : tl (PyData.str z).shown = 39 :: (tl z ++ [39]) := by
 simp only [PyData.shown]
 exact h.1
theorem wB : ∀ (p : PyData), fV p → ∃ c l, tl p.shown = c :: l ∧ ((∃ n : Nat, p = .int (n : Nat)) ∧ (48 ≤ c ∧ c ≤ 57) ∨ (∃ n, p = .int (Int.negSucc n)) ∧ c = 45 ∨ (∃ z, p = .str z ∧ YJ z) ∧ c = 39 ∨ (∃ xs, p = .tuple xs ∧ SimPs xs) ∧ c = 40)
 | .int (Int.ofNat n), _ => by
  have e : tl (PyData.int (Int.ofNat n)).shown = numL n := NA n
  obtain ⟨c, l, h⟩ := dt (numL_ne n)
  refine ⟨c, l, e.trans h, .inl ⟨⟨n, rfl⟩, ?_⟩⟩
  have := numL_digits n c (by rw [h]; exact bc ..)
  omega
 | .int (Int.negSucc n), _ => ⟨45, _, EZ n, .inr (.inl ⟨⟨n, rfl⟩, rfl⟩)⟩
 | .str z, h => by
  rw [fV] at h
  exact ⟨39, _, AJ h, .inr (.inr (.inl ⟨⟨z, rfl, h⟩, rfl⟩))⟩
 | .tuple xs, h => by
  rw [fV] at h
  exact ⟨40, _, zX xs, .inr (.inr (.inr ⟨⟨xs, rfl, h⟩, rfl⟩))⟩
 | .none, h => by simp [fV] at h
 | .bool _, h => by simp [fV] at h
 | .list _, h => by simp [fV] at h
 | .dict _, h => by simp [fV] at h
theorem Dl.tail : ∀ (t : List PyData) (r : List Nat), Dl (mJ t ++ r)
 | [], r => .inr (.inr ⟨r, rfl⟩)
 | y :: t, r => .inr (.inl ⟨_, rfl⟩)
theorem wQ {p : PyData} (h : fV p) {s u : List Nat} (e : tl p.shown ++ s = 41 :: u) : False := by
 obtain ⟨c, l, e1, hc⟩ := wB p h
 rw [e1, bp] at e
 injection e with e2 _
 rcases hc with ⟨_, hc⟩ | ⟨_, hc⟩ | ⟨_, hc⟩ | ⟨_, hc⟩ <;> omega
mutual
theorem oS : ∀ (p : PyData), fV p → ∀ (q : PyData), fV q → ∀ (r r' : List Nat), Dl r → Dl r' → tl p.shown ++ r = tl q.shown ++ r' → p = q ∧ r = r'
 | .int (Int.ofNat n), hp, q, hq, r, r', d, d', h => by
  have e : tl (PyData.int (Int.ofNat n)).shown = numL n := NA n
  have dg : ∀ n c, c ∈ numL n → 48 ≤ c ∧ c ≤ 57 := fun n c hc => by
   have := numL_digits n c hc
   omega
  obtain ⟨c', l', e', hc'⟩ := wB (.int (Int.ofNat n)) hp
  obtain ⟨c, l, eq, hc⟩ := wB q hq
  have hcc : c' = c := by rw [e', eq, bp, bp] at h; injection h
  have h48 : 48 ≤ c' ∧ c' ≤ 57 := dg n c' (by rw [← e, e']; exact bc ..)
  rcases hc with ⟨⟨k, rfl⟩, _⟩ | ⟨_, hc⟩ | ⟨_, hc⟩ | ⟨_, hc⟩
  ·rw [e, NA] at h
   obtain ⟨e1, e2⟩ := aD0 _ _ (dg n) (dg k) d d' h
   rw [numL_inj e1]
   exact ⟨rfl, e2⟩
  all_goals exfalso; omega
 | .int (Int.negSucc n), hp, q, hq, r, r', d, d', h => by
  have dg : ∀ n c, c ∈ numL n → 48 ≤ c ∧ c ≤ 57 := fun n c hc => by
   have := numL_digits n c hc
   omega
  obtain ⟨c, l, eq, hc⟩ := wB q hq
  have hcc : 45 = c := by rw [EZ, eq, bp, bp] at h; injection h
  rcases hc with ⟨_, hc⟩ | ⟨⟨k, rfl⟩, _⟩ | ⟨_, hc⟩ | ⟨_, hc⟩
  ·omega
  ·rw [EZ, EZ, bp, bp] at h
   injection h with _ h
   obtain ⟨e1, e2⟩ := aD0 _ _ (dg (n + 1)) (dg (k + 1)) d d' h
   have := numL_inj e1
   rw [show n = k by omega]
   exact ⟨rfl, e2⟩
  all_goals exfalso; omega
 | .str z, hp, q, hq, r, r', d, d', h => by
  rw [fV] at hp
  obtain ⟨c, l, eq, hc⟩ := wB q hq
  have hcc : 39 = c := by rw [AJ hp, eq, bp, bp] at h; injection h
  rcases hc with ⟨_, hc⟩ | ⟨_, hc⟩ | ⟨⟨k, rfl, hk⟩, _⟩ | ⟨_, hc⟩
  ·omega
  ·omega
  ·rw [AJ hp, AJ hk, bp, bp] at h
   injection h with _ h
   rw [cv, cv] at h
   obtain ⟨e1, e2⟩ := marks _ _ hp.2 hk.2 h
   rw [ext_tl e1]
   exact ⟨rfl, e2⟩
  ·omega
 | .tuple xs, hp, q, hq, r, r', d, d', h => by
  rw [fV] at hp
  obtain ⟨c, l, eq, hc⟩ := wB q hq
  have hcc : 40 = c := by rw [zX, eq, bp, bp] at h; injection h
  rcases hc with ⟨_, hc⟩ | ⟨_, hc⟩ | ⟨_, hc⟩ | ⟨⟨ys, rfl, hk⟩, _⟩
  ·omega
  ·omega
  ·omega
  ·rw [zX, zX, bp, bp] at h
   injection h with _ h
   obtain ⟨e1, e2⟩ := tup_key xs hp ys hk r r' h
   exact ⟨by rw [e1], e2⟩
 | .none, h, _, _, _, _, _, _, _ => by simp [fV] at h
 | .bool _, h, _, _, _, _, _, _, _ => by simp [fV] at h
 | .list _, h, _, _, _, _, _, _, _ => by simp [fV] at h
 | .dict _, h, _, _, _, _, _, _, _ => by simp [fV] at h
theorem tup_key : ∀ (xs : List PyData), SimPs xs → ∀ (ys : List PyData), SimPs ys → ∀ (r r' : List Nat), nQ xs ++ r = nQ ys ++ r' → xs = ys ∧ r = r'
 | [], hx, [], hy, r, r', h => ⟨rfl, by simp only [nQ, bp, cq] at h; injection h⟩
 | [], hx, [y], hy, r, r', h => by
  simp only [SimPs] at hy
  simp only [nQ, bp, cq, cv] at h
  exact (wQ hy.1 h.symm).elim
 | [], hx, y :: y2 :: ys, hy, r, r', h => by
  simp only [SimPs] at hy
  simp only [nQ, bp, cq, cv] at h
  exact (wQ hy.1 h.symm).elim
 | [x], hx, [], hy, r, r', h => by
  simp only [SimPs] at hx
  simp only [nQ, bp, cq, cv] at h
  exact (wQ hx.1 h).elim
 | [x], hx, [y], hy, r, r', h => by
  simp only [SimPs] at hx hy
  simp only [nQ, bp, cq, cv] at h
  obtain ⟨e1, e2⟩ := oS x hx.1 y hy.1 _ _ (.inr (.inl ⟨_, rfl⟩)) (.inr (.inl ⟨_, rfl⟩)) h
  injection e2 with _ e2
  injection e2 with _ e2
  exact ⟨by rw [e1], e2⟩
 | [x], hx, y :: y2 :: ys, hy, r, r', h => by
  simp only [SimPs] at hx hy
  simp only [nQ, bp, cq, cv] at h
  obtain ⟨e1, e2⟩ := oS x hx.1 y hy.1 _ _ (.inr (.inl ⟨_, rfl⟩)) (.inr (.inl ⟨_, rfl⟩)) h
  injection e2 with _ e2
  injection e2 with e2 _
  omega
 | x :: x2 :: xs, hx, [], hy, r, r', h => by
  simp only [SimPs] at hx
  simp only [nQ, bp, cq, cv] at h
  exact (wQ hx.1 h).elim
 | x :: x2 :: xs, hx, [y], hy, r, r', h => by
  simp only [SimPs] at hx hy
  simp only [nQ, bp, cq, cv] at h
  obtain ⟨e1, e2⟩ := oS x hx.1 y hy.1 _ _ (.inr (.inl ⟨_, rfl⟩)) (.inr (.inl ⟨_, rfl⟩)) h
  injection e2 with _ e2
  injection e2 with e2 _
  omega
 | x :: x2 :: xs, hx, y :: y2 :: ys, hy, r, r', h => by
  simp only [SimPs] at hx hy
  simp only [nQ, bp, cq, cv] at h
  obtain ⟨e1, e2⟩ := oS x hx.1 y hy.1 _ _ (.inr (.inl ⟨_, rfl⟩)) (.inr (.inl ⟨_, rfl⟩)) h
  injection e2 with _ e2
  injection e2 with _ e2
  obtain ⟨e3, e4⟩ := oS x2 hx.2.1 y2 hy.2.1 _ _ (Dl.tail _ _) (Dl.tail _ _) e2
  obtain ⟨e5, e6⟩ := tail_key xs hx.2.2 ys hy.2.2 r r' e4
  exact ⟨by rw [e1, e3, e5], e6⟩
theorem tail_key : ∀ (xs : List PyData), SimPs xs → ∀ (ys : List PyData), SimPs ys → ∀ (r r' : List Nat), mJ xs ++ r = mJ ys ++ r' → xs = ys ∧ r = r'
 | [], _, [], _, r, r', h => ⟨rfl, by simp only [mJ, bp, cq] at h; injection h⟩
 | [], _, y :: ys, _, r, r', h => by
  simp only [mJ, bp, cq] at h
  injection h with h _
  omega
 | x :: xs, _, [], _, r, r', h => by
  simp only [mJ, bp, cq] at h
  injection h with h _
  omega
 | x :: xs, hx, y :: ys, hy, r, r', h => by
  simp only [SimPs] at hx hy
  simp only [mJ, bp, cq, cv] at h
  injection h with _ h
  injection h with _ h
  obtain ⟨e1, e2⟩ := oS x hx.1 y hy.1 _ _ (Dl.tail _ _) (Dl.tail _ _) h
  obtain ⟨e3, e4⟩ := tail_key xs hx.2 ys hy.2 r r' e2
  exact ⟨by rw [e1, e3], e4⟩
end
mutual
theorem OC : ∀ (p : PyData), fV p → ∀ (q : PyData), fV q → (PyData.eqv p q = true ↔ p = q)
 | .int i, _, .int j, _ => by simp [PyData.eqv]
 | .str x, _, .str y, _ => by simp [PyData.eqv]
 | .tuple xs, hp, .tuple ys, hq => by
  rw [fV] at hp hq
  rw [PyData.eqv, eqvs_sim xs hp ys hq]
  simp
 | .int i, _, .str y, _ => by simp [PyData.eqv]
 | .int i, _, .tuple y, _ => by simp [PyData.eqv]
 | .str i, _, .int y, _ => by simp [PyData.eqv]
 | .str i, _, .tuple y, _ => by simp [PyData.eqv]
 | .tuple i, _, .int y, _ => by simp [PyData.eqv]
 | .tuple i, _, .str y, _ => by simp [PyData.eqv]
 | .none, h, _, _ => by simp [fV] at h
 | .bool _, h, _, _ => by simp [fV] at h
 | .list _, h, _, _ => by simp [fV] at h
 | .dict _, h, _, _ => by simp [fV] at h
 | _, _, .none, h => by simp [fV] at h
 | _, _, .bool _, h => by simp [fV] at h
 | _, _, .list _, h => by simp [fV] at h
 | _, _, .dict _, h => by simp [fV] at h
theorem eqvs_sim : ∀ (xs : List PyData), SimPs xs → ∀ (ys : List PyData), SimPs ys → (PyData.eqvAll xs ys = true ↔ xs = ys)
 | [], _, [], _ => by simp [PyData.eqvAll]
 | [], _, y :: ys, _ => by simp [PyData.eqvAll]
 | x :: xs, _, [], _ => by simp [PyData.eqvAll]
 | x :: xs, hx, y :: ys, hy => by
  simp only [SimPs] at hx hy
  rw [PyData.eqvAll, ak, OC x hx.1 y hy.1, eqvs_sim xs hx.2 ys hy.2, List.cons.injEq]
end
mutual
def eX : D → Prop
 | .int _ => True
 | .str z => YJ z
 | .tup xs => SimDs xs
 | _ => False
def SimDs : List D → Prop
 | [] => True
 | x :: xs => eX x ∧ SimDs xs
end
mutual
theorem NX : ∀ (d : D) {f : Nat → Option PyData} {p : PyData}, eX d → d.eP f = some p → fV p
 | .int i, f, p, _, h1 => by
  simp only [D.eP, ah] at h1
  subst h1
  simp [fV]
 | .str i, f, p, s1, h1 => by
  simp only [D.eP, ah] at h1
  simp only [eX] at s1
  subst h1
  simp [fV, s1]
 | .tup i, f, p, s1, h1 => by
  simp only [D.eP, au] at h1
  obtain ⟨ps, h1, rfl⟩ := h1
  simp only [eX] at s1
  simp only [fV]
  exact simps_of i s1 h1
 | .non, _, _, h, _ => by simp [eX] at h
 | .bl _, _, _, h, _ => by simp [eX] at h
 | .ty _, _, _, h, _ => by simp [eX] at h
 | .con _, _, _, h, _ => by simp [eX] at h
 | .lst _, _, _, h, _ => by simp [eX] at h
 | .pR _, _, _, h, _ => by simp [eX] at h
 | .gY _, _, _, h, _ => by simp [eX] at h
 | .xO _ _, _, _, h, _ => by simp [eX] at h
 | .ref _, _, _, h, _ => by simp [eX] at h
theorem simps_of : ∀ (xs : List D) {f : Nat → Option PyData} {ps : List PyData}, SimDs xs → D.pysR f xs = some ps → SimPs ps
 | [], f, ps, _, h1 => by
  simp only [D.pysR, ah] at h1
  subst h1
  simp [SimPs]
 | x :: xs, f, ps, s1, h1 => by
  simp only [D.pysR] at h1
  split at h1
  ·rename_i p ps e1 e2
   cases h1
   simp only [SimDs] at s1
   simp only [SimPs]
   exact ⟨NX x s1.1 e1, simps_of xs s1.2 e2⟩
  ·cases h1
end
mutual
theorem VU : ∀ (d e : D) {f g : Nat → Option PyData} {p q : PyData}, eX d → eX e → d.eP f = some p → e.eP g = some q → fV p ∧ fV q ∧ (p = q ↔ d = e)
 | .int i, .int j, f, g, p, q, _, _, h1, h2 => by
  simp only [D.eP, ah] at h1 h2
  subst h1 h2
  simp [fV]
 | .str i, .str j, f, g, p, q, s1, s2, h1, h2 => by
  simp only [D.eP, ah] at h1 h2
  simp only [eX] at s1 s2
  subst h1 h2
  simp [fV, s1, s2]
 | .tup i, .tup j, f, g, p, q, s1, s2, h1, h2 => by
  simp only [D.eP, au] at h1 h2
  obtain ⟨ps, h1, rfl⟩ := h1
  obtain ⟨qs, h2, rfl⟩ := h2
  simp only [eX] at s1 s2
  obtain ⟨a1, a2, a3⟩ := pys_sim i j s1 s2 h1 h2
  simp only [fV, PyData.tuple.injEq, D.tup.injEq]
  exact ⟨a1, a2, a3⟩
 | .int i, .str j, f, g, p, q, s1, s2, h1, h2 => by
  simp only [D.eP, ah] at h1 h2
  simp only [eX] at s1 s2
  subst h1 h2
  simp [fV, s2]
 | .str i, .int j, f, g, p, q, s1, s2, h1, h2 => by
  simp only [D.eP, ah] at h1 h2
  simp only [eX] at s1 s2
  subst h1 h2
  simp [fV, s1]
 | .tup i, .int j, f, g, p, q, s1, s2, h1, h2 => by
  simp only [D.eP, ah, au] at h1 h2
  obtain ⟨ps, h1, rfl⟩ := h1
  subst h2
  simp only [eX] at s1 s2
  have a1 := simps_of i s1 h1
  simp [fV, a1]
 | .tup i, .str j, f, g, p, q, s1, s2, h1, h2 => by
  simp only [D.eP, ah, au] at h1 h2
  obtain ⟨ps, h1, rfl⟩ := h1
  subst h2
  simp only [eX] at s1 s2
  have a1 := simps_of i s1 h1
  simp [fV, a1, s2]
 | .int i, .tup j, f, g, p, q, s1, s2, h1, h2 => by
  simp only [D.eP, ah, au] at h1 h2
  obtain ⟨ps, h2, rfl⟩ := h2
  subst h1
  simp only [eX] at s1 s2
  have a1 := simps_of j s2 h2
  simp [fV, a1]
 | .str i, .tup j, f, g, p, q, s1, s2, h1, h2 => by
  simp only [D.eP, ah, au] at h1 h2
  obtain ⟨ps, h2, rfl⟩ := h2
  subst h1
  simp only [eX] at s1 s2
  have a1 := simps_of j s2 h2
  simp [fV, a1, s1]
 | .non, _, _, _, _, _, h, _, _, _ => by simp [eX] at h
 | .bl _, _, _, _, _, _, h, _, _, _ => by simp [eX] at h
 | .ty _, _, _, _, _, _, h, _, _, _ => by simp [eX] at h
 | .con _, _, _, _, _, _, h, _, _, _ => by simp [eX] at h
 | .lst _, _, _, _, _, _, h, _, _, _ => by simp [eX] at h
 | .pR _, _, _, _, _, _, h, _, _, _ => by simp [eX] at h
 | .gY _, _, _, _, _, _, h, _, _, _ => by simp [eX] at h
 | .xO _ _, _, _, _, _, _, h, _, _, _ => by simp [eX] at h
 | .ref _, _, _, _, _, _, h, _, _, _ => by simp [eX] at h
 | _, .non, _, _, _, _, _, h, _, _ => by simp [eX] at h
 | _, .bl _, _, _, _, _, _, h, _, _ => by simp [eX] at h
 | _, .ty _, _, _, _, _, _, h, _, _ => by simp [eX] at h
 | _, .con _, _, _, _, _, _, h, _, _ => by simp [eX] at h
 | _, .lst _, _, _, _, _, _, h, _, _ => by simp [eX] at h
 | _, .pR _, _, _, _, _, _, h, _, _ => by simp [eX] at h
 | _, .gY _, _, _, _, _, _, h, _, _ => by simp [eX] at h
 | _, .xO _ _, _, _, _, _, _, h, _, _ => by simp [eX] at h
 | _, .ref _, _, _, _, _, _, h, _, _ => by simp [eX] at h
theorem pys_sim : ∀ (xs ys : List D) {f g : Nat → Option PyData} {ps qs : List PyData}, SimDs xs → SimDs ys → D.pysR f xs = some ps → D.pysR g ys = some qs → SimPs ps ∧ SimPs qs ∧ (ps = qs ↔ xs = ys)
 | [], [], f, g, ps, qs, s1, s2, h1, h2 => by
  simp only [D.pysR, ah] at h1 h2
  subst h1 h2
  simp [SimPs]
 | x :: xs, [], f, g, ps, qs, s1, s2, h1, h2 => by
  simp only [D.pysR, ah] at h1 h2
  subst h2
  split at h1
  ·rename_i p ps e1 e2
   cases h1
   simp only [SimDs] at s1
   have a1 := NX x s1.1 e1
   have b1 := simps_of xs s1.2 e2
   simp [SimPs, a1, b1]
  ·cases h1
 | [], y :: ys, f, g, ps, qs, s1, s2, h1, h2 => by
  simp only [D.pysR, ah] at h1 h2
  subst h1
  split at h2
  ·rename_i p ps e1 e2
   cases h2
   simp only [SimDs] at s2
   have a1 := NX y s2.1 e1
   have b1 := simps_of ys s2.2 e2
   simp [SimPs, a1, b1]
  ·cases h2
 | x :: xs, y :: ys, f, g, ps, qs, s1, s2, h1, h2 => by
  simp only [D.pysR] at h1 h2
  split at h1
  ·split at h2
   ·rename_i p ps e1 e2 _ _ q qs e3 e4
    cases h1
    cases h2
    simp only [SimDs] at s1 s2
    obtain ⟨a1, a2, a3⟩ := VU x y s1.1 s2.1 e1 e3
    obtain ⟨b1, b2, b3⟩ := pys_sim xs ys s1.2 s2.2 e2 e4
    exact ⟨⟨a1, b1⟩, ⟨a2, b2⟩, by rw [List.cons.injEq, List.cons.injEq, a3, b3]⟩
   ·cases h2
  ·cases h1
end
section
variable {w : W} {d e : D} {u v : PyData}
theorem SimDs.all : ∀ {xs : List D}, (∀ x ∈ xs, eX x) → SimDs xs
 | [], _ => by simp only [SimDs]
 | x :: xs, h => by
  simp only [SimDs]
  exact ⟨h x (bc ..), SimDs.all fun y hy => h y (br _ hy)⟩
theorem NT {xs : List D} (h : ∀ x ∈ xs, eX x) : eX (.tup xs) := by
 simp only [eX]
 exact SimDs.all h
theorem XU (r : List Int) : eX (c7 r) := NT fun x hx => by
 obtain ⟨v, _, rfl⟩ := cb.mp hx
 simp only [eX]
theorem map_inj {α β : Type} {f : α → β} (hf : ∀ a b, f a = f b → a = b) : ∀ {xs ys : List α}, xs.map f = ys.map f → xs = ys
 | [], [], _ => rfl
 | [], y :: ys, h => by simp at h
 | x :: xs, [], h => by simp at h
 | x :: xs, y :: ys, h => by
  rw [cg, cg, List.cons.injEq] at h
  rw [hf _ _ h.1, map_inj hf h.2]
end
section
variable {w w' : W} {P : D → W → Prop} {k : Nd} {q p S N q2 p2 S2 N2 h j n n2 d d2 Q : Nat} {ss ss2 : List D} {cur cur2 : D} {ns ns2 : List (List D)} {g l g2 l2 b : Int} {m : Mo} {xs ys : List D} {x y : D} {u v u2 v2 : PyData} {t : G2} {ts ts2 : List G2} {X : Wx}
theorem YY {d : D} {p : PyData} (e : d.py w = some p) (hs : SeqAt.shaped p = true) : tU d d w = some true := by
 unfold tU xF
 rw [e]
 simp only [hs, and_self, ae]
 rw [SeqAt.eqv_refl p (Bool.and_eq_true_iff.mp hs).1]
end
mutual
/-- plain things, empty dicts among them -/
def hE : PyData → Bool
 | .none | .bool _ => true
 | .int i => decide (i.natAbs < 10 ^ 40)
 | .str x => PyData.strOk (reprText x) && PyData.strOk x && PyData.leavesShort 60 (.str x) && decide (x.length ≤ 100)
 | .list xs | .tuple xs => plainXs xs
 | .dict kvs => kvs.isEmpty
def plainXs : List PyData → Bool
 | [] => true
 | x :: xs => hE x && plainXs xs
end
mutual
theorem OK : ∀ p : PyData, hE p = true → PyData.strOk p.shown = true
 | .none, _ => fK _
 | .bool b, _ => by cases b <;> exact fK _
 | .int i, _ => fK _
 | .str x, h => by
  simp only [hE, ak] at h
  exact h.1.1.1
 | .list xs, h => by
  rw [hE] at h
  show PyData.strOk (textFrom 0 "[" (PyData.shownAll xs) ++ "]") = true
  rw [iF, qF _ _ _ (fK _) (plainXs_shown xs h), fK]
  rfl
 | .tuple xs, h => by
  rw [hE] at h
  show PyData.strOk (tupleText (PyData.shownAll xs)) = true
  unfold tupleText
  rw [iF, iF, fK, AK _ (fK _) _ (plainXs_shown xs h)]
  split <;> rw [fK] <;> rfl
 | .dict [], _ => by decide +kernel
 | .dict (_ :: _), h => by simp [hE] at h
theorem plainXs_shown : ∀ ps : List PyData, plainXs ps = true → ∀ t ∈ PyData.shownAll ps, PyData.strOk t = true
 | [], _, t, ht => by simp [PyData.shownAll] at ht
 | p :: ps, h, t, ht => by
  simp only [plainXs, ak] at h
  simp only [PyData.shownAll, bu] at ht
  rcases ht with rfl | ht
  ·exact OK p h.1
  ·exact plainXs_shown ps h.2 t ht
end
mutual
theorem UM : ∀ p : PyData, hE p = true → p.leavesShort 60 = true ∧ p.showable = true
 | .none, _ => by simp [PyData.leavesShort, PyData.showable]
 | .bool b, _ => by simp [PyData.leavesShort, PyData.showable]
 | .int i, h => by
  simp only [hE, aq] at h
  exact ⟨CF h, zR h⟩
 | .str x, h => by
  simp only [hE, ak] at h
  exact ⟨h.1.2, by simp [PyData.showable]⟩
 | .list xs, h => by
  rw [hE] at h
  have := plainXs_all xs h
  simp only [PyData.leavesShort, PyData.showable]
  exact this
 | .tuple xs, h => by
  rw [hE] at h
  have := plainXs_all xs h
  simp only [PyData.leavesShort, PyData.showable]
  exact this
 | .dict [], _ => by decide +kernel
 | .dict (_ :: _), h => by simp [hE] at h
theorem plainXs_all : ∀ p : List PyData, plainXs p = true → PyData.leavesShortAll 60 p = true ∧ PyData.showableAll p = true
 | [], _ => by simp [PyData.leavesShortAll, PyData.showableAll]
 | p :: ps, h => by
  simp only [plainXs, ak] at h
  obtain ⟨a1, a2⟩ := UM p h.1
  obtain ⟨b1, b2⟩ := plainXs_all ps h.2
  simp only [PyData.leavesShortAll, PyData.showableAll, a1, a2, b1, b2]
  simp
end
mutual
theorem JY : ∀ p : PyData, eK p = true → hE p = true
 | .none, _ => rfl
 | .bool b, _ => rfl
 | .int i, h => by rw [eK] at h; rw [hE]; exact h
 | .str x, h => by rw [eK] at h; rw [hE]; exact h
 | .list xs, h => by rw [eK] at h; rw [hE]; exact plainXs_of xs h
 | .tuple xs, h => by rw [eK] at h; rw [hE]; exact plainXs_of xs h
 | .dict _, h => by simp [eK] at h
theorem plainXs_of : ∀ p : List PyData, plainPs p = true → plainXs p = true
 | [], _ => rfl
 | p :: ps, h => by
  simp only [plainPs, ak] at h
  simp only [plainXs, JY p h.1, plainXs_of ps h.2, Bool.and_self]
end
structure aIp (p : PyData) : Prop where
 plain : hE p = true
 bulk : p.bulk ≤ 200000
 deep : p.depth ≤ 40
theorem Fit.x {p : PyData} (h : Fit p) : aIp p := ⟨JY p h.plain, h.bulk, h.deep⟩
mutual
theorem aFr {f g : Nat → Option PyData} (hfg : ∀ i p, f i = some p → g i = some p) : ∀ (d : D) {p : PyData}, d.eP f = some p → d.eP g = some p
 | .non, _, h => by simpa only [D.eP] using h
 | .bl _, _, h => by simpa only [D.eP] using h
 | .int _, _, h => by simpa only [D.eP] using h
 | .str _, _, h => by simpa only [D.eP] using h
 | .ty _, _, h => by simp [D.eP] at h
 | .con _, _, h => by simp [D.eP] at h
 | .xO _ _, _, h => by simp [D.eP] at h
 | .ref i, _, h => by
  simp only [D.eP] at h ⊢
  exact hfg i _ h
 | .tup xs, _, h => by
  simp only [D.eP, au] at h ⊢
  obtain ⟨ps, h1, h2⟩ := h
  exact ⟨ps, pysR_le hfg xs h1, h2⟩
 | .gY xs, _, h => by
  simp only [D.eP, au] at h ⊢
  obtain ⟨ps, h1, h2⟩ := h
  exact ⟨ps, pysR_le hfg xs h1, h2⟩
 | .lst xs, _, h => by
  simp only [D.eP, au] at h ⊢
  obtain ⟨ps, h1, h2⟩ := h
  exact ⟨ps, pysR_le hfg xs h1, h2⟩
 | .pR xs, _, h => by
  simp only [D.eP, au] at h ⊢
  obtain ⟨ps, h1, h2⟩ := h
  exact ⟨ps, pysR_le hfg xs h1, h2⟩
theorem pysR_le {f g : Nat → Option PyData} (hfg : ∀ i p, f i = some p → g i = some p) : ∀ (ds : List D) {ps : List PyData}, D.pysR f ds = some ps → D.pysR g ds = some ps
 | [], _, h => by simpa only [D.pysR] using h
 | d :: ds, _, h => by
  simp only [D.pysR] at h ⊢
  split at h
  ·rename_i p ps e1 e2
   rw [aFr hfg d e1, pysR_le hfg ds e2]
   exact h
  ·cases h
end
end Lw
namespace Lw
open PySem PySem.Spec PyProof.Rows L2 Pc Lb
def aGE (h : Nat) (s : BL) (a v : Nat) : List Nat := (aAl h s v).filter fun c => aG0 (aC3 s a c)
inductive Mark where
 | one (a v : Nat) | two (a v c d : Nat)
def Mark.a : Mark → Nat
 | .one a _ => a
 | .two a _ _ _ => a
def Mark.v : Mark → Nat
 | .one _ v => v
 | .two _ v _ _ => v
def Mark.key : Mark → List Key
 | .one a v => [.inl (a : Nat), .inl (v : Nat)]
 | .two a v c d => [.inl (a : Nat), .inl (v : Nat), .inl (c : Nat), .inl (d : Nat)]
def Mark.hold (h : Nat) (s : BL) : Mark → Prop
 | .one a v => aAl h s v ≠ [] ∧ aGE h s a v = []
 | .two a v c d => c ∈ aGE h s a v ∧ d ∈ aGE h s a v ∧ c ≠ d
section
variable {m : Mo} {b : Int} {h Q : Nat} {x : Wx} {ts : List G2} {u : G2} {a v c d t : Nat} {mk : Mark} {s1 s2 : BL} {ds : List u6} {ls : List R4}
def Mark.most (m : Mo) (b : Int) (h : Nat) : Mark → Nat
 | .one _ _ => aHK m b h
 | .two _ _ _ _ => aHD m
end
def aAO : MS :=
 (aK (aT (aD bJ (aD aS (aB 0) (eC (.str ("at" : Str)))) (eC (.int 1))) (eJ (aB 0) (eC (.str ("at" : Str)))))
 (aK (aT (aD aS (aB 0) (eC (.str ("at" : Str)))) (aU 2))
 (aK (aT (aD aS (aB 0) (eC (.str ("cells" : Str)))) (aU 3))
 (aK (aT (aD bJ (aD aS (aB 0) (eC (.str ("sum" : Str)))) (aB 2)) (aU 4))
 (aK (dX (bC (aD pT (aB 3) (eV aE))) (aK (aT (dD "list" CY (aB 3) (aA (eC (.int 0)) aE)) (aU 4))
 (dX (bC (aD geM (aB 4) (aD U4 (eC (.int 10)) (eC (.int 18))))) (aK (cV (dD "list" wA (aB 3) (aA (eC (.int 0)) (aA (aD xJ (aB 4) (aB 1)) aE))))
 (a7 (aD gP (aB 4) (aB 1)))) aX)) aX)
 (aK (aT (aD gP (aD bJ (aD bJ (aD mulM (aD gP (aB 4) (eC (.int 2147483647))) (eC (.int 48271))) (aD mulM (aD mulM (eC (.int 69621)) (aB 2)) (aB 2))) (eC (.int 7919))) (eC (.int 2147483629))) (aU 5))
 (aK (aT (aD gP (aD mulM (aB 5) (aB 5)) (eC (.int 2147483587))) (aU 5))
 (a7 (aD gP (aD xJ (aD gP (aD mulM (aB 5) (aD bJ (aB 5) (eC (.int 39373)))) (eC (.int 2147483563))) (eC (.int 64))) (aB 1))))))))))
def aBQ : List Str := [("_law_deck_here" : Str), ("_law_bound" : Str), ("_law_at" : Str), ("_law_cells" : Str), ("_law_seed" : Str), ("_law_number" : Str)]
def vV : MF := bL aAO aBQ
def uV (c : Nat) (a sm : Int) : List (L2.Key × D) := [(.inr ("cells" : Str), .ref c), (.inr ("at" : Str), .int a), (.inr ("sum" : Str), .int sm)]
def cJ (w : W) (r c b : Nat) : Prop := r ≠ c ∧ ∃ (cells : List Int) (sm : Int) (a : Nat), w[r]? = some (.dK (uV c a sm)) ∧ w[c]? = some (.lst (cells.map D.int)) ∧ cells.length ≤ 63 ∧ a + b ≤ 2 ^ 60
section
variable {w w' : W} {P : D → W → Prop} {r c b : Nat} {size : Int}
theorem aIx (x0 x1 : D) : begin aBQ [x0, x1] = [some x0, some x1, none, none, none, none] := rfl
theorem aHu : T (U4 (.int 10) (.int 18) w) P = P (.int (10 ^ 18)) w := by
 have : U4 (.int 10) (.int 18) w = .ok (.int (10 ^ 18)) w := by unfold U4; rfl
 rw [this, b7]
theorem ES {a c : Int} (h : -(2 ^ 64) < a ∧ a < 2 ^ 64) : GF a c = true := by
 unfold GF
 rw [decide_eq_true h.1, decide_eq_true h.2]
 rfl
theorem YI {a c : Int} (h : -(2 ^ 64) < c ∧ c < 2 ^ 64) : GF a c = true := by
 unfold GF
 rw [decide_eq_true h.1, decide_eq_true h.2]
 simp
theorem ZA {cell a : Int} {s3 : Option D} (h0 : 0 < size) (ha : 0 ≤ a ∧ a < 2 ^ 61) (hP : ∀ v, 0 ≤ v → v < size → P (.int v) w) :
  T (aK (aT (aD gP (aD bJ (aD bJ (aD mulM (aD gP (aB 4) (eC (.int 2147483647))) (eC (.int 48271))) (aD mulM (aD mulM (eC (.int 69621)) (aB 2)) (aB 2))) (eC (.int 7919))) (eC (.int 2147483629))) (aU 5))
 (aK (aT (aD gP (aD mulM (aB 5) (aB 5)) (eC (.int 2147483587))) (aU 5))
 (a7 (aD gP (aD xJ (aD gP (aD mulM (aB 5) (aD bJ (aB 5) (eC (.int 39373)))) (eC (.int 2147483563))) (eC (.int 64))) (aB 1))))
   [some (.ref r), some (.int size), some (.int a), s3, some (.int cell), none] w) fun f w1 => match f with
   | .nx _ => P .non w1
   | .rt d => P d w1
   | _ => False := by
 rw [bD]
 simp only [tP, xN, mO, qV, zY, ae, ab, reduceCtorEq]
 refine ⟨by omega, YI ⟨by omega, by omega⟩, ES ⟨by omega, by omega⟩, YI ⟨by omega, by omega⟩, by omega, ?_⟩
 obtain ⟨n, en⟩ : ∃ n, n = (cell % 2147483647 * 48271 + 69621 * a * a + 7919) % 2147483629 := ⟨_, rfl⟩
 have n0 : 0 ≤ n ∧ n < 2147483629 := by
  rw [en]
  exact ⟨Int.emod_nonneg _ (by omega), Int.emod_lt_of_pos _ (by omega)⟩
 rw [← en, bD]
 simp only [tP, xN, mO, qV, zY, ae, ab, reduceCtorEq]
 obtain ⟨m, em⟩ : ∃ m, m = n * n % 2147483587 := ⟨_, rfl⟩
 have m0 : 0 ≤ m ∧ m < 2147483587 := by
  rw [em]
  exact ⟨Int.emod_nonneg _ (by omega), Int.emod_lt_of_pos _ (by omega)⟩
 rw [← em]
 refine ⟨ES ⟨by omega, by omega⟩, by omega, ?_⟩
 try simp only [tP, xN, mO, qV, zY, ae, ab, reduceCtorEq]
 refine ⟨ES ⟨by omega, by omega⟩, by omega, ⟨by omega, by omega⟩, h0, hP _ (Int.emod_nonneg _ (by omega)) (Int.emod_lt_of_pos _ h0)⟩
theorem fF (h : cJ w r c (b + 1)) (h0 : 0 < size) (h1 : size < 1073741824) (hP : ∀ v w', 0 ≤ v → v < size → cJ w' r c b → Pc.Kept w w' r c → P (.int v) w') : T (vV [.ref r, .int size] w) P := by
 obtain ⟨ne, cells, sm, a, hr, hc, hl, hb⟩ := h
 have lr := (aj.mp hr).1
 have lc := (aj.mp hc).1
 unfold vV aAO
 rw [dO, aIx, bD]
 simp only [R0 hr, zY, ae, ab, reduceCtorEq]
 refine ⟨.int a, rfl, ?_⟩
 simp only [mO, zY, ae, ab, reduceCtorEq]
 rw [aGL hr]
 have ek : putD (uV c a sm) (.inr ("at" : Str)) (.int ((a : Int) + 1)) = uV c ((a + 1 : Nat) : Int) sm := rfl
 rw [ek]
 refine ⟨by rw [sizeLine_eq]; unfold uV; simp, ?_⟩
 obtain ⟨w1, e1⟩ : ∃ w1, w1 = w.set r (.dK (uV c ((a + 1 : Nat) : Int) sm)) := ⟨_, rfl⟩
 have hr1 : w1[r]? = some (.dK (uV c ((a + 1 : Nat) : Int) sm)) := by rw [e1]; exact bh lr
 have hc1 : w1[c]? = some (.lst (cells.map D.int)) := by rw [e1, az ne]; exact hc
 have k1 : Pc.Kept w w1 r c := ⟨by rw [e1, de], fun i h2 _ => by rw [e1, az (Ne.symm h2)]⟩
 rw [← e1, bD]
 simp only [R0 hr1, zY, ae, ab, reduceCtorEq]
 refine ⟨.int ((a + 1 : Nat) : Int), rfl, ?_⟩
 try simp only [zY, ae, ab, reduceCtorEq]
 rw [bD]
 simp only [R0 hr1, zY, ae, ab, reduceCtorEq]
 refine ⟨.ref c, rfl, ?_⟩
 try simp only [zY, ae, ab, reduceCtorEq]
 rw [bD]
 simp only [R0 hr1, zY, ae, ab, reduceCtorEq]
 refine ⟨.int sm, rfl, ?_⟩
 simp only [mO, zY, ae, ab, reduceCtorEq]
 rw [bD]
 have fin : ∀ (cell : Int) (w2 : W), cJ w2 r c b → Pc.Kept w w2 r c → T (aK (aT (aD gP (aD bJ (aD bJ (aD mulM (aD gP (aB 4) (eC (.int 2147483647))) (eC (.int 48271))) (aD mulM (aD mulM (eC (.int 69621)) (aB 2)) (aB 2))) (eC (.int 7919))) (eC (.int 2147483629))) (aU 5))
 (aK (aT (aD gP (aD mulM (aB 5) (aB 5)) (eC (.int 2147483587))) (aU 5))
 (a7 (aD gP (aD xJ (aD gP (aD mulM (aB 5) (aD bJ (aB 5) (eC (.int 39373)))) (eC (.int 2147483563))) (eC (.int 64))) (aB 1))))
   [some (.ref r), some (.int size), some (.int ((a + 1 : Nat) : Int)), some (.ref c), some (.int cell), none] w2) fun f w1 => match f with
   | .nx _ => P .non w1
   | .rt d => P d w1
   | _ => False := fun cell w2 d2 k2 => ZA h0 ⟨by omega, by omega⟩ fun v v0 v1 => hP v w2 v0 v1 d2 k2
 have d1 : cJ w1 r c b := ⟨ne, cells, sm, a + 1, hr1, hc1, hl, by omega⟩
 rcases cells with _ | ⟨z, zs⟩
 ·simp only [Pc.ne_nil hc1, b7, List.isEmpty_nil, bf, zY, ae, ab, reduceCtorEq]
  exact fin _ w1 d1 k1
 ·obtain ⟨w2, e2⟩ : ∃ w2, w2 = w1.set c (.lst (zs.map D.int)) := ⟨_, rfl⟩
  have lc1 : c < w1.length := by rw [k1.1]; exact lc
  have hr2 : w2[r]? = some (.dK (uV c ((a + 1 : Nat) : Int) sm)) := by rw [e2, az (Ne.symm ne)]; exact hr1
  have hc2 : w2[c]? = some (.lst (zs.map D.int)) := by rw [e2]; exact bh lc1
  have k2 : Pc.Kept w w2 r c := ⟨by rw [e2, de]; exact k1.1, fun i h2 h3 => by rw [e2, az (Ne.symm h3)]; exact k1.2 i h2 h3⟩
  have lz : zs.length + 1 ≤ 63 := by simpa using hl
  have d2 : cJ w2 r c b := ⟨ne, zs, sm, a + 1, hr2, hc2, by omega, by omega⟩
  have ep : CY (.ref c) [.int 0] w1 = .ok (.int z) w2 := by
   unfold CY
   simp only [hc1]
   rw [if_pos (by omega), e2]
   have es : seqIndex? 0 ((z :: zs).map D.int).length = some 0 := by
    unfold seqIndex?
    simp
   rw [es]
   rfl
  simp only [Pc.ne_nil hc1, b7, List.isEmpty_cons, cc, zY, ae, ab, reduceCtorEq]
  rw [bD]
  simp only [tyL hc1, ep, b7, zY, ae, ab, reduceCtorEq]
  simp only [aHu, UE, zY, ae, ab, reduceCtorEq]
  split
  ·rw [bD]
   simp only [tyL hc2, qV, zY, ae, ab, reduceCtorEq]
   refine ⟨⟨h0, h1⟩, ?_⟩
   obtain ⟨w3, e3⟩ : ∃ w3, w3 = w2.set c (.lst ((z / size :: zs).map D.int)) := ⟨_, rfl⟩
   have lc2 : c < w2.length := by rw [k2.1]; exact lc
   have ei : wA (.ref c) [.int 0, .int (z / size)] w2 = .ok .non w3 := by
    unfold wA
    simp only [hc2]
    rw [if_pos ⟨by rw [sizeLine_eq, ay]; omega, by omega, by omega⟩, e3]
    rfl
   have hr3 : w3[r]? = some (.dK (uV c ((a + 1 : Nat) : Int) sm)) := by rw [e3, az (Ne.symm ne)]; exact hr2
   have hc3 : w3[c]? = some (.lst ((z / size :: zs).map D.int)) := by rw [e3]; exact bh lc2
   have k3 : Pc.Kept w w3 r c := ⟨by rw [e3, de]; exact k2.1, fun i h2 h3 => by rw [e3, az (Ne.symm h3)]; exact k2.2 i h2 h3⟩
   simp only [ei, b7, tP, zY, ae, ab, reduceCtorEq]
   exact ⟨h0, hP _ w3 (Int.emod_nonneg _ (by omega)) (Int.emod_lt_of_pos _ h0) ⟨ne, z / size :: zs, sm, a + 1, hr3, hc3, by simpa using lz, by omega⟩ k3⟩
  ·exact fin _ w2 d2 k2
def aAJ : List Str := [("_law_deck_here" : Str), ("_law_some" : Str)]
def aAW : MS := (a7 (aD aS (aB 1) (aJ vV 2 aM (aA (aB 0) (aA (aQ cX (aA (aB 1) aE)) aE)))))
def V2 : MF := bL aAW aAJ
theorem NM {xs : List D} (h : cJ w r c (b + 1)) (h0 : xs ≠ []) (h1 : xs.length < 1073741824) (hP : ∀ x w', x ∈ xs → cJ w' r c b → Pc.Kept w w' r c → P x w') : T (V2 [.ref r, .lst xs] w) P := by
 have bb : begin aAJ [.ref r, .lst xs] = [some (.ref r), some (.lst xs)] := rfl
 have l0 : 0 < xs.length := List.length_pos_iff.mpr h0
 unfold V2 aAW
 rw [dO, bb]
 simp only [aHO, zY, ae, ab, reduceCtorEq]
 refine fF h (by omega) (by omega) fun v w' v0 v1 d' k' => ?_
 obtain ⟨i, x, e1, e2, _⟩ := atI_nat v0 v1
 simp only [tZ, tW, zY, ae, ab, reduceCtorEq]
 exact ⟨x, e2, hP x w' (cf e1) d' k'⟩
def aBi : List Str := [("_law_script" : Str), ("_law_cells" : Str)]
def aBT : MS :=
 (aK (aT (aQ E7 (aA (oM g6 (aB 0) cW (cN (eC (.int 63)))) aE)) (aU 1))
 (a7 (GD (eI (eC (.str ("cells" : Str))) (aB 1) (eI (eC (.str ("at" : Str))) (eC (.int 0)) (eI (eC (.str ("sum" : Str))) (aD bJ (aD gP (aQ PM (aA (aB 1) aE)) (eC (.int 2147483629))) (aD mulM (eC (.int 17)) (aQ cX (aA (aB 1) aE)))) ID))))))
def UA : MF := bL aBT aBi
theorem aH9 (x0 : D) : begin aBi [x0] = [some x0, none] := rfl
theorem aDl {ns : List Int} (hn : ns.length ≤ 63) : T (UA [.pR (ns.map D.int)] []) fun d w => d = .ref 1 ∧ w.length = 2 ∧ cJ w 1 0 (2 ^ 59) := by
 obtain ⟨ms, e1, e2⟩ := aCN (ns := ns) (lo := none) (hi := some 63)
 have sl : g6 (.pR (ns.map D.int)) none (some 63) [] = .ok (.lst (ms.map D.int)) [] := by simp only [g6, e1]
 have ln : E7 [.lst (ms.map D.int)] [] = .ok (.ref 0) [.lst (ms.map D.int)] := rfl
 have h0 : ([MO.lst (ms.map D.int)] : W)[0]? = some (.lst (ms.map D.int)) := rfl
 have hl : ms.length ≤ 63 := by omega
 unfold UA aBT
 rw [dO, aH9, bD]
 simp only [sl, ln, b7, zY, ae, ab, reduceCtorEq]
 have sm : PM [.ref 0] [MO.lst (ms.map D.int)] = .ok (.int ms.sum) [MO.lst (ms.map D.int)] := by
  have : xG (.ref 0) [MO.lst (ms.map D.int)] = some (ms.map D.int) := rfl
  simp only [PM, this, Option.bind_some, Pc.wG]
 have lm : cX [.ref 0] [MO.lst (ms.map D.int)] = .ok (.int ms.length) [MO.lst (ms.map D.int)] := by simp [cX, JB]
 simp only [sm, lm, b7, tP, xN, mO]
 exact ⟨by omega, ES ⟨by omega, by omega⟩, _, rfl, by simp, rfl, rfl, by omega, ms, _, 0, rfl, rfl, hl, by omega⟩
end
end Lw
namespace Lb
open PySem PySem.Spec PyProof.Rows L2 Pc Lw
def b8 : D → List D
 | .tup ys => ys
 | _ => []
def yB : D → Bool
 | .tup ys => decide (ys.length ≤ 6)
 | _ => false
def fD : D → Bool
 | .tup xs => (decide (1 ≤ xs.length) && decide (xs.length ≤ 4)) && (xs.all yB && (!((xs.map b8).headD []).isEmpty && (xs.all (fun r => (b8 r).length == ((xs.map b8).headD []).length) && (xs.flatMap b8).all (aN 1 12))))
 | _ => false
section
variable {w : W} {P : D → W → Prop} (k : bH) {n : Nat} {d : D}
theorem aDX {ys : List D} (h : ∀ y ∈ ys, i9 n y = true) (hn : n ≤ 60) : T (gO (.tup ys) (.tup []) w) P = P (.bl ys.isEmpty) w := by
 rw [IM, CG]
 simp
theorem YL (hn : n ≤ 50) (e : i9 (n + 2) d = true) (hP : P (.bl (fD d)) w) : T (fQ k [d] w) P := by
 unfold fQ nJ
 rw [dO, OF, bD]
 simp only [A4 e, zY, ae, ab, reduceCtorEq]
 cases d <;> simp only [jR, fD, zY, ae, ab, reduceCtorEq] at hP ⊢ <;> first | exact hP | skip
 rename_i xs
 obtain ⟨e1, e2⟩ := oH e
 try simp only [yI, zY, ae, ab, reduceCtorEq]
 by_cases c1 : 1 ≤ xs.length ∧ xs.length ≤ 4
 case neg =>
  have hf : (decide (1 ≤ xs.length) && decide (xs.length ≤ 4)) = false := by
   rw [Bool.and_eq_false_iff]
   simp only [decide_eq_false_iff_not]
   omega
  rw [hf, Bool.false_and] at hP
  split
  ·split
   ·exact hP
   ·rename_i h1 h2
    simp at h1 h2
    omega
  ·exact hP
 have i1 : decide ((1 : Int) ≤ (xs.length : Nat)) = true := by simp; omega
 have i2 : decide (((xs.length : Nat) : Int) ≤ 4) = true := by simp; omega
 have j1 : decide (1 ≤ xs.length) = true := by simp [c1.1]
 have j2 : decide (xs.length ≤ 4) = true := by simp [c1.2]
 simp only [i1, i2, j1, j2, Bool.true_and, bf, zY, ae, ab, reduceCtorEq] at hP ⊢
 rw [bD]
 simp only [tL, zY, ae, ab, reduceCtorEq]
 refine ⟨xH _ (by omega), ?_⟩
 refine mK (it := ⟨xs, always⟩) xs (fun x => x) (fun x => .bl (yB x)) (by simp) trivial (fun x hx => ?_) ?_
 ·simp only [eA, A4 (e1 x hx), zY, ae, ab, reduceCtorEq]
  have ok := e1 x hx
  cases x <;> simp only [jR, yB, zY, ae, ab, reduceCtorEq]
  rename_i ys
  try simp only [yI, zY, ae, ab, reduceCtorEq]
  simp
  omega
 rw [G0 xs yB]
 cases c2 : xs.all yB with
 | false =>
  rw [c2, Bool.false_and] at hP
  simp only [cc, zY, ae, ab, reduceCtorEq]
  exact hP
 | true =>
 rw [c2, Bool.true_and] at hP
 simp only [bf, zY, ae, ab, reduceCtorEq]
 rw [bg] at c2
 have rows : ∃ rs : List (List D), xs = rs.map D.tup := by
  refine ⟨xs.map b8, ?_⟩
  rw [cy]
  refine (List.map_id' xs).symm.trans (List.map_congr_left fun x hx => ?_)
  have := c2 x hx
  cases x <;> first | rfl | (simp [yB] at this; done)
 obtain ⟨rs, rfl⟩ := rows
 obtain ⟨r0, rest, rfl⟩ : ∃ r0 rest, rs = r0 :: rest := by
  cases rs with
  | nil => simp at c1
  | cons a b => exact ⟨a, b, rfl⟩
 have f6 : ∀ r ∈ r0 :: rest, r.length ≤ 6 := fun r hr => by
  have := c2 (.tup r) (List.mem_map_of_mem hr)
  simpa [yB] using this
 have o1 : ∀ r ∈ r0 :: rest, ∀ x ∈ r, i9 n x = true := fun r hr x hx => (oH (e1 (.tup r) (List.mem_map_of_mem hr))).1 x hx
 rw [bD]
 simp only [cg, at0, zY, ae, ab, reduceCtorEq]
 rw [aDX (o1 r0 (bc ..)) (by omega)]
 rw [show ((((r0 :: rest).map D.tup).map b8).headD []) = r0 from rfl] at hP
 cases c3 : r0.isEmpty with
 | true =>
  rw [c3] at hP
  simp only [bf, Bool.false_and, zY, ae, ab, reduceCtorEq] at hP ⊢
  exact hP
 | false =>
 rw [c3] at hP
 simp only [cc, Bool.true_and, zY, ae, ab, reduceCtorEq] at hP ⊢
 refine ⟨by rw [sizeLine_eq]; simp at c1 ⊢; omega, ?_⟩
 refine mK (it := ⟨(r0 :: rest).map D.tup, always⟩) (r0 :: rest) D.tup (fun r => .bl (r.length == r0.length)) rfl trivial (fun r hr => ?_) ?_
 ·simp only [eA, yI, at0, zY, ae, ab, reduceCtorEq]
  congr 1
  rw [Bool.eq_iff_iff]
  simp only [beq_iff_eq]
  omega
 rw [G0 (r0 :: rest) fun r => r.length == r0.length]
 have ea : (((r0 :: rest).map D.tup).all fun r => (b8 r).length == r0.length) = (r0 :: rest).all fun r => r.length == r0.length := by
  rw [List.all_map]
  rfl
 rw [ea] at hP
 cases c4 : (r0 :: rest).all fun r => r.length == r0.length with
 | false =>
  rw [c4] at hP
  simp only [cc, Bool.false_and, zY, ae, ab, reduceCtorEq] at hP ⊢
  exact hP
 | true =>
 rw [c4] at hP
 simp only [bf, Bool.true_and, zY, ae, ab, reduceCtorEq] at hP ⊢
 have ef : (((r0 :: rest).map D.tup).flatMap b8) = (r0 :: rest).flatMap fun r => r := by
  rw [List.flatMap_map]
  rfl
 rw [ef] at hP
 simp only [aD3, tL, zY, ae, ab, reduceCtorEq]
 refine aA2 (it := ⟨(r0 :: rest).map D.tup, always⟩) D.tup (fun r => r) (fun x => x) (fun _ x => .bl (aN 1 12 x)) (r0 :: rest) [] trivial ?_ (fun r hr => ?_) ?_
 ·have : ∀ l : List (List D), (∀ r ∈ l, r.length ≤ 6) → (l.map fun r => r.length).sum ≤ l.length * 6 := by
   intro l
   induction l with
   | nil => simp
   | cons a l ih =>
    intro hl
    have h1 := hl a (bc ..)
    have h2 := ih fun r hr => hl r (br _ hr)
    rw [cg, List.sum_cons, ck, Nat.succ_mul]
    omega
  have h1 := this _ f6
  have h2 := c1.2
  rw [ay] at h2
  rw [sizeLine_eq, dc]
  omega
 ·simp only [eA, tL, zY, ae, ab, reduceCtorEq]
  exact ⟨⟨trivial, (List.map_id' r).symm⟩, fun z hz => by rw [rE 1 12 (o1 r hr z hz)]; exact ⟨rfl, rfl⟩⟩
 ·rw [cq]
  have eb : ((r0 :: rest).flatMap fun r => r.map fun x => D.bl (aN 1 12 x)) = ((r0 :: rest).flatMap fun r => r).map fun x => D.bl (aN 1 12 x) := by
   rw [List.map_flatMap]
  rw [eb, G0 ((r0 :: rest).flatMap fun r => r) (aN 1 12)]
  exact hP
def hX (h : Int) (d : D) : Bool := match d with
 | .tup [a, c, l] => aN 0 (h - 1) a && (aN 0 9 c && aN 1 11 l)
 | _ => false
def numsOf : D → Int × Int
 | .tup [.int a, .int c, _] => (a, c)
 | _ => (0, 0)
def iM : List (Int × Int) → Bool
 | p :: q :: r => HT.lexLt [p.1, p.2] [q.1, q.2] && iM (q :: r)
 | _ => true
def lD (h : Int) (d : D) : Bool := match d with
 | .tup xs => !decide (6 < xs.length) && (xs.all (hX h) && iM (xs.map numsOf))
 | _ => false
theorem aHV {h : Int} (e : i9 (n + 1) d = true) (hP : P (.bl (hX h d)) w) : T (rK k [d, .int h] w) P := by
 unfold rK vJ
 rw [dO, Y0, bD]
 simp only [A4 e, zY, ae, ab, reduceCtorEq]
 cases d <;> simp only [jR, hX, zY, ae, ab, reduceCtorEq] at hP ⊢ <;> first | exact hP | skip
 rename_i xs
 obtain ⟨e1, e2⟩ := oH e
 try simp only [yI, GC, zY, ae, ab, reduceCtorEq]
 by_cases c : xs.length = 3
 case neg =>
  have i1 : (!(((xs.length : Nat) : Int) == 3)) = true := by
   have : ¬ ((xs.length : Nat) : Int) = 3 := by omega
   simpa using this
  rw [if_pos i1]
  have hf : (match D.tup xs with
   | D.tup [a, c, l] => aN 0 (h - 1) a && (aN 0 9 c && aN 1 11 l)
   | _ => false) = false := by
   split
   ·rename_i a c' l e
    cases e
    exact absurd rfl c
   ·rfl
  rw [hf] at hP
  exact hP
 obtain ⟨a, c', l, rfl⟩ : ∃ a c' l, xs = [a, c', l] := by
  match xs, c with
  | [a, c', l], _ => exact ⟨a, c', l, rfl⟩
 have ha := e1 a (by simp)
 have hc := e1 c' (by simp)
 have hl := e1 l (by simp)
 rw [if_neg (by simp), bD]
 simp only [BC, rE _ _ ha, rE _ _ hc, rE _ _ hl, zY, ae, ab, reduceCtorEq] at hP ⊢
 revert hP
 cases aN 0 (h - 1) a <;> cases aN 0 9 c' <;> simp
theorem aBA {h : Int} (e : hX h d = true) : ∃ t : Int × Int × Int, d = cQ t := by
 unfold hX at e
 split at e
 ·rename_i a c l
  simp only [ak] at e
  obtain ⟨e1, e2, e3⟩ := e
  cases a <;> first | (simp [aN] at e1; done) | skip
  cases c <;> first | (simp [aN] at e2; done) | skip
  cases l <;> first | (simp [aN] at e3; done) | skip
  exact ⟨(_, _, _), rfl⟩
 ·cases e
theorem KG : ∀ ts : List (Int × Int), ((ts.dropLast.zip ts.tail).all fun p => HT.lexLt [p.1.1, p.1.2] [p.2.1, p.2.2]) = iM ts
 | [] => rfl
 | [a] => rfl
 | a :: b :: ts => by
  have := KG (b :: ts)
  simp only [List.dropLast_cons₂, List.tail_cons, List.zip_cons_cons, List.all_cons, iM] at this ⊢
  rw [this]
theorem aGl {h : Int} (e : i9 (n + 2) d = true) (hP : P (.bl (lD h d)) w) : T (iD k [d, .int h] w) P := by
 unfold iD lK
 rw [dO, OV, bD]
 simp only [A4 e, zY, ae, ab, reduceCtorEq]
 cases d <;> simp only [jR, lD, zY, ae, ab, reduceCtorEq] at hP ⊢ <;> first | exact hP | skip
 rename_i xs
 obtain ⟨e1, e2⟩ := oH e
 try simp only [yI, zY, ae, ab, reduceCtorEq]
 by_cases c1 : 6 < xs.length
 ·have i1 : decide (((xs.length : Nat) : Int) > 6) = true := by simp; omega
  have j1 : decide (6 < xs.length) = true := by simp [c1]
  simp only [i1, j1, bf, Bool.false_and, zY, ae, ab, reduceCtorEq] at hP ⊢
  exact hP
 have i1 : decide (((xs.length : Nat) : Int) > 6) = false := by simp; omega
 have j1 : decide (6 < xs.length) = false := by simp; omega
 simp only [i1, j1, cc, Bool.true_and, tL, zY, ae, ab, reduceCtorEq] at hP ⊢
 refine ⟨xH _ (by omega), ?_⟩
 refine mK (it := ⟨xs, always⟩) xs (fun x => x) (fun x => .bl (hX h x)) (by simp) trivial (fun x hx => ?_) ?_
 ·simp only [eA, zY, ae, ab, reduceCtorEq]
  refine aHV k (e1 x hx) ?_
  exact ⟨rfl, rfl⟩
 rw [G0 xs (hX h)]
 cases c2 : xs.all (hX h) with
 | false =>
  rw [c2, Bool.false_and] at hP
  simp only [cc, zY, ae, ab, reduceCtorEq]
  exact hP
 | true =>
 rw [c2, Bool.true_and] at hP
 simp only [bf, zY, ae, ab, reduceCtorEq]
 rw [bg] at c2
 obtain ⟨ts, rfl⟩ : ∃ ts : List (Int × Int × Int), xs = ts.map cQ := by
  clear hP e e1 e2 c1 i1 j1
  induction xs with
  | nil => exact ⟨[], rfl⟩
  | cons x xs ih =>
   obtain ⟨t, rfl⟩ := aBA (c2 x (bc ..))
   obtain ⟨ts, rfl⟩ := ih fun y hy => c2 y (br _ hy)
   exact ⟨t :: ts, rfl⟩
 simp only [aC8, aEh, aIM, b7, zY, ae, ab, reduceCtorEq]
 refine ⟨by simp, ?_, ?_⟩
 ·refine xH _ ?_
  simp at c1 ⊢
  omega
 have e5 : (List.zip (ts.map cQ).dropLast (ts.map cQ).tail).map (fun p => D.tup [p.1, p.2]) = (ts.dropLast.zip ts.tail).map fun p => D.tup [cQ p.1, cQ p.2] := by
  rw [← List.map_dropLast, ← List.map_tail, List.zip_map, cy]
  rfl
 rw [e5]
 refine mK (it := ⟨_, always⟩) (ts.dropLast.zip ts.tail) (fun p => .tup [cQ p.1, cQ p.2]) (fun p => .bl (HT.lexLt [p.1.1, p.1.2.1] [p.2.1, p.2.2.1])) rfl trivial (fun p _ => ?_) ?_
 ·simp only [eA, aE9, aDY, b7, zY, ae, ab, reduceCtorEq]
 rw [G0 (ts.dropLast.zip ts.tail) fun p => HT.lexLt [p.1.1, p.1.2.1] [p.2.1, p.2.2.1]]
 have e6 : ((ts.map cQ).map numsOf) = ts.map fun t => (t.1, t.2.1) := by
  rw [cy]
  rfl
 rw [e6, ← KG, ← List.map_dropLast, ← List.map_tail, List.zip_map, List.all_map] at hP
 exact hP
end
end Lb
namespace Lw
open PySem PySem.Spec PyProof.Rows L2 Pc Lb
open PySem.W (dataLe)
section
variable {us : List (Int × Int × Int)}
def apart2 (a b : Int × Int × Int) : Prop := ¬ (a.1 = b.1 ∧ a.2.1 = b.2.1)
theorem aFh {a b : Int × Int × Int} (h : a.1 < b.1 ∨ (a.1 = b.1 ∧ a.2.1 < b.2.1)) : HT.lexLt [a.1, a.2.1] [b.1, b.2.1] = true := by
 simp only [HT.lexLt_cons, HT.lexLt_nil_nil]
 rcases h with h | ⟨h1, h2⟩
 ·rw [if_neg (by omega)]; simpa using h
 ·rw [if_pos h1, if_neg (by omega)]; simpa using h2
theorem P2 : ∀ {us : List (Int × Int × Int)}, (us.Pairwise fun a b => HT.lexLt [a.1, a.2.1] [b.1, b.2.1] = true) → iM (us.map fun t => (t.1, t.2.1)) = true
 | [], _ => rfl
 | [a], _ => rfl
 | a :: b :: us, h => by
  rw [List.pairwise_cons] at h
  have h1 := h.1 b (bc ..)
  have h2 := P2 h.2
  simp only [cg, iM, ak] at h2 ⊢
  exact ⟨h1, h2⟩
theorem WD (nd : us.Pairwise apart2) : iM ((us.mergeSort G1).map fun t => (t.1, t.2.1)) = true := by
 have p := List.mergeSort_perm us G1
 have h2 : (us.mergeSort G1).Pairwise apart2 := (p.pairwise_iff fun {a b} hab => fun e => hab ⟨e.1.symm, e.2.symm⟩).mpr nd
 refine P2 ((QO.and h2).imp fun {a b} ⟨g1, g2⟩ => aFh ?_)
 obtain ⟨a1, a2, a3⟩ := a
 obtain ⟨b1, b2, b3⟩ := b
 unfold apart2 at g2
 simp only [l3, List.cons_le_cons_iff] at g1 ⊢
 simp only [not_and] at g2
 rcases g1 with g | ⟨rfl, g | ⟨rfl, _⟩⟩
 ·exact .inl g
 ·exact .inr ⟨rfl, g⟩
 ·exact absurd rfl (g2 rfl)
theorem QF {h : Int} (nd : us.Pairwise apart2) (few : us.length ≤ 6) (each : ∀ t ∈ us, (0 ≤ t.1 ∧ t.1 < h) ∧ (0 ≤ t.2.1 ∧ t.2.1 ≤ 9) ∧ (1 ≤ t.2.2 ∧ t.2.2 ≤ 11)) : lD h (.tup ((us.mergeSort G1).map cQ)) = true := by
 have p := List.mergeSort_perm us G1
 have e6 : (((us.mergeSort G1).map cQ).map Lb.numsOf) = (us.mergeSort G1).map fun t => (t.1, t.2.1) := by
  rw [cy]
  rfl
 simp only [lD, ak, Bool.not_eq_true', decide_eq_false_iff_not, bg]
 refine ⟨by rw [ay, p.length_eq]; omega, fun d hd => ?_, by rw [e6]; exact WD nd⟩
 obtain ⟨t, ht, rfl⟩ := cb.mp hd
 have e := each t (p.mem_iff.mp ht)
 simp only [cQ, hX, aN, ak, aq]
 omega
def cY (ps : List (Int × Int × Int)) : List (List Key × D) := ps.map fun t => ([.inl t.1, .inl t.2.1], .int t.2.2)
def xM (t u : Int × Int × Int) : Bool := decide (u.1 = t.1 ∧ u.2.1 = t.2.1)
def HX (us : List (Int × Int × Int)) (t : Int × Int × Int) : List (Int × Int × Int) := if us.any (xM t) = true then us.map fun u => if xM t u = true then (u.1, u.2.1, t.2.2) else u else us ++ [t]
theorem rN {t u : Int × Int × Int} : (([.inl u.1, .inl u.2.1] : List Key) = [.inl t.1, .inl t.2.1]) ↔ xM t u = true := by
 unfold xM
 simp
theorem J9 (t : Int × Int × Int) : ∀ us, (kZ (cY us) [.inl t.1, .inl t.2.1]).isSome = us.any (xM t)
 | [] => rfl
 | u :: us => by
  have ih := J9 t us
  have e : cY (u :: us) = ([.inl u.1, .inl u.2.1], .int u.2.2) :: cY us := rfl
  rw [e, List.any_cons, ← ih]
  conv => lhs; unfold kZ
  by_cases c : xM t u = true
  ·rw [if_pos (rN.mpr c), c]
   rfl
  ·have n : ¬ (([.inl u.1, .inl u.2.1] : List Key) = [.inl t.1, .inl t.2.1]) := fun e => c (rN.mp e)
   rw [Bool.not_eq_true] at c
   rw [if_neg n, c, Bool.false_or]
theorem aD4 (t : Int × Int × Int) (us : List (Int × Int × Int)) : putD (cY us) [.inl t.1, .inl t.2.1] (.int t.2.2) = cY (HX us t) := by
 unfold putD HX
 rw [J9]
 split
 ·unfold cY
  rw [cy, cy]
  refine List.map_congr_left fun u _ => ?_
  simp only [Function.comp]
  by_cases c : xM t u = true
  ·rw [if_pos c]
   first | rw [if_pos (rN.mpr c)] | simp [rN.mpr c]
  ·rw [if_neg c]
   have n : ¬ (([.inl u.1, .inl u.2.1] : List Key) = [.inl t.1, .inl t.2.1]) := fun e => c (rN.mp e)
   first | rw [if_neg n] | simp [n]
 ·unfold cY
  rw [du]
  rfl
theorem aCE {t u : Int × Int × Int} {us : List (Int × Int × Int)} (h : u ∈ HX us t) : (u.1 = t.1 ∧ u.2.1 = t.2.1 ∧ u.2.2 = t.2.2) ∨ u ∈ us := by
 unfold HX at h
 split at h
 ·obtain ⟨x, hx, e⟩ := cb.mp h
  split at e
  ·rename_i c
   simp only [xM, aq] at c
   subst e
   exact .inl ⟨c.1, c.2, rfl⟩
  ·subst e
   exact .inr hx
 ·rcases dh.mp h with h | h
  ·exact .inr h
  ·rw [da.mp h]
   exact .inl ⟨rfl, rfl, rfl⟩
theorem aCq {t : Int × Int × Int} {us : List (Int × Int × Int)} : (HX us t).length ≤ us.length + 1 := by
 unfold HX
 split <;> simp
theorem TV {t : Int × Int × Int} {us : List (Int × Int × Int)} (h : us.Pairwise apart2) : (HX us t).Pairwise apart2 := by
 unfold HX
 split
 ·refine List.Pairwise.map _ (fun a b hab => ?_) h
  unfold apart2 at hab ⊢
  split <;> split <;> exact hab
 ·rename_i c
  refine List.pairwise_append.mpr ⟨h, by simp, fun a ha b hb => ?_⟩
  rw [da.mp hb]
  intro e
  refine c (List.any_eq_true.mpr ⟨a, ha, ?_⟩)
  unfold xM
  simpa using e
end
theorem cJ.less {w : W} {r c b b' : Nat} (d : cJ w r c b) (h : b' ≤ b) : cJ w r c b' := by
 obtain ⟨ne, cells, sm, a, h1, h2, h3, h4⟩ := d
 exact ⟨ne, cells, sm, a, h1, h2, h3, by omega⟩
def PN (H n : Nat) (ds : List D) : Prop := ds.length = n ∧ ∀ d ∈ ds, ∃ ns : List Int, d = .tup (ns.map D.int) ∧ ns.length = H ∧ ∀ x ∈ ns, 1 ≤ x ∧ x ≤ 12
section
variable {w : W} {P : D → W → Prop} {r c b H n : Nat} {low : Int} {ds : List D}
theorem WK (h : PN H n ds) (n1 : 1 ≤ n) (n4 : n ≤ 4) (H1 : 1 ≤ H) (H6 : H ≤ 6) : fD (.tup ds) = true ∧ i9 6 (.tup ds) = true ∧ ∃ r0 rest, ds = .tup r0 :: rest ∧ r0.length = H := by
 obtain ⟨hl, he⟩ := h
 have wid : ∀ d ∈ ds, (b8 d).length = H := fun d hd => by
  obtain ⟨ns, rfl, h1, -⟩ := he d hd
  show (ns.map D.int).length = H
  rw [ay, h1]
 have six : ∀ d ∈ ds, yB d = true := fun d hd => by
  obtain ⟨ns, rfl, h1, -⟩ := he d hd
  simp only [yB, ay, aq]
  omega
 have ok : ∀ d ∈ ds, i9 5 d = true := fun d hd => by
  obtain ⟨ns, rfl, h1, h2⟩ := he d hd
  simp only [i9, List.all_map, ak, aq, bg, ay]
  refine ⟨fun x hx => ?_, by omega⟩
  have := h2 x hx
  simp only [Function.comp, i9, aq]
  omega
 have num : ∀ x ∈ ds.flatMap b8, aN 1 12 x = true := fun x hx => by
  obtain ⟨d, hd, hx⟩ := List.mem_flatMap.mp hx
  obtain ⟨ns, rfl, -, h2⟩ := he d hd
  obtain ⟨y, hy, rfl⟩ := cb.mp (show x ∈ ns.map D.int from hx)
  have := h2 y hy
  simp only [aN, ak, aq]
  exact this
 obtain ⟨d0, rest, rfl⟩ : ∃ d0 rest, ds = d0 :: rest := by
  cases ds with
  | nil => simp at hl; omega
  | cons a l => exact ⟨a, l, rfl⟩
 obtain ⟨ns, e0, e1, -⟩ := he d0 (bc ..)
 have w0 := wid d0 (bc ..)
 refine ⟨?_, ?_, _, rest, by rw [e0], by rw [ay, e1]⟩
 ·simp only [fD, ak, aq, bg, Bool.not_eq_true']
  refine ⟨⟨by omega, by omega⟩, six, ?_, fun d hd => ?_, num⟩
  ·show (b8 d0).isEmpty = false
   cases hh : b8 d0 with
   | nil => rw [hh] at w0; simp at w0; omega
   | cons => rfl
  ·show ((b8 d).length == (b8 d0).length) = true
   rw [wid d hd, w0]
   simp
 ·simp only [i9, ak, aq, bg]
  exact ⟨ok, by omega⟩
theorem aFA {e4 e0 eh : ME} {σ : Sg} {v : Nat} {PL : List D → W → Prop} (aHW : 1 ≤ low) (low12 : low ≤ 12) (hd : cJ w r c (b + H)) (H6 : H ≤ 6)
  (h4 : ∀ x (w : W) (P : D → W → Prop), T (e4 ((eA σ [v]).set v (some x)) w) P = P (.int low) w) (h0 : ∀ x (w : W) (P : D → W → Prop), T (e0 ((eA σ [v]).set v (some x)) w) P = P (.ref r) w) 
  (hP : ∀ (ns : List Int) (w' : W), cJ w' r c b → ns.length = H → (∀ x ∈ ns, 1 ≤ x ∧ x ≤ 12) → PL (ns.map D.int) w') :
  T (k0 (jM 0 H) [v] (aU v) cL (aD bJ e4 (aJ vV 2 aM (aA e0 (aA (aD kX (eC (.int 13)) e4) aE)))) (jM 0 H).xs σ w) PL := by
 refine EK (it := jM 0 H) (fun i acc w' => cJ w' r c (b + (H - i)) ∧ ∃ ns : List Int, acc = ns.map D.int ∧ ns.length = i ∧ ∀ x ∈ ns, 1 ≤ x ∧ x ≤ 12) (fun _ _ _ _ => trivial) ⟨hd, [], rfl, rfl, fun x hx => nomatch hx⟩ (fun i x acc w1 hx hI => ?_) (fun acc w1 hI => ?_)
 ·obtain ⟨d1, ns, rfl, hn, hr⟩ := hI
  obtain ⟨hz, rfl⟩ := A8 hx
  rw [QT, n9, if_pos rfl]
  simp only [h4, h0, BC, zY, ae, ab, reduceCtorEq]
  have eb : b + (H - i) = (b + (H - (i + 1))) + 1 := by omega
  rw [eb] at d1
  refine fF (size := 13 - low) d1 (by omega) (by omega) fun y w2 y0 y1 d2 k2 => ?_
  rw [mO]
  refine ⟨d2, ns ++ [low + y], by rw [du]; rfl, by rw [cw, hn]; rfl, fun x hx => ?_⟩
  rcases dh.mp hx with hx | hx
  ·exact hr x hx
  ·rw [da.mp hx]
   omega
 ·obtain ⟨d1, ns, rfl, hn, hr⟩ := hI
  rw [oL] at d1 hn
  rw [Nat.sub_self] at d1
  exact hP ns w1 d1 hn hr
end
def G6 (H : Nat) (us : List (Int × Int × Int)) : Prop := us.Pairwise apart2 ∧ us.length ≤ 6 ∧ ∀ t ∈ us, (0 ≤ t.1 ∧ t.1 < (H : Int)) ∧ (0 ≤ t.2.1 ∧ t.2.1 ≤ 9) ∧ (1 ≤ t.2.2 ∧ t.2.2 ≤ 11)
def HQ : MS := (dX (bC (aD SR (aQ FC (aA (aB 6) aE)) (eC (.int 6)))) (aT (aD aS (eV (aA (eC (.int 1)) (aA (eC (.int 9)) (aA (eC (.int 10)) (aA (eC (.int 11)) (aA (eC (.int 2)) aE)))))) (aJ vV 2 aM (aA (aB 0) (aA (eC (.int 5)) aE)))) (eJ (aB 6) (bM (aA (aJ vV 2 aM (aA (aB 0) (aA (aB 2) aE))) (aA (aJ vV 2 aM (aA (aB 0) (aA (eC (.int 10)) aE))) aE))))) aX)
section
variable {w : W} {P : D → W → Prop} {PF : Fl → W → Prop} {r c b H q : Nat} {us : List (Int × Int × Int)} {s1 s3 s4 s5 s7 s8 s9 s10 s11 s12 : Option D}
theorem BI {o : MO} (d : cJ w r c b) (h1 : q ≠ r) (h2 : q ≠ c) : cJ (w.set q o) r c b := by
 obtain ⟨ne, cells, sm, a, g1, g2, g3, g4⟩ := d
 exact ⟨ne, cells, sm, a, by rw [az h1]; exact g1, by rw [az h2]; exact g2, g3, g4⟩
theorem aGB (hd : cJ w r c (b + 3)) (hq : w[q]? = some (.dT (cY us))) (nr : q ≠ r) (nc : q ≠ c) (hc : G6 H us) (H1 : 1 ≤ H) (H6 : H ≤ 6)
  (hP : ∀ w' us', cJ w' r c b → w'[q]? = some (.dT (cY us')) → G6 H us' → PF (.nx [some (.ref r), s1, some (.int (H : Nat)), s3, s4, s5, some (.ref q), s7, s8, s9, s10, s11, s12]) w') : T (HQ [some (.ref r), s1, some (.int (H : Nat)), s3, s4, s5, some (.ref q), s7, s8, s9, s10, s11, s12] w) PF := by
 have lt : ∀ (a c : Int) (w : W) (P : D → W → Prop), T (SR (.int a) (.int c) w) P = P (.bl (decide (a < c))) w := fun a c w P => by unfold T; rfl
 have ln : ∀ (P : D → W → Prop), T (FC [.ref q] w) P = P (.int (us.length : Nat)) w := fun P => by
  have e : FC [.ref q] w = .ok (.int ((cY us).length : Nat)) w := by simp only [FC, hq]
  rw [e, b7]
  unfold cY
  rw [ay]
 unfold HQ
 simp only [ln, lt, zY, ae, ab, reduceCtorEq]
 by_cases c6 : us.length < 6
 case neg =>
  have e : decide (((us.length : Nat) : Int) < 6) = false := by simp; omega
  simp only [e, zY, ae, ab, reduceCtorEq]
  exact hP w us (hd.less (by omega)) hq hc
 have e : decide (((us.length : Nat) : Int) < 6) = true := by simp; omega
 simp only [e, zY, ae, ab, reduceCtorEq]
 refine fF (b := b + 2) hd (by omega) (by omega) fun x w1 x0 x1 d1 k1 => ?_
 obtain ⟨x, rfl⟩ : ∃ n : Nat, x = (n : Int) := ⟨x.toNat, by omega⟩
 have hx : x = 0 ∨ x = 1 ∨ x = 2 ∨ x = 3 ∨ x = 4 := by omega
 obtain ⟨v, hv, v0, v1⟩ : ∃ v : Int, ([D.int 1, .int 9, .int 10, .int 11, .int 2] : List D)[x]? = some (.int v) ∧ 1 ≤ v ∧ v ≤ 11 := by
  rcases hx with rfl | rfl | rfl | rfl | rfl
  ·exact ⟨_, rfl, by omega, by omega⟩
  ·exact ⟨_, rfl, by omega, by omega⟩
  ·exact ⟨_, rfl, by omega, by omega⟩
  ·exact ⟨_, rfl, by omega, by omega⟩
  ·exact ⟨_, rfl, by omega, by omega⟩
 have ea : atI [D.int 1, .int 9, .int 10, .int 11, .int 2] (x : Int) = some (.int v) := g9 hv
 simp only [tZ, tW, ea, ah, bj, zY, ae, ab, reduceCtorEq]
 refine fF (b := b + 1) d1 (by omega) (by omega) fun y w2 y0 y1 d2 k2 => ?_
 try simp only [zY, ae, ab, reduceCtorEq]
 refine fF (b := b) d2 (by omega) (by omega) fun z w3 z0 z1 d3 k3 => ?_
 try simp only [zY, ae, ab, reduceCtorEq]
 have q3 : w3[q]? = some (.dT (cY us)) := by rw [k3.2 q nr nc, k2.2 q nr nc, k1.2 q nr nc]; exact hq
 have es : setM (.ref q) (.tup [.int y, .int z]) (.int v) w3 = .ok () (w3.set q (.dT (cY (HX us (y, z, v))))) := by
  have h2 : xK [.int y, .int z] = some [.inl y, .inl z] := rfl
  have h3 : (cY us).length < sizeLine := by
   rw [sizeLine_eq]
   unfold cY
   rw [ay]
   omega
  rw [← aD4]
  simp only [setM, q3, h2, h3, ae]
 simp only [es, b7]
 have ls := aCq (t := (y, z, v)) (us := us)
 refine hP _ (HX us (y, z, v)) (BI d3 nr nc) (bh (aj.mp q3).1) ⟨TV hc.1, by omega, fun t ht => ?_⟩
 rcases aCE ht with ⟨e1, e2, e3⟩ | ht
 ·rw [e1, e2, e3]
  exact ⟨⟨y0, y1⟩, ⟨z0, by show z ≤ 9; omega⟩, v0, v1⟩
 ·exact hc.2.2 t ht
end
section
variable {w : W} {P : D → W → Prop} {q v : Nat} {us : List (Int × Int × Int)} {σ : Sg} {e6 : ME}
theorem X5 : ∀ {us : List (Int × Int × Int)}, us.Pairwise apart2 → ∀ t ∈ us, kZ (cY us) [.inl t.1, .inl t.2.1] = some (.int t.2.2)
 | u :: us, h, t, ht => by
  rw [List.pairwise_cons] at h
  have e : cY (u :: us) = ([.inl u.1, .inl u.2.1], .int u.2.2) :: cY us := rfl
  rw [e]
  unfold kZ
  rcases bu.mp ht with rfl | ht
  ·rw [if_pos rfl]
  ·have n : ¬ (([.inl u.1, .inl u.2.1] : List Key) = [.inl t.1, .inl t.2.1]) := fun e => by
    have := rN.mp e
    simp only [xM, aq] at this
    exact h.1 t ht this
   rw [if_neg n]
   exact X5 h.2 t ht
theorem Y4 (hq : w[q]? = some (.dT (cY us))) (ap : us.Pairwise apart2) (few : us.length ≤ 6)
  (h6 : ∀ (w : W) (P : D → W → Prop), T (e6 σ w) P = P (.ref q) w) (h6' : ∀ x (w : W) (P : D → W → Prop), T (e6 ((eA σ [v]).set v (some x)) w) P = P (.ref q) w)
  (hv : ∀ x (w : W) (P : D → W → Prop), T (aB v ((eA σ [v]).set v (some x)) w) P = P x w)
  (hP : P (.tup ((us.mergeSort G1).map cQ)) (w.set q (.dG (cY us)))) :
  T (aQ iC (aA (aQ oF (aA (cG (vX e6) [v] (aU v) cL (aD bJ (aB v) (bM (aA (aD aS e6 (aB v)) aE)))) aE)) aE) σ w) P := by
 have hq1 : (w.set q (.dG (cY us)))[q]? = some (.dG (cY us)) := bh (aj.mp hq).1
 obtain ⟨w1, e1⟩ : ∃ w1, w1 = w.set q (.dG (cY us)) := ⟨_, rfl⟩
 rw [← e1] at hq1 hP
 simp only [aCF, h6, aD1 hq, zY, ae, ab, reduceCtorEq]
 rw [← e1]
 have l6 : ((cY us).map fun p => D.tup (p.1.map iS)).length = us.length := by unfold cY; simp
 refine ⟨by rw [sizeLine_eq, l6]; omega, ?_⟩
 refine mK (it := ⟨(cY us).map fun p => D.tup (p.1.map iS), always⟩) us (fun t => .tup [.int t.1, .int t.2.1]) cQ (by unfold cY; rw [cy]; rfl) trivial (fun t ht => ?_) ?_
 ·rw [QT, n9]
  refine ⟨rfl, ?_⟩
  have ex : T (aS (.ref q) (.tup [.int t.1, .int t.2.1]) w1) = fun PP => PP (.int t.2.2) w1 := by
   funext PP
   have e : aS (.ref q) (.tup [.int t.1, .int t.2.1]) w1 = .ok (.int t.2.2) w1 := by
    have l : rA (.dG (cY us)) (.tup [.int t.1, .int t.2.1]) = some (kZ (cY us) [.inl t.1, .inl t.2.1]) := rfl
    simp only [aS, hq1, l, X5 ap t ht]
   rw [e, b7]
  simp only [hv, h6', ex, zY, ae, ab, reduceCtorEq]
  first | exact ⟨rfl, rfl⟩ | rfl
 ·simp only [VC (show us.length ≤ 1000 by omega), aFW, zY, ae, ab, reduceCtorEq]
  exact hP
end
def chB (c : Nat) : Bool := decide (32 ≤ c) && (decide (c < 127) && ((c != 34) && ((c != 39) && (c != 92))))
def QL (l : Nat) (x : Str) : Bool := x.cps.toList.all chB && decide (x.cps.size ≤ 60 + l)
def aGu (l : Nat) : D → Bool
 | .int i => decide (i.natAbs ≤ 1000000000000000000000000000000000000000 + 1000 * l)
 | .str x => QL l x
 | _ => false
def II : Nat → Nat → D → Bool
 | 0, _, _ => false
 | _ + 1, _, .non => true
 | _ + 1, _, .bl _ => true
 | _ + 1, l, .int i => decide (i.natAbs ≤ 1000000000000000000000000000000000000000 + 1000 * l)
 | _ + 1, l, .str x => QL l x
 | n + 1, l, .tup xs => xs.all (II n l) && decide (xs.length ≤ 40 + l)
 | n + 1, l, .lst xs => xs.all (II n l) && decide (xs.length ≤ 40 + l)
 | n + 1, l, .xO ks vs => (ks.all (aGu l) && vs.all (II n l)) && (decide (ks.length = vs.length) && decide (ks.length ≤ 15))
 | _ + 1, _, _ => false
mutual
def EX : D → Nat
 | .str x => x.cps.size
 | .tup xs => wtDs xs
 | .lst xs => wtDs xs
 | .gY xs => wtDs xs
 | .pR xs => wtDs xs
 | .xO ks vs => wtDs ks + wtDs vs
 | _ => 0
def wtDs : List D → Nat
 | [] => 0
 | x :: xs => EX x + 1 + wtDs xs
end
theorem aES {c : Nat} (h : chB c = true) : c < 127 := by
 simp only [chB, ak, aq] at h
 exact h.2.1
theorem W6 {l l' : Nat} {x : Str} (h : QL l x = true) (hl : l ≤ l') : QL l' x = true := by
 simp only [QL, ak, aq] at h ⊢
 exact ⟨h.1, by omega⟩
mutual
def fJ : PyData → Bool
 | .none => true
 | .bool _ => true
 | .int i => decide (i.natAbs < 10 ^ 40)
 | .str x => QL 100 x
 | .list xs => plainVs xs
 | .tuple xs => plainVs xs
 | .dict kvs => plainKv kvs
def plainVs : List PyData → Bool
 | [] => true
 | x :: xs => fJ x && plainVs xs
def plainKv : List (PyData × PyData) → Bool
 | [] => true
 | (k, v) :: r => (fJ k && fJ v) && plainKv r
end
theorem aBE : ((List.range 127).all fun c => (Builtin.Str.reprChar 34 c).all (fun x => decide (x < 0x110000)) && (Builtin.Str.reprChar 39 c).all (fun x => decide (x < 0x110000))) = true := by decide +kernel
theorem OW {q c : Nat} (hq : q = 34 ∨ q = 39) (hc : c < 127) : ∀ x ∈ Builtin.Str.reprChar q c, x < 0x110000 := by
 have a := aBE
 rw [bg] at a
 have b := a c (List.mem_range.mpr hc)
 simp only [ak, bg, aq] at b
 rcases hq with rfl | rfl
 ·exact b.1
 ·exact b.2
theorem RN {x : Str} (h : x.cps.toList.all chB = true) : PyData.strOk (reprText x) = true := by
 have hq : reprQuote x = 34 ∨ reprQuote x = 39 := by
  unfold reprQuote
  split
  ·exact .inl rfl
  ·exact .inr rfl
 have key : ∀ (cs : List Nat) (acc : Array Nat), (∀ c ∈ cs, c < 127) → (∀ c ∈ acc.toList, c < 0x110000) → ∀ c ∈ (cs.foldl (fun out c => out ++ (Builtin.Str.reprChar (reprQuote x) c).toArray) acc).toList, c < 0x110000 := by
  intro cs
  induction cs with
  | nil => intro acc _ h2; exact h2
  | cons c cs ih =>
   intro acc h1 h2
   rw [List.foldl_cons]
   refine ih _ (fun y hy => h1 y (br _ hy)) fun y hy => ?_
   rw [Array.toList_append] at hy
   rcases dh.mp hy with hy | hy
   ·exact h2 y hy
   ·exact OW hq (h1 c (bc ..)) y (by simpa using hy)
 unfold PyData.strOk
 rw [Array.all_eq_true_iff_forall_mem]
 intro c hc
 unfold reprText at hc
 simp only at hc
 rw [Array.mem_push] at hc
 simp only [aq]
 rcases hc with hc | rfl
 ·rw [← Array.foldl_toList] at hc
  rw [bg] at h
  exact key x.cps.toList #[reprQuote x] (fun y hy => aES (h y hy)) (fun y hy => by
   have : y = reprQuote x := by simpa using hy
   rcases hq with q | q <;> (rw [this, q]; decide)) c (Array.mem_toList_iff.mpr hc)
 ·rcases hq with q | q <;> (rw [q]; decide)
mutual
theorem oB : ∀ p : PyData, fJ p = true → PyData.strOk p.shown = true
 | .none, _ => fK _
 | .bool b, _ => by cases b <;> exact fK _
 | .int i, _ => fK _
 | .str x, h => by
  rw [fJ] at h
  simp only [QL, ak] at h
  exact RN h.1
 | .list xs, h => by
  rw [fJ] at h
  show PyData.strOk (textFrom 0 "[" (PyData.shownAll xs) ++ "]") = true
  rw [iF, qF _ _ _ (fK _) (plainVs_shown xs h), fK]
  rfl
 | .tuple xs, h => by
  rw [fJ] at h
  show PyData.strOk (tupleText (PyData.shownAll xs)) = true
  unfold tupleText
  rw [iF, iF, fK, AK _ (fK _) _ (plainVs_shown xs h)]
  split <;> rw [fK] <;> rfl
 | .dict kvs, h => by
  rw [fJ] at h
  show PyData.strOk (dictText (PyData.shownKv kvs)) = true
  unfold dictText
  rw [iF, iF, fK, fK, AK _ (fK _) _ (plainKv_shown kvs h)]
  rfl
theorem plainVs_shown : ∀ ps : List PyData, plainVs ps = true → ∀ t ∈ PyData.shownAll ps, PyData.strOk t = true
 | [], _, t, ht => by simp [PyData.shownAll] at ht
 | p :: ps, h, t, ht => by
  simp only [plainVs, ak] at h
  simp only [PyData.shownAll, bu] at ht
  rcases ht with rfl | ht
  ·exact oB p h.1
  ·exact plainVs_shown ps h.2 t ht
theorem plainKv_shown : ∀ ps : List (PyData × PyData), plainKv ps = true → ∀ t ∈ PyData.shownKv ps, PyData.strOk t = true
 | [], _, t, ht => by simp [PyData.shownKv] at ht
 | (k, v) :: ps, h, t, ht => by
  simp only [plainKv, ak] at h
  simp only [PyData.shownKv, bu] at ht
  rcases ht with rfl | ht
  ·rw [iF, iF, oB k h.1.1, oB v h.1.2, fK]
   rfl
  ·exact plainKv_shown ps h.2 t ht
end
mutual
theorem r7 : ∀ p : PyData, fJ p = true → p.leavesShort 60 = true ∧ p.showable = true
 | .none, _ => by simp [PyData.leavesShort, PyData.showable]
 | .bool b, _ => by simp [PyData.leavesShort, PyData.showable]
 | .int i, h => by
  simp only [fJ, aq] at h
  exact ⟨CF h, zR h⟩
 | .str x, h => by
  simp only [fJ, QL, ak, bg] at h
  refine ⟨?_, by simp [PyData.showable]⟩
  simp only [PyData.leavesShort, bg, aq]
  intro c hc
  have := aES (h.1 c hc)
  omega
 | .list xs, h => by
  rw [fJ] at h
  have := plainVs_all xs h
  simp only [PyData.leavesShort, PyData.showable]
  exact this
 | .tuple xs, h => by
  rw [fJ] at h
  have := plainVs_all xs h
  simp only [PyData.leavesShort, PyData.showable]
  exact this
 | .dict kvs, h => by
  rw [fJ] at h
  have := plainKv_all kvs h
  simp only [PyData.leavesShort, PyData.showable]
  exact this
theorem plainVs_all : ∀ p : List PyData, plainVs p = true → PyData.leavesShortAll 60 p = true ∧ PyData.showableAll p = true
 | [], _ => by simp [PyData.leavesShortAll, PyData.showableAll]
 | p :: ps, h => by
  simp only [plainVs, ak] at h
  obtain ⟨a1, a2⟩ := r7 p h.1
  obtain ⟨b1, b2⟩ := plainVs_all ps h.2
  simp only [PyData.leavesShortAll, PyData.showableAll, a1, a2, b1, b2]
  simp
theorem plainKv_all : ∀ p : List (PyData × PyData), plainKv p = true → PyData.leavesShortKv 60 p = true ∧ PyData.showableKv p = true
 | [], _ => by simp [PyData.leavesShortKv, PyData.showableKv]
 | (k, v) :: ps, h => by
  simp only [plainKv, ak] at h
  obtain ⟨a1, a2⟩ := r7 k h.1.1
  obtain ⟨c1, c2⟩ := r7 v h.1.2
  obtain ⟨b1, b2⟩ := plainKv_all ps h.2
  simp only [PyData.leavesShortKv, PyData.showableKv, a1, a2, b1, b2, c1, c2]
  simp
end
structure Told (n : Nat) (d : D) (p : PyData) : Prop where
 py : ∀ f, d.EJ f = some p
 plain : fJ p = true
 bulk : p.bulk = EX d
 deep : p.depth ≤ n
theorem aBk {l : Nat} (hl : l ≤ 100) : ∀ {ks : List D}, ks.all (aGu l) = true → ∃ ps, vF ks = some ps ∧ plainVs ps = true ∧ PyData.bulkAll ps = wtDs ks ∧ ps.length = ks.length ∧ PyData.depthAll ps = 0
 | [], _ => ⟨[], rfl, rfl, rfl, rfl, rfl⟩
 | d :: ds, h => by
  simp only [List.all_cons, ak] at h
  obtain ⟨ps, h1, h2, h3, h4, h5⟩ := aBk hl h.2
  cases d <;> simp only [aGu, ax, false_and] at h
  ·rename_i i
   refine ⟨.int i :: ps, by simp only [vF, h1, Option.map_some], ?_, ?_, by simp [h4], ?_⟩
   ·have := h.1
    simp only [aq] at this
    simp only [plainVs, fJ, h2, Bool.and_true, aq]
    omega
   ·rw [PyData.bulkAll, wtDs, h3]
    simp [PyData.bulk, EX]
   ·rw [PyData.depthAll, h5]
    simp [PyData.depth]
  ·rename_i x
   refine ⟨.str x :: ps, by simp only [vF, h1, Option.map_some], ?_, ?_, by simp [h4], ?_⟩
   ·simp only [plainVs, fJ, h2, Bool.and_true]
    exact W6 h.1 (by omega)
   ·rw [PyData.bulkAll, wtDs, h3]
    simp [PyData.bulk, EX]
   ·rw [PyData.depthAll, h5]
    simp [PyData.depth]
theorem OI {n : Nat} : ∀ {xs : List D}, (∀ x ∈ xs, ∃ p, Told n x p) → ∃ ps, (∀ f, D.pysV f xs = some ps) ∧ plainVs ps = true ∧ PyData.bulkAll ps = wtDs xs ∧ ps.length = xs.length ∧ PyData.depthAll ps ≤ n
 | [], _ => ⟨[], fun _ => rfl, rfl, rfl, rfl, Nat.zero_le _⟩
 | x :: xs, h => by
  obtain ⟨p, t⟩ := h x (bc ..)
  obtain ⟨ps, h1, h2, h3, h4, h5⟩ := OI fun y hy => h y (br _ hy)
  refine ⟨p :: ps, fun f => ?_, ?_, ?_, by simp [h4], ?_⟩
  ·unfold D.pysV
   rw [t.py f, h1 f]
  ·simp only [plainVs, t.plain, h2, Bool.and_self]
  ·rw [PyData.bulkAll, wtDs, h3, t.bulk]
  ·rw [PyData.depthAll]
   have := t.deep
   omega
theorem aBd : ∀ {ks vs : List PyData}, ks.length = vs.length → plainVs ks = true → plainVs vs = true → plainKv (ks.zip vs) = true ∧ PyData.bulkKv (ks.zip vs) = PyData.bulkAll ks + PyData.bulkAll vs ∧ PyData.depthKv (ks.zip vs) = max (PyData.depthAll ks) (PyData.depthAll vs)
 | [], [], _, _, _ => ⟨rfl, rfl, rfl⟩
 | [], _ :: _, h, _, _ => by simp at h
 | _ :: _, [], h, _, _ => by simp at h
 | k :: ks, v :: vs, h, h1, h2 => by
  simp only [plainVs, ak] at h1 h2
  obtain ⟨a, b, c⟩ := aBd (ks := ks) (vs := vs) (by simpa using h) h1.2 h2.2
  simp only [List.zip_cons_cons, plainKv, PyData.bulkKv, PyData.depthKv, PyData.bulkAll, PyData.depthAll, h1.1, h2.1, a, b, c, Bool.and_self, true_and]
  omega
theorem WW : ∀ {n l : Nat} {d : D}, II n l d = true → l ≤ 100 → ∃ p, Told n d p
 | 0, _, _, h, _ => by simp [II] at h
 | n + 1, l, d, h, hl => by
  cases d <;> simp only [II, ax] at h
  ·exact ⟨.none, fun _ => rfl, rfl, rfl, by simp [PyData.depth]⟩
  ·exact ⟨.bool _, fun _ => rfl, rfl, rfl, by simp [PyData.depth]⟩
  ·refine ⟨.int _, fun _ => rfl, ?_, rfl, by simp [PyData.depth]⟩
   simp only [aq] at h
   simp only [fJ, aq]
   omega
  ·refine ⟨.str _, fun _ => rfl, ?_, rfl, by simp [PyData.depth]⟩
   rw [fJ]
   exact W6 h (by omega)
  ·simp only [ak, bg, aq] at h
   obtain ⟨ps, h1, h2, h3, h4, h5⟩ := OI fun x hx => WW (h.1 x hx) hl
   exact ⟨.tuple ps, fun f => by unfold D.EJ; rw [h1 f]; rfl, by rw [fJ]; exact h2, by rw [PyData.bulk, h3, EX], by rw [PyData.depth]; omega⟩
  ·simp only [ak, bg, aq] at h
   obtain ⟨ps, h1, h2, h3, h4, h5⟩ := OI fun x hx => WW (h.1 x hx) hl
   exact ⟨.list ps, fun f => by unfold D.EJ; rw [h1 f]; rfl, by rw [fJ]; exact h2, by rw [PyData.bulk, h3, EX], by rw [PyData.depth]; omega⟩
  ·rename_i ks vs
   simp only [ak, aq] at h
   obtain ⟨⟨g1, g2⟩, g3, g4⟩ := h
   obtain ⟨kp, a1, a2, a3, a4, a5⟩ := aBk hl g1
   rw [bg] at g2
   obtain ⟨ps, h1, h2, h3, h4, h5⟩ := OI fun x hx => WW (g2 x hx) hl
   have el : kp.length = ps.length := by omega
   obtain ⟨z1, z2, z3⟩ := aBd el a2 h2
   refine ⟨.dict (kp.zip ps), fun f => ?_, by rw [fJ]; exact z1, by rw [PyData.bulk, z2, a3, h3, EX], by rw [PyData.depth, z3]; omega⟩
   unfold D.EJ
   rw [a1, h1 f]
   simp only [el, ae]
section
variable {w : W} {P : D → W → Prop} {d : D} {p : PyData} {n l : Nat}
theorem aDw (t : Told n d p) (hn : n ≤ 40) (hb : EX d ≤ 200000) : T (n7 [d] w) P = P (.str p.shown) w := by
 obtain ⟨a1, a2⟩ := r7 p t.plain
 have b := PyData.shown_le_bulk 60 (by decide) p a1
 have dd := t.deep
 have z := t.bulk
 have e2 : LS d w = some p.shown := by
  unfold LS
  rw [t.py]
  simp only []
  rw [if_pos]
  refine ⟨a2, by omega, ?_⟩
  have := sizeLine_eq
  have : (60 + 2) * p.bulk ≤ 62 * 200000 := Nat.mul_le_mul_left _ (by omega)
  omega
 have : n7 [d] w = .ok (.str p.shown) w := by simp only [n7, e2]
 rw [this, b7]
theorem R6 (h : II n l d = true) (hl : l ≤ 100) (hn : n ≤ 40) (hb : EX d ≤ 200000) : ∃ z, PyData.strOk z = true ∧ ∀ (w : W) (P : D → W → Prop), T (n7 [d] w) P = P (.str z) w := by
 obtain ⟨p, t⟩ := WW h hl
 exact ⟨p.shown, oB p t.plain, fun w P => aDw t hn hb⟩
end
mutual
theorem aGZ {f : Nat → Option PyData} (hf : ∀ i, f i = none) : ∀ (d : D) {q : PyData}, d.eP f = some q → q.bulk = EX d
 | .non, _, h => by simp only [D.eP, ah] at h; subst h; rfl
 | .bl _, _, h => by simp only [D.eP, ah] at h; subst h; rfl
 | .int _, _, h => by simp only [D.eP, ah] at h; subst h; rfl
 | .str _, _, h => by simp only [D.eP, ah] at h; subst h; rfl
 | .ty _, _, h => by simp [D.eP] at h
 | .con _, _, h => by simp [D.eP] at h
 | .xO _ _, _, h => by simp [D.eP] at h
 | .ref i, _, h => by
  simp only [D.eP, hf] at h
  cases h
 | .tup xs, _, h => by
  simp only [D.eP, au] at h
  obtain ⟨ps, h1, rfl⟩ := h
  rw [PyData.bulk, EX, wts_py hf xs h1]
 | .gY xs, _, h => by
  simp only [D.eP, au] at h
  obtain ⟨ps, h1, rfl⟩ := h
  rw [PyData.bulk, EX, wts_py hf xs h1]
 | .lst xs, _, h => by
  simp only [D.eP, au] at h
  obtain ⟨ps, h1, rfl⟩ := h
  rw [PyData.bulk, EX, wts_py hf xs h1]
 | .pR xs, _, h => by
  simp only [D.eP, au] at h
  obtain ⟨ps, h1, rfl⟩ := h
  rw [PyData.bulk, EX, wts_py hf xs h1]
theorem wts_py {f : Nat → Option PyData} (hf : ∀ i, f i = none) : ∀ (ds : List D) {qs : List PyData}, D.pysR f ds = some qs → PyData.bulkAll qs = wtDs ds
 | [], _, h => by simp only [D.pysR, ah] at h; subst h; rfl
 | d :: ds, _, h => by
  simp only [D.pysR] at h
  split at h
  ·rename_i p ps e1 e2
   cases h
   rw [PyData.bulkAll, wtDs, aGZ hf d e1, wts_py hf ds e2]
  ·cases h
end
section
variable {w : W} {P : D → W → Prop} {n : Nat} {d : D}
theorem aE7 {i : Int} (h : i.natAbs < 10 ^ 40) : T (zD [.int i] w) P = P (.str (toString i : String)) w := by
 have l : i.natAbs.log2 < 1920 := by
  have := zR h
  simpa only [PyData.showable, aq] using this
 have : zD [.int i] w = .ok (.str (toString i : String)) w := by
  simp only [zD, if_pos l]
 rw [this, b7]
theorem aC7 {σ : Sg} : T (E2 σ w) P = P (.xO [] []) w := by unfold E2; rw [b7]
end
def xB (i : Int) : Str := (toString i : String)
def nY (x : Str) : Bool := x.cps.toList.all (fun c => decide (33 ≤ c) && decide (c < 127)) && decide (x.length ≤ 8)
def aEF (x : Str) : Bool := x.cps.toList.all fun c => decide (c ∈ ("0123456789" : Str).cps.toList)
theorem aAR : ((List.range 21).all fun n => nY (xB (n : Int)) && (aEF (xB (n : Int)) && (decide (1 ≤ (xB (n : Int)).length) && (decide ((xB (n : Int)).length ≤ 2) && (intText? (xB (n : Int)) == some (n : Int)))))) = true := by decide +kernel
structure aG9 (i : Int) : Prop where
 word : nY (xB i) = true
 aD0 : aEF (xB i) = true
 one : 1 ≤ (xB i).length
 two : (xB i).length ≤ 2
 back : intText? (xB i) = some i
theorem aGN {i : Int} (h0 : 0 ≤ i) (h1 : i ≤ 20) : aG9 i := by
 obtain ⟨n, rfl⟩ : ∃ n : Nat, i = (n : Int) := ⟨i.toNat, by omega⟩
 have a := aAR
 rw [bg] at a
 have b := a n (List.mem_range.mpr (by omega))
 simp only [ak, aq, beq_iff_eq] at b
 exact ⟨b.1, b.2.1, b.2.2.1, b.2.2.2.1, b.2.2.2.2⟩
def lC (ws : List Str) : Str := Txt.join " " ws
def RF (ls : List (List Str)) : Str := Txt.join "\n" (ls.map lC)
theorem QR (y : Str) (ps : List Str) : TL.tl (Txt.join y ps) = TL.joinL (TL.tl y) (ps.map TL.tl) := by rw [TL.join_eq, TL.tl_join]
theorem KO {S : List Nat} {c : Nat} : ∀ {ps : List (List Nat)}, c ∈ TL.joinL S ps → c ∈ S ∨ ∃ p ∈ ps, c ∈ p
 | [], h => nomatch h
 | [p], h => .inr ⟨p, da.mpr rfl, h⟩
 | p :: q :: r, h => by
  have h : c ∈ p ++ (S ++ TL.joinL S (q :: r)) := h
  rcases dh.mp h with h | h
  ·exact .inr ⟨p, bc .., h⟩
  ·rcases dh.mp h with h | h
   ·exact .inl h
   ·rcases KO h with h | ⟨z, hz, hc⟩
    ·exact .inl h
    ·exact .inr ⟨z, br _ hz, hc⟩
theorem J5 {S : List Nat} {k : Nat} : ∀ {ps : List (List Nat)}, (∀ p ∈ ps, p.length ≤ k) → (TL.joinL S ps).length ≤ (k + S.length) * ps.length
 | [], _ => bq 0
 | [p], h => by
  have h1 := h p (da.mpr rfl)
  show p.length ≤ (k + S.length) * 1
  omega
 | p :: q :: r, h => by
  have h1 := h p (bc ..)
  have h2 := J5 (S := S) (k := k) fun z hz => h z (br p hz)
  show (p ++ (S ++ TL.joinL S (q :: r))).length ≤ (k + S.length) * ((q :: r).length + 1)
  rw [Nat.mul_add, cw, cw]
  omega
theorem P9 {y : Str} {ps : List Str} {c : Nat} (h : c ∈ (Txt.join y ps).cps.toList) : c ∈ y.cps.toList ∨ ∃ p ∈ ps, c ∈ p.cps.toList := by
 have h : c ∈ TL.tl (Txt.join y ps) := h
 rw [QR] at h
 rcases KO h with h | ⟨z, hz, hc⟩
 ·exact .inl h
 ·obtain ⟨p, hp, rfl⟩ := cb.mp hz
  exact .inr ⟨p, hp, hc⟩
theorem OX {y : Str} {ps : List Str} {k : Nat} (h : ∀ p ∈ ps, p.length ≤ k) : (Txt.join y ps).length ≤ (k + y.length) * ps.length := by
 rw [TL.len_tl, QR, TL.len_tl y]
 have := J5 (S := TL.tl y) (k := k) (ps := ps.map TL.tl) fun z hz => by
  obtain ⟨p, hp, rfl⟩ := cb.mp hz
  rw [← TL.len_tl]
  exact h p hp
 rwa [ay] at this
theorem XB {ps : List Str} {k : Nat} (h : ∀ p ∈ ps, p.length ≤ k) : (ps.map (·.length)).sum ≤ k * ps.length := by
 induction ps with
 | nil => simp
 | cons p ps ih =>
  have h1 := h p (bc ..)
  have h2 := ih fun z hz => h z (br _ hz)
  rw [cg, List.sum_cons, ck, Nat.mul_add]
  omega
theorem MQ {x : Str} (h : nY x = true) : (∀ c ∈ x.cps.toList, 33 ≤ c ∧ c < 127) ∧ x.length ≤ 8 := by
 simp only [nY, ak, bg, aq] at h
 exact h
theorem aB9 : TL.tl (" " : Str) = 32 :: [] := by decide +kernel
theorem aAM : TL.tl ("\n" : Str) = 10 :: [] := by decide +kernel
section
variable {ws : List Str} {ls : List (List Str)}
theorem PY (h : ∀ x ∈ ws, nY x = true) : ∀ c ∈ (lC ws).cps.toList, 32 ≤ c ∧ c < 127 := fun c hc => by
 rcases P9 hc with hc | ⟨p, hp, hc⟩
 ·have e : c ∈ TL.tl (" " : Str) := hc
  rw [aB9] at e
  rw [da.mp e]
  omega
 ·have := (MQ (h p hp)).1 c hc
  omega
theorem aAX (h : ∀ x ∈ ws, nY x = true) : (lC ws).length ≤ 9 * ws.length := by
 have := OX (y := (" " : Str)) (k := 8) fun p hp => (MQ (h p hp)).2
 rw [TL.len_tl (" " : Str), aB9] at this
 exact this
structure zQ (ls : List (List Str)) : Prop where
 w : ∀ ws ∈ ls, (∀ x ∈ ws, nY x = true) ∧ 1 ≤ ws.length ∧ ws.length ≤ 9
 l : ls.length ≤ 12
 ne : ls ≠ []
theorem zQ.split (h : zQ ls) : Txt.split (RF ls) "\n" = ls.map lC :=
 TL.split_join aAM (by decide +kernel) (by simpa using h.ne) fun p hp hc => by
  obtain ⟨ws, hw, rfl⟩ := cb.mp hp
  have := PY (h.w ws hw).1 10 hc
  omega
theorem zQ.low (h : zQ ls) : ∀ c ∈ (RF ls).cps.toList, c < 127 := fun c hc => by
 rcases P9 hc with hc | ⟨p, hp, hc⟩
 ·have e : c ∈ TL.tl ("\n" : Str) := hc
  rw [aAM] at e
  rw [da.mp e]
  omega
 ·obtain ⟨ws, hw, rfl⟩ := cb.mp hp
  exact (PY (h.w ws hw).1 c hc).2
theorem zQ.aHN (h : zQ ls) : ∀ p ∈ ls.map lC, p.length ≤ 81 := fun p hp => by
 obtain ⟨ws, hw, rfl⟩ := cb.mp hp
 obtain ⟨h1, h2, h3⟩ := h.w ws hw
 have := aAX h1
 omega
theorem zQ.len (h : zQ ls) : (RF ls).length ≤ 1000 := by
 have := OX (y := ("\n" : Str)) (k := 81) h.aHN
 rw [TL.len_tl ("\n" : Str), aAM, ay] at this
 have h1 := h.l
 have h2 : (RF ls).length ≤ 82 * ls.length := this
 omega
end
theorem C6 {x : Str} (h : ∀ c ∈ x.cps.toList, c < 127) (hl : x.length ≤ 1000) : (reprText x).length ≤ 10002 := by
 have := StrLaws.reprText_len x fun c hc => Nat.lt_trans (h c hc) (by decide)
 omega
section
variable {w : W} {P : D → W → Prop} {PS : Sg → W → Prop} {n : Nat} {d : D} {σ : Sg}
theorem B5 : ∀ ys : List Str, AU (ys.map D.str) = some ys
 | [] => rfl
 | y :: ys => by rw [cg, AU, B5 ys]; rfl
theorem aEo {a : Str} {ys : List Str} (h : ∀ p ∈ ys, p.length ≤ 100) (hl : ys.length ≤ 1000) (ha : a.length ≤ 10) : T (joinM (.str a) [.lst (ys.map D.str)] w) P = P (.str (Txt.join a ys)) w := by
 have e : (D.items w (.lst (ys.map D.str))).bind AU = some ys := by simp only [D.items, Option.bind_some, B5]
 have s1 := XB h
 have s2 : ys.length * a.length ≤ 1000 * 10 := Nat.mul_le_mul hl ha
 have : joinM (.str a) [.lst (ys.map D.str)] w = .ok (.str (Txt.join a ys)) w := by
  simp only [joinM, e, if_pos (show (ys.map (·.length)).sum + ys.length * a.length ≤ 16777216 by omega)]
 rw [this, b7]
theorem aDc {a : Str} {ys : List Str} {q : Nat} (hq : w[q]? = some (.lst (ys.map D.str))) (h : ∀ p ∈ ys, p.length ≤ 100) (hl : ys.length ≤ 1000) (ha : a.length ≤ 10) : T (joinM (.str a) [.ref q] w) P = P (.str (Txt.join a ys)) w := by
 have e : (D.items w (.ref q)).bind AU = some ys := by simp only [D.items, hq, Option.bind_some, B5]
 have s1 := XB h
 have s2 : ys.length * a.length ≤ 1000 * 10 := Nat.mul_le_mul hl ha
 have : joinM (.str a) [.ref q] w = .ok (.str (Txt.join a ys)) w := by
  simp only [joinM, e, if_pos (show (ys.map (·.length)).sum + ys.length * a.length ≤ 16777216 by omega)]
 rw [this, b7]
theorem aFL {i : Int} (h0 : 0 ≤ i) (h1 : i ≤ 20) : T (zD [.int i] w) P = P (.str (xB i)) w := aE7 (by omega)
theorem aFu {a : Str} : T (zD [.str a] w) P = P (.str a) w := by unfold T; rfl
theorem aDE {x : Str} {m : ME} (h : ∀ c ∈ x.cps.toList, c < 127) (hl : x.length ≤ 1000) (e : m σ w = .ok (.str x) w) : KC m σ w = .ok (.str (reprText x)) w := by
 have l := C6 h hl
 unfold KC
 rw [e]
 simp only [Res.BG, X3, if_pos (show (reprText x).length ≤ sizeLine by rw [sizeLine_eq]; omega)]
end
end Lw
namespace Sx
open PySem PySem.Spec PyProof.Rows L2 Pc Lb Lw
structure bH where
 aIh : Addr
 zz : Unit := ()
def gL : List Str := [("thing" : Str)]
def jL (k : bH) : MS :=
 (a7 (jS (aQ (fS iB) (aA (aB 0) (aA (eC (.ty "int")) aE))) (A6 notM (aQ (fS iB) (aA (aB 0) (aA (eC (.ty "bool")) aE))))))
def gN (k : bH) : MF := bL (jL k) gL
theorem D2 (x0 : D) : begin gL [x0] = [some x0] := rfl
def fP : List Str := [("thing" : Str), ("least" : Str), ("most" : Str)]
def iJ (k : bH) : MS :=
 (a7 (jS (aJ (gN k) 1 aM (aA (aB 0) aE)) (TF GU GU (aB 1) (aB 0) (aB 2))))
def bG (k : bH) : MF := bL (iJ k) fP
theorem zW (x0 x1 x2 : D) : begin fP [x0, x1, x2] = [some x0, some x1, some x2] := rfl
def I0 : List Str := [("thing" : Str), ("one" : Str)]
def IB (k : bH) : MS :=
 (a7 (aQ allM (aA (cG (eQ (aB 0)) [1] (aU 1) cL (aJ (bG k) 3 aM (aA (aB 1) (aA (eC (.int 0)) (aA (eC (.int 999)) aE))))) aE)))
def IK (k : bH) : MF := bL (IB k) I0
def BQ : List Str := [("thing" : Str)]
def CO (k : bH) : MS :=
 (a7 (jS (aQ (fS iB) (aA (aB 0) (aA (eC (.ty "tuple")) aE))) (jS (aD gO (aQ cX (aA (aB 0) aE)) (eC (.int 4))) (aJ (IK k) 1 aM (aA (aB 0) aE)))))
def KW (k : bH) : MF := bL (CO k) BQ
theorem aER {r : Res D} {v : D} {w : W} (h : T r fun a w' => a = v ∧ w' = w) : r = .ok v w := by
 obtain ⟨a, w', e, rfl, rfl⟩ := h.ex
 exact e
section
variable (k : Sx.bH)
abbrev lz : Lb.bH := ⟨0, 0⟩
variable {n l : Nat} {w w' w0 : W} {P : D → W → Prop} {PF : Fl → W → Prop} {d : D}
end
def Gr (w w' : W) : Prop := ∃ x, w' = w ++ x
theorem Gr.refl {w : W} : Gr w w := ⟨[], (List.append_nil w).symm⟩
theorem Gr.trans {a b c : W} (h : Gr a b) (g : Gr b c) : Gr a c := by
 obtain ⟨x, rfl⟩ := h
 obtain ⟨y, rfl⟩ := g
 exact ⟨x ++ y, by rw [cv]⟩
theorem Gr.one {w : W} {o : MO} : Gr w (w ++ [o]) := ⟨[o], rfl⟩
section
variable (k : Sx.bH)
variable {n l : Nat} {w w' w0 : W} {P : D → W → Prop} {PF : Fl → W → Prop} {d : D}
variable {u0 : W}
theorem aDL {b : Nat} (h : cJ w 1 0 b) : 2 ≤ w.length := by
 obtain ⟨_, cells, sm, a, h1, h2, _⟩ := h
 have := (aj.mp h1).1
 omega
theorem aD6 {b : Nat} (h : cJ w 1 0 b) (g : Gr w w') : cJ w' 1 0 b := by
 have l := aDL h
 obtain ⟨x, rfl⟩ := g
 obtain ⟨ne, cells, sm, a, h1, h2, h3⟩ := h
 exact ⟨ne, cells, sm, a, by rw [av (by omega)]; exact h1, by rw [av (by omega)]; exact h2, h3⟩
theorem BI {b q : Nat} {o : MO} (h : cJ w 1 0 b) (hq : 2 ≤ q) : cJ (w.set q o) 1 0 b := by
 obtain ⟨ne, cells, sm, a, h1, h2, h3⟩ := h
 exact ⟨ne, cells, sm, a, by rw [az (by omega)]; exact h1, by rw [az (by omega)]; exact h2, h3⟩
end
theorem aF0 : (" " : Str).cps.toList = [32] := by decide +kernel
def aFc : List Str := ["fall", "stop", "rise", "down", "up", "rank", "heal", "ask"]
theorem AO : ("tear" :: aFc : List Str).all (fun z => PyData.strOk z && (z.cps.toList.all (fun c => decide (97 ≤ c) && decide (c ≤ 122)) && (decide (1 ≤ z.length) && decide (z.length ≤ 4)))) = true := by decide +kernel
section
variable (k : Sx.bH)
variable {n l : Nat} {w w' w0 : W} {P : D → W → Prop} {PF : Fl → W → Prop} {d : D}
def T4 (xs : List D) : List D := (List.range xs.length).zipWith (fun i x => D.tup [.int (i : Nat), x]) xs
end
theorem aB9 : TL.tl (" " : Str) = [32] := aF0
section
variable {w : W} {P : D → W → Prop}
mutual
theorem aE8 : ∀ (d : D) {q : PyData}, d.eP (fun _ => none) = some q → ∀ f, d.EJ f = some q
 | .non, _, h, f => h
 | .bl _, _, h, f => h
 | .int _, _, h, f => h
 | .str _, _, h, f => h
 | .ty _, _, h, _ => by simp [D.eP] at h
 | .con _, _, h, _ => by simp [D.eP] at h
 | .xO _ _, _, h, _ => by simp [D.eP] at h
 | .ref i, _, h, _ => by simp [D.eP] at h
 | .tup xs, _, h, f => by
  simp only [D.eP, au] at h
  obtain ⟨ps, h1, rfl⟩ := h
  unfold D.EJ
  rw [pysV_of xs h1 f]
  rfl
 | .gY xs, _, h, f => by
  simp only [D.eP, au] at h
  obtain ⟨ps, h1, rfl⟩ := h
  unfold D.EJ
  rw [pysV_of xs h1 f]
  rfl
 | .lst xs, _, h, f => by
  simp only [D.eP, au] at h
  obtain ⟨ps, h1, rfl⟩ := h
  unfold D.EJ
  rw [pysV_of xs h1 f]
  rfl
 | .pR xs, _, h, f => by
  simp only [D.eP, au] at h
  obtain ⟨ps, h1, rfl⟩ := h
  unfold D.EJ
  rw [pysV_of xs h1 f]
  rfl
theorem pysV_of : ∀ (ds : List D) {qs : List PyData}, D.pysR (fun _ => none) ds = some qs → ∀ f, D.pysV f ds = some qs
 | [], _, h, f => h
 | d :: ds, _, h, f => by
  simp only [D.pysR] at h
  split at h
  ·rename_i p ps e1 e2
   cases h
   unfold D.pysV
   rw [aE8 d e1 f, pysV_of ds e2 f]
  ·cases h
end
end
theorem vZ {f : Str → D} {c e : Nat} : ∀ {ps : List Str}, (∀ p ∈ ps, EX (f p) + 1 ≤ c * (p.length + e)) → wtDs (ps.map f) ≤ c * (ps.map fun p => p.length + e).sum
 | [], _ => Nat.zero_le _
 | p :: ps, h => by
  have a := h p (bc ..)
  have b := vZ (f := f) (c := c) (e := e) fun z hz => h z (br p hz)
  rw [cg, cg, List.sum_cons, wtDs, Nat.mul_add]
  omega
end Sx
namespace K02
open PySem PySem.Spec PyProof.Rows L2 Pc
structure Fx (S : aP) where
 k : bH
 LI : S.mg ("all" : Str) = none
 FA : S.mg ("bool" : Str) = none
 W7 : S.mg ("int" : Str) = none
 cF : S.mg ("isinstance" : Str) = none
 iH : S.mg ("len" : Str) = none
 VN : S.mg ("list" : Str) = none
 sI : S.mg ("range" : Str) = none
 qO : S.mg ("repr" : Str) = none
 S0 : S.mg ("sorted" : Str) = none
 WV : S.mg ("str" : Str) = none
 aEN : S.mg ("sum" : Str) = none
 hY : S.mg ("tuple" : Str) = none
 aEE : S.mg ("zip" : Str) = none
 W8 : TB S ("EVERY" : Str) (.int 1)
 aEG : TB S ("GAP" : Str) (.int 1)
 aBp : TB S ("HOLD" : Str) (.int 0)
 aAZ : TB S ("LOST" : Str) (.int 1)
 aCt : TB S ("MOST" : Str) (.int 1000)
 q9 : TB S ("MOST_ADDRESSES" : Str) (.int 4)
 xT : TB S ("MOST_HOUSES" : Str) (.int 6)
 D7 : TB S ("MOST_LESS" : Str) (.int 11)
 E3 : TB S ("MOST_TIE" : Str) (.int 9)
 DQ : TB S ("MOST_TIES" : Str) (.int 6)
 aAt : TB S ("SLOW" : Str) (.int 1)
 aAQ : TB S ("TOP" : Str) (.int 12)
 C4 : TB S ("NUMBERS" : Str) (.con k.eS)
 CC : KTab S.K S.w k.eS dW
 iY : ∀ I F, aI S.K I F (.gY []) (.ref k.eD)
 zG : S.mg ("Plan" : Str) = some (.ref k.aF)
 aBF : TB S ("Plan" : Str) (.con k.aF)
 bZ : Cls S.K k.aF
 aBG : SS S.K k.aF
 UR : L9 S.K k.aF
 y3 : eZ S.K k.aF
 y4 : lV S.K k.aF
 aCn : L4 S.K k.aF
 kH : NoAttr S.K k.aF ("bears" : Str)
 kJ : NoAttr S.K k.aF ("every" : Str)
 pB : NoAttr S.K k.aF ("gap" : Str)
 mW : NoAttr S.K k.aF ("hold" : Str)
 kR : NoAttr S.K k.aF ("hosts" : Str)
 mV : NoAttr S.K k.aF ("lost" : Str)
 iU : NoAttr S.K k.aF ("ranks" : Str)
 nF : NoAttr S.K k.aF ("slow" : Str)
 kI : NoAttr S.K k.aF ("takes" : Str)
 m8 : NoAttr S.K k.aF ("ties" : Str)
 sZ : Addr
 sS : FuncData
 yQ : FunD S.K ("__len__" : Str) ("Plan.__len__" : Str) (defArgs (inClass (top 24) 2)) (defBody (inClass (top 24) 2)) (defScope (inClass (top 24) 2)) [] [] sZ sS
 GO : Meth S.K k.aF ("__len__" : Str) sZ
 pF : Addr
 sM : FuncData
 zB : FunD S.K ("in_words" : Str) ("in_words" : Str) (defArgs (top 23)) (defBody (top 23)) (defScope (top 23)) [] [] pF sM
 rS : S.mg ("in_words" : Str) = some (.ref pF)
 pJ : PySem.W.keepIn S.K (.ref pF) = true
 sT : Addr
 sP : FuncData
 xZ : FunD S.K ("__str__" : Str) ("Plan.__str__" : Str) (defArgs (inClass (top 24) 4)) (defBody (inClass (top 24) 4)) (defScope (inClass (top 24) 4)) [] [] sT sP
 yP : Meth S.K k.aF ("__str__" : Str) sT
 pP : Addr
 pZ : FuncData
 uX : FunD S.K ("__repr__" : Str) ("Plan.__repr__" : Str) (defArgs (inClass (top 24) 5)) (defBody (inClass (top 24) 5)) (defScope (inClass (top 24) 5)) [] [] pP pZ
 D4 : Meth S.K k.aF ("__repr__" : Str) pP
 mS : Addr
 qE : FuncData
 uL : FunD S.K ("_law_deck" : Str) ("_law_deck" : Str) (defArgs (top 26)) (defBody (top 26)) (defScope (top 26)) [] [] mS qE
 DH : S.mg ("_law_deck" : Str) = some (.ref mS)
 zV : PySem.W.keepIn S.K (.ref mS) = true
 m3 : Addr
 pS : FuncData
 vG : FunD S.K ("_law_draw" : Str) ("_law_draw" : Str) (defArgs (top 27)) (defBody (top 27)) (defScope (top 27)) [] [] m3 pS
 b6 : S.mg ("_law_draw" : Str) = some (.ref m3)
 bP : PySem.W.keepIn S.K (.ref m3) = true
 fL : Addr
 iA : FuncData
 kM : FunD S.K ("_law_due_fields" : Str) ("_law_due_fields" : Str) (defArgs (top 32)) (defBody (top 32)) (defScope (top 32)) [] [] fL iA
 h8 : S.mg ("_law_due_fields" : Str) = some (.ref fL)
 gJ : PySem.W.keepIn S.K (.ref fL) = true
 mI : Addr
 mH : FuncData
 qU : FunD S.K ("fields" : Str) ("Plan.fields" : Str) (defArgs (inClass (top 24) 1)) (defBody (inClass (top 24) 1)) (defScope (inClass (top 24) 1)) [] [] mI mH
 qT : Meth S.K k.aF ("fields" : Str) mI
 wO : Addr
 wR : FuncData
 B2 : FunD S.K ("__eq__" : Str) ("Plan.__eq__" : Str) (defArgs (inClass (top 24) 3)) (defBody (inClass (top 24) 3)) (defScope (inClass (top 24) 3)) [] [] wO wR
 lY : Meth S.K k.aF ("__eq__" : Str) wO
 j9 : Addr
 oJ : FuncData
 sW : FunD S.K ("_law_equal" : Str) ("_law_equal" : Str) (defArgs (top 38)) (defBody (top 38)) (defScope (top 38)) [] [] j9 oJ
 kO : S.mg ("_law_equal" : Str) = some (.ref j9)
 jA : PySem.W.keepIn S.K (.ref j9) = true
 gC : Addr
 i0 : FuncData
 mC : FunD S.K ("_law_is_within" : Str) ("_law_is_within" : Str) (defArgs (top 33)) (defBody (top 33)) (defScope (top 33)) [] [] gC i0
 eE : S.mg ("_law_is_within" : Str) = some (.ref gC)
 dP : PySem.W.keepIn S.K (.ref gC) = true
 gA : Addr
 iP : FuncData
 lF : FunD S.K ("_law_are_cords" : Str) ("_law_are_cords" : Str) (defArgs (top 35)) (defBody (top 35)) (defScope (top 35)) [] [] gA iP
 rF : S.mg ("_law_are_cords" : Str) = some (.ref gA)
 qB : PySem.W.keepIn S.K (.ref gA) = true
 gQ : Addr
 jK : FuncData
 nO : FunD S.K ("_law_are_rows" : Str) ("_law_are_rows" : Str) (defArgs (top 34)) (defBody (top 34)) (defScope (top 34)) [] [] gQ jK
 tN : S.mg ("_law_are_rows" : Str) = some (.ref gQ)
 rJ : PySem.W.keepIn S.K (.ref gQ) = true
 kW : Addr
 n8 : FuncData
 tI : FunD S.K ("_law_fault" : Str) ("_law_fault" : Str) (defArgs (top 36)) (defBody (top 36)) (defScope (top 36)) [] [] kW n8
 AI : S.mg ("_law_fault" : Str) = some (.ref kW)
 xQ : PySem.W.keepIn S.K (.ref kW) = true
 jB : Addr
 mG : FuncData
 qR : FunD S.K ("_law_fields" : Str) ("_law_fields" : Str) (defArgs (top 31)) (defBody (top 31)) (defScope (top 31)) [] [] jB mG
 gR : S.mg ("_law_fields" : Str) = some (.ref jB)
 gB : PySem.W.keepIn S.K (.ref jB) = true
 oT : Addr
 tG : FuncData
 yU : FunD S.K ("is_whole" : Str) ("is_whole" : Str) (defArgs (top 17)) (defBody (top 17)) (defScope (top 17)) [] [] oT tG
 GI : S.mg ("is_whole" : Str) = some (.ref oT)
 DA : PySem.W.keepIn S.K (.ref oT) = true
 nE : Addr
 pO : FuncData
 uY : FunD S.K ("is_within" : Str) ("is_within" : Str) (defArgs (top 18)) (defBody (top 18)) (defScope (top 18)) [] [] nE pO
 jV : S.mg ("is_within" : Str) = some (.ref nE)
 i3 : PySem.W.keepIn S.K (.ref nE) = true
 mX : Addr
 qC : FuncData
 vU : FunD S.K ("are_ranks" : Str) ("are_ranks" : Str) (defArgs (top 19)) (defBody (top 19)) (defScope (top 19)) [] [] mX qC
 DX : S.mg ("are_ranks" : Str) = some (.ref mX)
 zJ : PySem.W.keepIn S.K (.ref mX) = true
 q8 : Addr
 BD : FuncData
 G4 : FunD S.K ("is_tie" : Str) ("is_tie" : Str) (defArgs (top 20)) (defBody (top 20)) (defScope (top 20)) [] [] q8 BD
 QI : S.mg ("is_tie" : Str) = some (.ref q8)
 JX : PySem.W.keepIn S.K (.ref q8) = true
 pG : Addr
 sD : FuncData
 zC : FunD S.K ("are_ties" : Str) ("are_ties" : Str) (defArgs (top 21)) (defBody (top 21)) (defScope (top 21)) [] [] pG sD
 FX : S.mg ("are_ties" : Str) = some (.ref pG)
 C9 : PySem.W.keepIn S.K (.ref pG) = true
 oU : Addr
 r9 : FuncData
 yO : FunD S.K ("is_field" : Str) ("is_field" : Str) (defArgs (top 22)) (defBody (top 22)) (defScope (top 22)) [] [] oU r9
 FJ : S.mg ("is_field" : Str) = some (.ref oU)
 DI : PySem.W.keepIn S.K (.ref oU) = true
 pL : Addr
 iG : FuncData
 jZ : FunD S.K ("__init__" : Str) ("Plan.__init__" : Str) (defArgs (inClass (top 24) 0)) (defBody (inClass (top 24) 0)) (defScope (inClass (top 24) 0)) [] [(("every" : Str), (.int 1)), (("lost" : Str), (.int 1)), (("slow" : Str), (.int 1)), (("bears" : Str), .non), (("gap" : Str), (.int 1)), (("hold" : Str), (.int 0)), (("takes" : Str), (.bl true)), (("ties" : Str), (.ref k.eD)), (("hosts" : Str), (.int 0))] pL iG
 HS : Mk S.K k.aF pL
 dY : Addr
 fH : FuncData
 hR : FunD S.K ("_law_left_out_right" : Str) ("_law_left_out_right" : Str) (defArgs (top 39)) (defBody (top 39)) (defScope (top 39)) [] [] dY fH
 lE : S.mg ("_law_left_out_right" : Str) = some (.ref dY)
 kE : PySem.W.keepIn S.K (.ref dY) = true
 mT : Addr
 pV : FuncData
 vD : FunD S.K ("_law_made" : Str) ("_law_made" : Str) (defArgs (top 30)) (defBody (top 30)) (defScope (top 30)) [] [] mT pV
 jW : S.mg ("_law_made" : Str) = some (.ref mT)
 iT : PySem.W.keepIn S.K (.ref mT) = true
 gE : Addr
 iR : FuncData
 l8 : FunD S.K ("_law_otherwise" : Str) ("_law_otherwise" : Str) (defArgs (top 37)) (defBody (top 37)) (defScope (top 37)) [] [] gE iR
 rB : S.mg ("_law_otherwise" : Str) = some (.ref gE)
 pX : PySem.W.keepIn S.K (.ref gE) = true
 nA : Addr
 pN : FuncData
 vP : FunD S.K ("_law_pick" : Str) ("_law_pick" : Str) (defArgs (top 28)) (defBody (top 28)) (defScope (top 28)) [] [] nA pN
 pU : S.mg ("_law_pick" : Str) = some (.ref nA)
 oA : PySem.W.keepIn S.K (.ref nA) = true
 mU : Addr
 qD : FuncData
 vT : FunD S.K ("_law_told" : Str) ("_law_told" : Str) (defArgs (top 29)) (defBody (top 29)) (defScope (top 29)) [] [] mU qD
 D1 : S.mg ("_law_told" : Str) = some (.ref mU)
 AB : PySem.W.keepIn S.K (.ref mU) = true
 LA : Addr
 YB : FuncData
 aEB : FunD S.K ("law" : Str) ("law" : Str) (defArgs (top 40)) (defBody (top 40)) (defScope (top 40)) [] [] LA YB
 aEK : S.mg ("law" : Str) = some (.ref LA)
 aFP : PySem.W.keepIn S.K (.ref LA) = true
 aAg : MW S.K
def lJ : List Str := [("self" : Str)]
def yC : List Str := [("self" : Str)]
abbrev GP : Scope := defScope (inClass (top 24) 2)
def pH (k : bH) : MS :=
 (a7 (aQ cX (aA (aD aS (bU k.aF ("ranks" : Str) (aB 0)) (eC (.int 0))) aE)))
def dQ (k : bH) : MF := bL (pH k) lJ
theorem Q5 : FnScope lJ yC GP := cE (by decide +kernel)
theorem RG {S : aP} (h : Fx S) : rR (S.body 0 lJ GP) (defBody (inClass (top 24) 2)) (pH h.k) :=
 (aZ (bQ (aW fR rfl h.iH rfl (aC (bF (dB h.bZ h.iU (jv 0)) aG) aH))))
theorem SO {S : aP} (h : Fx S) : eW S.P S.w S.K S.mg S.base 1 h.sZ h.sS yC (dQ h.k) := eW.of h.yQ Q5 (RG h) fun _ _ _ => .kS
theorem S8 {S : aP} (h : Fx S) : bO S.K h.sS yC 1 [] aM := bX h.yQ fun _ _ _ _ _ _ us hl => match us, hl with
 | [_], _ => rfl
def sH : List Str := [("some" : Str), ("one" : Str)]
def y5 : List Str := [("some" : Str)]
abbrev GJ : Scope := defScope (top 23)
def yL (k : bH) : MS :=
 (a7 (dD "str" joinM (eC (.str (" " : Str))) (aA (cG (eQ (aB 0)) [1] (aU 1) cL (aQ zD (aA (aB 1) aE))) aE)))
def mD (k : bH) : MF := bL (yL k) sH
theorem OT : FnScope sH y5 GJ := cE (by decide +kernel)
theorem RQ {S : aP} (h : Fx S) : rR (S.body 0 sH GJ) (defBody (top 23)) (yL h.k) :=
 (aZ (bQ (mN PySem.F.plainAttrs_str PySem.F.slot_str_join WI cM (aC (jG (own := [(("one" : Str), 1)]) (i8 (jv 0)) (by kernel_rfl) (QY 1) iV (iN aAP rfl h.WV rfl (aC (jv 1) aH))) aH))))
theorem uN {S : aP} (h : Fx S) : eW S.P S.w S.K S.mg S.base 1 h.pF h.sM y5 (mD h.k) := eW.of h.zB OT (RQ h) fun _ _ _ => .kS
theorem vE {S : aP} (h : Fx S) : bO S.K h.sM y5 1 [] aM := bX h.zB fun _ _ _ _ _ _ us hl => match us, hl with
 | [_], _ => rfl
def sA : List Str := [("self" : Str), ("numbers" : Str), ("lines" : Str), ("row" : Str), ("tie" : Str)]
def xX : List Str := [("self" : Str)]
abbrev HR : Scope := defScope (inClass (top 24) 4)
def xW (k : bH) : MS :=
 (aK (aT (eV (aA (bU k.aF ("every" : Str) (aB 0)) (aA (bU k.aF ("lost" : Str) (aB 0)) (aA (bU k.aF ("slow" : Str) (aB 0)) (aA (bU k.aF ("bears" : Str) (aB 0)) (aA (bU k.aF ("gap" : Str) (aB 0)) (aA (bU k.aF ("hold" : Str) (aB 0)) aE))))))) (aU 1))
 (aK (aT (eNew (aA (aJ (mD k) 1 aM (aA (aD bJ (aD bJ (eV (aA (eC (.str ("plan" : Str))) aE)) (aB 1)) (eV (aA (QD (cU (bU k.aF ("takes" : Str) (aB 0))) (eC (.str ("yes" : Str))) (eC (.str ("no" : Str)))) (aA (bU k.aF ("hosts" : Str) (aB 0)) aE)))) aE)) aE)) (aU 2))
 (aK (cV (dD "list" wU (aB 2) (aA (cG (eQ (bU k.aF ("ranks" : Str) (aB 0))) [3] (aU 3) cL (aJ (mD k) 1 aM (aA (aD bJ (bM (aA (eC (.str ("ranks" : Str))) aE)) (aB 3)) aE))) aE)))
 (aK (cV (dD "list" wU (aB 2) (aA (cG (eQ (bU k.aF ("ties" : Str) (aB 0))) [4] (aU 4) cL (aJ (mD k) 1 aM (aA (aD bJ (bM (aA (eC (.str ("tie" : Str))) aE)) (aB 4)) aE))) aE)))
 (a7 (dD "str" joinM (eC (.str ("\n" : Str))) (aA (aB 2) aE)))))))
def lI (k : bH) : MF := bL (xW k) sA
theorem RC : FnScope sA xX HR := cE (by decide +kernel)
theorem SD {S : aP} (h : Fx S) : rR (S.body 1 sA HR) (defBody (inClass (top 24) 4)) (xW h.k) :=
 (aO (t9 1 (dA (aC (dB h.bZ h.kJ (jv 0)) (aC (dB h.bZ h.mV (jv 0)) (aC (dB h.bZ h.nF (jv 0)) (aC (dB h.bZ h.kH (jv 0)) (aC (dB h.bZ h.pB (jv 0)) (aC (dB h.bZ h.mW (jv 0)) aH))))))))
 (aO (t9 2 (UK (aC (aV (ag rfl) (uN h) (vE h) rfl h.rS h.pJ (aC (bA cH (bA cH (dA (aC cM aH)) (jv 1)) (dA (aC (HA (cI (dB h.bZ h.kI (jv 0))) cM cM) (aC (dB h.bZ h.kR (jv 0)) aH)))) aH)) aH)))
 (aO (sV (mN PySem.F.plainAttrs_list PySem.F.slot_list_extend K4 (jv 2) (aC (jG (own := [(("row" : Str), 3)]) (i8 (dB h.bZ h.iU (jv 0))) (by kernel_rfl) (QY 3) iV (aV (ag rfl) (uN h) (vE h) rfl h.rS h.pJ (aC (bA cH (dC (aC cM aH)) (jv 3)) aH))) aH)))
 (aO (sV (mN PySem.F.plainAttrs_list PySem.F.slot_list_extend K4 (jv 2) (aC (jG (own := [(("tie" : Str), 4)]) (i8 (dB h.bZ h.m8 (jv 0))) (by kernel_rfl) (QY 4) iV (aV (ag rfl) (uN h) (vE h) rfl h.rS h.pJ (aC (bA cH (dC (aC cM aH)) (jv 4)) aH))) aH)))
 (aZ (bQ (mN PySem.F.plainAttrs_str PySem.F.slot_str_join WI cM (aC (jv 2) aH))))))))
theorem DC {S : aP} (h : Fx S) : eW S.P S.w S.K S.mg S.base 2 h.sT h.sP xX (lI h.k) := eW.of h.xZ RC (SD h) fun _ _ _ => .kS
theorem C5 {S : aP} (h : Fx S) : bO S.K h.sP xX 1 [] aM := bX h.xZ fun _ _ _ _ _ _ us hl => match us, hl with
 | [_], _ => rfl
def pK : List Str := [("self" : Str), ("text" : Str)]
def tV : List Str := [("self" : Str)]
abbrev DL : Scope := defScope (inClass (top 24) 5)
def tX (k : bH) : MS :=
 (aK (aT (aQ (GX zD k.aF (lI k)) (aA (aB 0) aE)) (aU 1))
 (a7 (eFs (xS (eC (.str ("Plan(" : Str))) (xS (KC (aB 1)) (xS (eC (.str (")" : Str))) aAd))))))
def nN (k : bH) : MF := bL (tX k) pK
theorem L8 : FnScope pK tV DL := cE (by decide +kernel)
theorem OG {S : aP} (h : Fx S) : rR (S.body 4 pK DL) (defBody (inClass (top 24) 5)) (tX h.k) :=
 (aO (t9 1 (iN (W9 (ag rfl) h.yP (DC h) (C5 h)) rfl h.WV rfl (aC (jv 0) aH)))
 (aZ (bQ (aHj (LP cM (LP (aDT (jv 1)) (LP cM aFJ))) (C3 (C3 (C3 aBz)))))))
theorem NQ {S : aP} (h : Fx S) : eW S.P S.w S.K S.mg S.base 5 h.pP h.pZ tV (nN h.k) := eW.of h.uX L8 (OG h) fun _ _ _ => .kS
theorem LO {S : aP} (h : Fx S) : bO S.K h.pZ tV 1 [] aM := bX h.uX fun _ _ _ _ _ _ us hl => match us, hl with
 | [_], _ => rfl
def uB : List Str := [("_law_script" : Str), ("_law_cells" : Str)]
def u9 : List Str := [("_law_script" : Str)]
abbrev C7 : Scope := defScope (top 26)
def DY (k : bH) : MS :=
 (aK (aT (aQ E7 (aA (oM g6 (aB 0) cW (cN (eC (.int 63)))) aE)) (aU 1))
 (a7 (GD (eI (eC (.str ("cells" : Str))) (aB 1) (eI (eC (.str ("at" : Str))) (eC (.int 0)) (eI (eC (.str ("sum" : Str))) (aD bJ (aD gP (aQ PM (aA (aB 1) aE)) (eC (.int 2147483629))) (aD mulM (eC (.int 17)) (aQ cX (aA (aB 1) aE)))) ID))))))
def uM (k : bH) : MF := bL (DY k) uB
theorem NK : FnScope uB u9 C7 := cE (by decide +kernel)
theorem N6 {S : aP} (h : Fx S) : rR (S.body 0 uB C7) (defBody (top 26)) (DY h.k) :=
 (aO (t9 1 (iN aAU rfl h.VN rfl (aC (nZ nV (jv 0) fZ (fY aG)) aH)))
 (aZ (bQ (TQ (jF cM (jv 1) (jF cM aG (jF cM (bA cH (bA jN (aW aFZ rfl h.aEN rfl (aC (jv 1) aH)) aG) (bA yD aG (aW fR rfl h.iH rfl (aC (jv 1) aH)))) V4)))))))
theorem MY {S : aP} (h : Fx S) : eW S.P S.w S.K S.mg S.base 1 h.mS h.qE u9 (uM h.k) := eW.of h.uL NK (N6 h) fun _ _ _ => .kS
theorem LZ {S : aP} (h : Fx S) : bO S.K h.qE u9 1 [] aM := bX h.uL fun _ _ _ _ _ _ us hl => match us, hl with
 | [_], _ => rfl
def uD : List Str := [("_law_deck_here" : Str), ("_law_bound" : Str), ("_law_at" : Str), ("_law_cells" : Str), ("_law_seed" : Str), ("_law_number" : Str)]
def u5 : List Str := [("_law_deck_here" : Str), ("_law_bound" : Str)]
abbrev D5 : Scope := defScope (top 27)
def DO (k : bH) : MS :=
 (aK (aT (aD bJ (aD aS (aB 0) (eC (.str ("at" : Str)))) (eC (.int 1))) (eJ (aB 0) (eC (.str ("at" : Str)))))
 (aK (aT (aD aS (aB 0) (eC (.str ("at" : Str)))) (aU 2))
 (aK (aT (aD aS (aB 0) (eC (.str ("cells" : Str)))) (aU 3))
 (aK (aT (aD bJ (aD aS (aB 0) (eC (.str ("sum" : Str)))) (aB 2)) (aU 4))
 (aK (dX (bC (aD pT (aB 3) (eV aE))) (aK (aT (dD "list" CY (aB 3) (aA (eC (.int 0)) aE)) (aU 4))
 (dX (bC (aD geM (aB 4) (aD U4 (eC (.int 10)) (eC (.int 18))))) (aK (cV (dD "list" wA (aB 3) (aA (eC (.int 0)) (aA (aD xJ (aB 4) (aB 1)) aE))))
 (a7 (aD gP (aB 4) (aB 1)))) aX)) aX)
 (aK (aT (aD gP (aD bJ (aD bJ (aD mulM (aD gP (aB 4) (eC (.int 2147483647))) (eC (.int 48271))) (aD mulM (aD mulM (eC (.int 69621)) (aB 2)) (aB 2))) (eC (.int 7919))) (eC (.int 2147483629))) (aU 5))
 (aK (aT (aD gP (aD mulM (aB 5) (aB 5)) (eC (.int 2147483587))) (aU 5))
 (a7 (aD gP (aD xJ (aD gP (aD mulM (aB 5) (aD bJ (aB 5) (eC (.int 39373)))) (eC (.int 2147483563))) (eC (.int 64))) (aB 1))))))))))
def bB (k : bH) : MF := bL (DO k) uD
theorem OA : FnScope uD u5 D5 := cE (by decide +kernel)
theorem NC {S : aP} (h : Fx S) : rR (S.body 0 uD D5) (defBody (top 27)) (DO h.k) :=
 (aO (CP (bA cH (bF (jv 0) cM) aG) (VF (jv 0) cM))
 (aO (t9 2 (bF (jv 0) cM))
 (aO (t9 3 (bF (jv 0) cM))
 (aO (t9 4 (bA cH (bF (jv 0) cM) (jv 2)))
 (aO (gH (eU tK (jv 3) (dA aH)) (aO (t9 4 (mN PySem.F.plainAttrs_list PySem.F.slot_list_pop aAr (jv 3) (aC aG aH)))
 (aZ (gH (eU aHJ (jv 4) (bA aGP aG aG)) (aO (sV (mN PySem.F.plainAttrs_list PySem.F.slot_list_insert Z6 (jv 3) (aC aG (aC (bA WZ (jv 4) (jv 1)) aH))))
 (aZ (bQ (bA jN (jv 4) (jv 1))))) cZ))) cZ)
 (aO (t9 5 (bA jN (bA cH (bA cH (bA yD (bA jN (jv 4) aG) aG) (bA yD (bA yD aG (jv 2)) (jv 2))) aG) aG))
 (aO (t9 5 (bA jN (bA yD (jv 5) (jv 5)) aG))
 (aZ (bQ (bA jN (bA WZ (bA jN (bA yD (jv 5) (bA cH (jv 5) aG)) aG) aG) (jv 1)))))))))))
theorem bV {S : aP} (h : Fx S) : eW S.P S.w S.K S.mg S.base 1 h.m3 h.pS u5 (bB h.k) := eW.of h.vG OA (NC h) fun _ _ _ => .kS
theorem bW {S : aP} (h : Fx S) : bO S.K h.pS u5 2 [] aM := bX h.vG fun _ _ _ _ _ _ us hl => match us, hl with
 | [_, _], _ => rfl
def h9 : List Str := [("_law_told_here" : Str)]
def kK : List Str := [("_law_told_here" : Str)]
abbrev pW : Scope := defScope (top 32)
def kU (k : bH) : MS :=
 (a7 (aQ iC (aA (aD bJ (aD bJ (oM g6 (aB 0) cW (cN (eC (.int 4)))) (eV (aA (QD (bC (aD isM (aD aS (aB 0) (eC (.int 4))) (eC .non))) (aD aS (aB 0) (eC (.int 2))) (aD aS (aB 0) (eC (.int 4)))) aE))) (oM g6 (aB 0) (cN (eC (.int 5))) cW)) aE)))
def dN (k : bH) : MF := bL (kU k) h9
theorem yS : FnScope h9 kK pW := cE (by decide +kernel)
theorem yY {S : aP} (h : Fx S) : rR (S.body 0 h9 pW) (defBody (top 32)) (kU h.k) :=
 (aZ (bQ (iN vH rfl h.hY rfl (aC (bA cH (bA cH (nZ nV (jv 0) fZ (fY aG)) (dA (aC (HA (eU YM (bF (jv 0) aG) sG) (bF (jv 0) aG) (bF (jv 0) aG)) aH))) (nZ nV (jv 0) (fY aG) fZ)) aH))))
theorem jT {S : aP} (h : Fx S) : eW S.P S.w S.K S.mg S.base 1 h.fL h.iA kK (dN h.k) := eW.of h.kM yS (yY h) fun _ _ _ => .kS
theorem jP {S : aP} (h : Fx S) : bO S.K h.iA kK 1 [] aM := bX h.kM fun _ _ _ _ _ _ us hl => match us, hl with
 | [_], _ => rfl
def fT : List Str := [("self" : Str), ("numbers" : Str)]
def qL : List Str := [("self" : Str)]
abbrev xU : Scope := defScope (inClass (top 24) 1)
def gS (k : bH) : MS :=
 (aK (aT (bM (aA (bU k.aF ("every" : Str) (aB 0)) (aA (bU k.aF ("lost" : Str) (aB 0)) (aA (bU k.aF ("slow" : Str) (aB 0)) (aA (bU k.aF ("bears" : Str) (aB 0)) (aA (bU k.aF ("gap" : Str) (aB 0)) (aA (bU k.aF ("hold" : Str) (aB 0)) aE))))))) (aU 1))
 (a7 (aD bJ (aD bJ (bM (aA (bU k.aF ("ranks" : Str) (aB 0)) aE)) (aB 1)) (bM (aA (bU k.aF ("takes" : Str) (aB 0)) (aA (bU k.aF ("ties" : Str) (aB 0)) (aA (bU k.aF ("hosts" : Str) (aB 0)) aE)))))))
def dJ (k : bH) : MF := bL (gS k) fT
theorem HM : FnScope fT qL xU := cE (by decide +kernel)
theorem FT {S : aP} (h : Fx S) : rR (S.body 0 fT xU) (defBody (inClass (top 24) 1)) (gS h.k) :=
 (aO (t9 1 (dC (aC (dB h.bZ h.kJ (jv 0)) (aC (dB h.bZ h.mV (jv 0)) (aC (dB h.bZ h.nF (jv 0)) (aC (dB h.bZ h.kH (jv 0)) (aC (dB h.bZ h.pB (jv 0)) (aC (dB h.bZ h.mW (jv 0)) aH))))))))
 (aZ (bQ (bA cH (bA cH (dC (aC (dB h.bZ h.iU (jv 0)) aH)) (jv 1)) (dC (aC (dB h.bZ h.kI (jv 0)) (aC (dB h.bZ h.m8 (jv 0)) (aC (dB h.bZ h.kR (jv 0)) aH))))))))
theorem vA {S : aP} (h : Fx S) : eW S.P S.w S.K S.mg S.base 1 h.mI h.mH qL (dJ h.k) := eW.of h.qU HM (FT h) fun _ _ _ => .kS
theorem uA {S : aP} (h : Fx S) : bO S.K h.mH qL 1 [] aM := bX h.qU fun _ _ _ _ _ _ us hl => match us, hl with
 | [_], _ => rfl
def oR : List Str := [("self" : Str), ("other" : Str)]
def CW : List Str := [("self" : Str), ("other" : Str)]
abbrev KZ : Scope := defScope (inClass (top 24) 3)
def oQ (k : bH) : MS :=
 (a7 (jS (aQ (fS (kcQ k.aF)) (aA (aB 1) (aA (eC (.con k.aF)) aE))) (aD gO (kP k.aF ("fields" : Str) (dJ k) 1 aM (aB 0) aE) (kP k.aF ("fields" : Str) (dJ k) 1 aM (aB 1) aE))))
def bN (k : bH) : MF := bL (oQ k) oR
theorem U6 : FnScope oR CW KZ := cE (by decide +kernel)
theorem U7 {S : aP} (h : Fx S) : rR (S.body 2 oR KZ) (defBody (inClass (top 24) 3)) (oQ h.k) :=
 (aZ (bQ (sR (aW (jQ (aFz h.aBG h.aCn)) rfl h.cF rfl (aC (jv 1) (aC (nU h.aBF) aH))) (yA (i6 vM (KA (ag rfl) h.bZ h.qT (vA h) (uA h) (jv 0)) (KA (ag rfl) h.bZ h.qT (vA h) (uA h) (jv 1)))))))
theorem lX {S : aP} (h : Fx S) : eW S.P S.w S.K S.mg S.base 3 h.wO h.wR CW (bN h.k) := eW.of h.B2 U6 (U7 h) fun _ _ _ => .kS
theorem lT {S : aP} (h : Fx S) : bO S.K h.wR CW 2 [] aM := bX h.B2 fun _ _ _ _ _ _ us hl => match us, hl with
 | [_, _], _ => rfl
def oC : List Str := [("_law_one" : Str), ("_law_other" : Str), ("_law_due" : Str), ("_law_found" : Str)]
def rV : List Str := [("_law_one" : Str), ("_law_other" : Str), ("_law_due" : Str)]
abbrev AV : Scope := defScope (top 38)
def rT (k : bH) : MS :=
 (aK (aT (eV (aA (aD (eqQ k.aF (bN k)) (aB 0) (aB 1)) (aA (aD (eqQ k.aF (bN k)) (aB 1) (aB 0)) (aA (A6 notM (aD (neQ k.aF (bN k)) (aB 0) (aB 1))) (aA (A6 notM (aD (neQ k.aF (bN k)) (aB 1) (aB 0))) (aA (aD (inQ k.aF (bN k)) (aB 0) (eV (aA (aB 1) aE))) (aA (aD (inQ k.aF (bN k)) (aB 1) (bM (aA (aB 0) (aA (aB 0) aE)))) aE))))))) (aU 3))
 (a7 (aD gO (aQ qZ (aA (aB 3) aE)) (aQ qZ (aA (aD mulM (eV (aA (aB 2) aE)) (eC (.int 6))) aE)))))
def c9 (k : bH) : MF := bL (rT k) oC
theorem IV : FnScope oC rV AV := cE (by decide +kernel)
theorem HZ {S : aP} (h : Fx S) : rR (S.body 4 oC AV) (defBody (top 38)) (rT h.k) :=
 (aO (t9 3 (dA (aC (i6 (aCD (ag rfl) h.y3 h.y4 h.lY (lX h) (lT h)) (jv 0) (jv 1)) (aC (i6 (aCD (ag rfl) h.y3 h.y4 h.lY (lX h) (lT h)) (jv 1) (jv 0)) (aC (GZ (i6 (aAE (ag rfl) h.y3 h.y4 h.UR h.lY (lX h) (lT h)) (jv 0) (jv 1))) (aC (GZ (i6 (aAE (ag rfl) h.y3 h.y4 h.UR h.lY (lX h) (lT h)) (jv 1) (jv 0))) (aC (i6 (aAn (ag rfl) h.y3 h.y4 h.lY (lX h) (lT h)) (jv 0) (dA (aC (jv 1) aH))) (aC (i6 (aAn (ag rfl) h.y3 h.y4 h.lY (lX h) (lT h)) (jv 1) (dC (aC (jv 0) (aC (jv 0) aH)))) aH))))))))
 (aZ (bQ (i6 vM (aW zU rfl h.qO rfl (aC (jv 3) aH)) (aW zU rfl h.qO rfl (aC (bA yD (dA (aC (jv 2) aH)) aG) aH))))))
theorem mM {S : aP} (h : Fx S) : eW S.P S.w S.K S.mg S.base 5 h.j9 h.oJ rV (c9 h.k) := eW.of h.sW IV (HZ h) fun _ _ _ => .kS
theorem mL {S : aP} (h : Fx S) : bO S.K h.oJ rV 3 [] aM := bX h.sW fun _ _ _ _ _ _ us hl => match us, hl with
 | [_, _, _], _ => rfl
def iZ : List Str := [("_law_it" : Str), ("_law_least" : Str), ("_law_bound" : Str)]
def lZ : List Str := [("_law_it" : Str), ("_law_least" : Str), ("_law_bound" : Str)]
abbrev rP : Scope := defScope (top 33)
def lU (k : bH) : MS :=
 (a7 (jS (aQ (fS iB) (aA (aB 0) (aA (eC (.ty "int")) aE))) (jS (A6 notM (aQ (fS iB) (aA (aB 0) (aA (eC (.ty "bool")) aE)))) (TF GU GU (aB 1) (aB 0) (aB 2)))))
def bS (k : bH) : MF := bL (lU k) iZ
theorem AD : FnScope iZ lZ rP := cE (by decide +kernel)
theorem AH {S : aP} (h : Fx S) : rR (S.body 0 iZ rP) (defBody (top 33)) (lU h.k) :=
 (aZ (bQ (sR (aW (jQ hZ) rfl h.cF rfl (aC (jv 0) (aC (kN rfl h.W7 rfl) aH))) (sR (GZ (aW (jQ hZ) rfl h.cF rfl (aC (jv 0) (aC (kN rfl h.FA rfl) aH)))) (yA (PZ vC vC (jv 1) (jv 0) (jv 2)))))))
theorem eR {S : aP} (h : Fx S) : eW S.P S.w S.K S.mg S.base 1 h.gC h.i0 lZ (bS h.k) := eW.of h.mC AD (AH h) fun _ _ _ => .kS
theorem eT {S : aP} (h : Fx S) : bO S.K h.i0 lZ 3 [] aM := bX h.mC fun _ _ _ _ _ _ us hl => match us, hl with
 | [_, _, _], _ => rfl
def iX : List Str := [("_law_it" : Str), ("_law_houses" : Str), ("_law_ahead" : Str), ("_law_one" : Str)]
def lS : List Str := [("_law_it" : Str), ("_law_houses" : Str)]
abbrev rD : Scope := defScope (top 35)
def lM (k : bH) : MS :=
 (aK (dX (fE (bT (cU (aQ (fS iB) (aA (aB 0) (aA (eC (.ty "tuple")) aE))))) (bC (aD NP (aQ cX (aA (aB 0) aE)) (eC (.int 6))))) (a7 (eC (.bl false))) aX)
 (aK (aT (bM (aA (A6 yR (eC (.int 1))) (aA (A6 yR (eC (.int 1))) aE))) (aU 2))
 (aK (fW (eQ (aB 0)) (aU 3) (aK (dX (fE (bT (cU (aQ (fS iB) (aA (aB 3) (aA (eC (.ty "tuple")) aE))))) (fE (bC (aD pT (aQ cX (aA (aB 3) aE)) (eC (.int 3)))) (bT (cU (aJ (bS k) 3 aM (aA (aD aS (aB 3) (eC (.int 0))) (aA (eC (.int 0)) (aA (aD kX (aB 1) (eC (.int 1))) aE)))))))) (a7 (eC (.bl false))) aX)
 (aK (dX (fE (bT (cU (aJ (bS k) 3 aM (aA (aD aS (aB 3) (eC (.int 1))) (aA (eC (.int 0)) (aA (eC (.int 9)) aE)))))) (fE (bT (cU (aJ (bS k) 3 aM (aA (aD aS (aB 3) (eC (.int 2))) (aA (eC (.int 1)) (aA (eC (.int 11)) aE)))))) (bC (aD leA (oM g6 (aB 3) cW (cN (eC (.int 2)))) (aB 2))))) (a7 (eC (.bl false))) aX)
 (aT (oM g6 (aB 3) cW (cN (eC (.int 2)))) (aU 2)))))
 (a7 (eC (.bl true))))))
def iW (k : bH) : MF := bL (lM k) iX
theorem AL : FnScope iX lS rD := cE (by decide +kernel)
theorem AW {S : aP} (h : Fx S) : rR (S.body 1 iX rD) (defBody (top 35)) (lM h.k) :=
 (aO (gH (zN (mQ (eB (cI (aW (jQ hZ) rfl h.cF rfl (aC (jv 0) (aC (kN rfl h.hY rfl) aH))))) (lO (eU aEv (aW fR rfl h.iH rfl (aC (jv 0) aH)) aG)))) (aZ (bQ hV)) cZ)
 (aO (t9 2 (dC (aC (aBu UW aG) (aC (aBu UW aG) aH))))
 (aO (sE (i8 (jv 0)) (NO 3) (aO (gH (zN (mQ (eB (cI (aW (jQ hZ) rfl h.cF rfl (aC (jv 3) (aC (kN rfl h.hY rfl) aH))))) (mQ (eU tK (aW fR rfl h.iH rfl (aC (jv 3) aH)) aG) (lO (eB (cI (aV (ag rfl) (eR h) (eT h) rfl h.eE h.dP (aC (bF (jv 3) aG) (aC aG (aC (bA UC (jv 1) aG) aH)))))))))) (aZ (bQ hV)) cZ)
 (aO (gH (zN (mQ (eB (cI (aV (ag rfl) (eR h) (eT h) rfl h.eE h.dP (aC (bF (jv 3) aG) (aC aG (aC aG aH)))))) (mQ (eB (cI (aV (ag rfl) (eR h) (eT h) rfl h.eE h.dP (aC (bF (jv 3) aG) (aC aG (aC aG aH)))))) (lO (eU aFf (nZ nV (jv 3) fZ (fY aG)) (jv 2)))))) (aZ (bQ hV)) cZ)
 (aZ (t9 2 (nZ nV (jv 3) fZ (fY aG)))))))
 (aZ (bQ hV)))))
theorem A9 {S : aP} (h : Fx S) : eW S.P S.w S.K S.mg S.base 2 h.gA h.iP lS (iW h.k) := eW.of h.lF AL (AW h) fun _ _ _ => .kS
theorem zS {S : aP} (h : Fx S) : bO S.K h.iP lS 2 [] aM := bX h.lF fun _ _ _ _ _ _ us hl => match us, hl with
 | [_, _], _ => rfl
def jC : List Str := [("_law_it" : Str), ("_law_row" : Str), ("_law_rank" : Str)]
def nP : List Str := [("_law_it" : Str)]
abbrev tM : Scope := defScope (top 34)
def nS (k : bH) : MS :=
 (aK (dX (fE (bT (cU (aQ (fS iB) (aA (aB 0) (aA (eC (.ty "tuple")) aE))))) (fE (bT (bC (TF GU GU (eC (.int 1)) (aQ cX (aA (aB 0) aE)) (eC (.int 4))))) (bC (aD pT (cG (eQ (aB 0)) [1] (aU 1) (bT (cU (aQ (fS iB) (aA (aB 1) (aA (eC (.ty "tuple")) aE))))) (aB 1)) (eV aE))))) (a7 (eC (.bl false))) aX)
 (aK (dX (bC (aD pT (cG (eQ (aB 0)) [1] (aU 1) (fE (bC (aD pT (aQ cX (aA (aB 1) aE)) (aQ cX (aA (aD aS (aB 0) (eC (.int 0))) aE)))) (bT (bC (TF GU GU (eC (.int 1)) (aQ cX (aA (aB 1) aE)) (eC (.int 6)))))) (aB 1)) (eV aE))) (a7 (eC (.bl false))) aX)
 (aK (fW (eQ (aB 0)) (aU 1) (dX (bC (aD pT (cG (eQ (aB 1)) [2] (aU 2) (bT (cU (aJ (bS k) 3 aM (aA (aB 2) (aA (eC (.int 1)) (aA (eC (.int 12)) aE)))))) (aB 2)) (eV aE))) (a7 (eC (.bl false))) aX))
 (a7 (eC (.bl true))))))
def jI (k : bH) : MF := bL (nS k) jC
theorem CU : FnScope jC nP tM := cE (by decide +kernel)
theorem CS {S : aP} (h : Fx S) : rR (S.body 1 jC tM) (defBody (top 34)) (nS h.k) :=
 (aO (gH (zN (mQ (eB (cI (aW (jQ hZ) rfl h.cF rfl (aC (jv 0) (aC (kN rfl h.hY rfl) aH))))) (mQ (eB (E6 vC vC aG (aW fR rfl h.iH rfl (aC (jv 0) aH)) aG)) (lO (eU tK (jG (own := [(("_law_row" : Str), 1)]) (i8 (jv 0)) (by kernel_rfl) (QY 1) (ND (eB (cI (aW (jQ hZ) rfl h.cF rfl (aC (jv 1) (aC (kN rfl h.hY rfl) aH)))))) (jv 1)) (dA aH)))))) (aZ (bQ hV)) cZ)
 (aO (gH (eU tK (jG (own := [(("_law_row" : Str), 1)]) (i8 (jv 0)) (by kernel_rfl) (QY 1) (ND (zN (mQ (eU tK (aW fR rfl h.iH rfl (aC (jv 1) aH)) (aW fR rfl h.iH rfl (aC (bF (jv 0) aG) aH))) (lO (eB (E6 vC vC aG (aW fR rfl h.iH rfl (aC (jv 1) aH)) aG)))))) (jv 1)) (dA aH)) (aZ (bQ hV)) cZ)
 (aO (sE (i8 (jv 0)) (NO 1) (aZ (gH (eU tK (jG (own := [(("_law_rank" : Str), 2)]) (i8 (jv 1)) (by kernel_rfl) (QY 2) (ND (eB (cI (aV (ag rfl) (eR h) (eT h) rfl h.eE h.dP (aC (jv 2) (aC aG (aC aG aH))))))) (jv 2)) (dA aH)) (aZ (bQ hV)) cZ)))
 (aZ (bQ hV)))))
theorem BZ {S : aP} (h : Fx S) : eW S.P S.w S.K S.mg S.base 2 h.gQ h.jK nP (jI h.k) := eW.of h.nO CU (CS h) fun _ _ _ => .kS
theorem BM {S : aP} (h : Fx S) : bO S.K h.jK nP 1 [] aM := bX h.nO fun _ _ _ _ _ _ us hl => match us, hl with
 | [_], _ => rfl
def oG : List Str := [("_law_told_here" : Str), ("_law_spans" : Str), ("_law_names" : Str), ("_law_k" : Str), ("_law_least" : Str), ("_law_bound" : Str)]
def sY : List Str := [("_law_told_here" : Str)]
abbrev AQ : Scope := defScope (top 36)
def sJ (k : bH) : MS :=
 (aK (dX (bT (cU (aJ (jI k) 1 aM (aA (aD aS (aB 0) (eC (.int 0))) aE)))) (a7 (eC (.str ("ranks" : Str)))) aX)
 (aK (aT (eV (aA (bM (aA (eC (.int 1)) (aA (eC (.int 5)) aE))) (aA (bM (aA (eC (.int 0)) (aA (eC (.int 3)) aE))) (aA (bM (aA (eC (.int 1)) (aA (eC (.int 4)) aE))) (aA (bM (aA (eC (.int 0)) (aA (eC (.int 3)) aE))) (aA (bM (aA (eC (.int 0)) (aA (eC (.int 3)) aE))) (aA (bM (aA (eC (.int 0)) (aA (eC (.int 20)) aE))) aE))))))) (aU 1))
 (aK (aT (eV (aA (eC (.str ("every" : Str))) (aA (eC (.str ("lost" : Str))) (aA (eC (.str ("slow" : Str))) (aA (eC (.str ("bears" : Str))) (aA (eC (.str ("gap" : Str))) (aA (eC (.str ("hold" : Str))) aE))))))) (aU 2))
 (aK (fW (fU nH (aA (eC (.int 6)) aE)) (aU 3) (aK (aT (aD aS (aB 1) (aB 3)) (cC 2 (aL (aU 4) (aL (aU 5) cA))))
 (dX (i4 (fE (bC (aD pT (aB 3) (eC (.int 3)))) (bC (aD sL (aD aS (aB 0) (eC (.int 4))) (eC .non)))) (bT (cU (aJ (bS k) 3 aM (aA (aD aS (aB 0) (aD bJ (aB 3) (eC (.int 1)))) (aA (aB 4) (aA (aB 5) aE))))))) (a7 (aD aS (aB 2) (aB 3))) aX)))
 (aK (dX (bT (cU (aQ (fS iB) (aA (aD aS (aB 0) (eC (.int 7))) (aA (eC (.ty "bool")) aE))))) (a7 (eC (.str ("takes" : Str)))) aX)
 (aK (dX (bT (cU (aJ (iW k) 2 aM (aA (aD aS (aB 0) (eC (.int 8))) (aA (aQ cX (aA (aD aS (aD aS (aB 0) (eC (.int 0))) (eC (.int 0))) aE)) aE))))) (a7 (eC (.str ("ties" : Str)))) aX)
 (a7 (QD (cU (aJ (bS k) 3 aM (aA (aD aS (aB 0) (eC (.int 9))) (aA (eC (.int 0)) (aA (eC (.int 4)) aE))))) (eC .non) (eC (.str ("hosts" : Str)))))))))))
def kT (k : bH) : MF := bL (sJ k) oG
theorem JM : FnScope oG sY AQ := cE (by decide +kernel)
theorem IP {S : aP} (h : Fx S) : rR (S.body 2 oG AQ) (defBody (top 36)) (sJ h.k) :=
 (aO (gH (eB (cI (aV (ag rfl) (BZ h) (BM h) rfl h.tN h.rJ (aC (bF (jv 0) aG) aH)))) (aZ (bQ cM)) cZ)
 (aO (t9 1 (dA (aC (dC (aC aG (aC aG aH))) (aC (dC (aC aG (aC aG aH))) (aC (dC (aC aG (aC aG aH))) (aC (dC (aC aG (aC aG aH))) (aC (dC (aC aG (aC aG aH))) (aC (dC (aC aG (aC aG aH))) aH))))))))
 (aO (t9 2 (dA (aC cM (aC cM (aC cM (aC cM (aC cM (aC cM aH))))))))
 (aO (sE (oO rfl h.sI (aC aG aH)) (NO 3) (aO (CP (bF (jv 1) (jv 3)) (FF (n := 2) (iK (NO 4) (iK (NO 5) BB))))
 (aZ (gH (zN (aFe (zN (mQ (eU tK (jv 3) aG) (lO (eU RH (bF (jv 0) aG) sG)))) (aEc (eB (cI (aV (ag rfl) (eR h) (eT h) rfl h.eE h.dP (aC (bF (jv 0) (bA cH (jv 3) aG)) (aC (jv 4) (aC (jv 5) aH))))))))) (aZ (bQ (bF (jv 2) (jv 3)))) cZ))))
 (aO (gH (eB (cI (aW (jQ hZ) rfl h.cF rfl (aC (bF (jv 0) aG) (aC (kN rfl h.FA rfl) aH))))) (aZ (bQ cM)) cZ)
 (aO (gH (eB (cI (aV (ag rfl) (A9 h) (zS h) rfl h.rF h.qB (aC (bF (jv 0) aG) (aC (aW fR rfl h.iH rfl (aC (bF (bF (jv 0) aG) aG) aH)) aH))))) (aZ (bQ cM)) cZ)
 (aZ (bQ (HA (cI (aV (ag rfl) (eR h) (eT h) rfl h.eE h.dP (aC (bF (jv 0) aG) (aC aG (aC aG aH))))) sG cM)))))))))
theorem IH {S : aP} (h : Fx S) : eW S.P S.w S.K S.mg S.base 3 h.kW h.n8 sY (kT h.k) := eW.of h.tI JM (IP h) fun _ _ _ => .kS
theorem IJ {S : aP} (h : Fx S) : bO S.K h.n8 sY 1 [] aM := bX h.tI fun _ _ _ _ _ _ us hl => match us, hl with
 | [_], _ => rfl
def mE : List Str := [("_law_plan_made" : Str), ("_law_found" : Str)]
def qS : List Str := [("_law_plan_made" : Str)]
abbrev xR : Scope := defScope (top 31)
def qK (k : bH) : MS :=
 (aK (aT (eV (aA (bU k.aF ("ranks" : Str) (aB 0)) (aA (bU k.aF ("every" : Str) (aB 0)) (aA (bU k.aF ("lost" : Str) (aB 0)) (aA (bU k.aF ("slow" : Str) (aB 0)) (aA (bU k.aF ("bears" : Str) (aB 0)) (aA (bU k.aF ("gap" : Str) (aB 0)) aE))))))) (aU 1))
 (a7 (aQ iC (aA (aD bJ (aB 1) (eV (aA (bU k.aF ("hold" : Str) (aB 0)) (aA (bU k.aF ("takes" : Str) (aB 0)) (aA (bU k.aF ("ties" : Str) (aB 0)) (aA (bU k.aF ("hosts" : Str) (aB 0)) aE)))))) aE))))
def dI (k : bH) : MF := bL (qK k) mE
theorem HH : FnScope mE qS xR := cE (by decide +kernel)
theorem GV {S : aP} (h : Fx S) : rR (S.body 0 mE xR) (defBody (top 31)) (qK h.k) :=
 (aO (t9 1 (dA (aC (dB h.bZ h.iU (jv 0)) (aC (dB h.bZ h.kJ (jv 0)) (aC (dB h.bZ h.mV (jv 0)) (aC (dB h.bZ h.nF (jv 0)) (aC (dB h.bZ h.kH (jv 0)) (aC (dB h.bZ h.pB (jv 0)) aH))))))))
 (aZ (bQ (iN vH rfl h.hY rfl (aC (bA cH (jv 1) (dA (aC (dB h.bZ h.mW (jv 0)) (aC (dB h.bZ h.kI (jv 0)) (aC (dB h.bZ h.m8 (jv 0)) (aC (dB h.bZ h.kR (jv 0)) aH)))))) aH)))))
theorem iL {S : aP} (h : Fx S) : eW S.P S.w S.K S.mg S.base 1 h.jB h.mG qS (dI h.k) := eW.of h.qR HH (GV h) fun _ _ _ => .kS
theorem iE {S : aP} (h : Fx S) : bO S.K h.mG qS 1 [] aM := bX h.qR fun _ _ _ _ _ _ us hl => match us, hl with
 | [_], _ => rfl
def gL : List Str := [("thing" : Str)]
def yW : List Str := [("thing" : Str)]
abbrev HP : Scope := defScope (top 17)
def jL (k : bH) : MS :=
 (a7 (jS (aQ (fS iB) (aA (aB 0) (aA (eC (.ty "int")) aE))) (A6 notM (aQ (fS iB) (aA (aB 0) (aA (eC (.ty "bool")) aE))))))
def gN (k : bH) : MF := bL (jL k) gL
theorem R7 : FnScope gL yW HP := cE (by decide +kernel)
theorem R9 {S : aP} (h : Fx S) : rR (S.body 0 gL HP) (defBody (top 17)) (jL h.k) :=
 (aZ (bQ (sR (aW (jQ hZ) rfl h.cF rfl (aC (jv 0) (aC (kN rfl h.W7 rfl) aH))) (yA (GZ (aW (jQ hZ) rfl h.cF rfl (aC (jv 0) (aC (kN rfl h.FA rfl) aH))))))))
theorem Q0 {S : aP} (h : Fx S) : eW S.P S.w S.K S.mg S.base 1 h.oT h.tG yW (gN h.k) := eW.of h.yU R7 (R9 h) fun _ _ _ => .kS
theorem SK {S : aP} (h : Fx S) : bO S.K h.tG yW 1 [] aM := bX h.yU fun _ _ _ _ _ _ us hl => match us, hl with
 | [_], _ => rfl
def fP : List Str := [("thing" : Str), ("least" : Str), ("most" : Str)]
def uO : List Str := [("thing" : Str), ("least" : Str), ("most" : Str)]
abbrev D3 : Scope := defScope (top 18)
def iJ (k : bH) : MS :=
 (a7 (jS (aJ (gN k) 1 aM (aA (aB 0) aE)) (TF GU GU (aB 1) (aB 0) (aB 2))))
def bG (k : bH) : MF := bL (iJ k) fP
theorem LY : FnScope fP uO D3 := cE (by decide +kernel)
theorem OM {S : aP} (h : Fx S) : rR (S.body 1 fP D3) (defBody (top 18)) (iJ h.k) :=
 (aZ (bQ (sR (aV (ag rfl) (Q0 h) (SK h) rfl h.GI h.DA (aC (jv 0) aH)) (yA (PZ vC vC (jv 1) (jv 0) (jv 2))))))
theorem kL {S : aP} (h : Fx S) : eW S.P S.w S.K S.mg S.base 2 h.nE h.pO uO (bG h.k) := eW.of h.uY LY (OM h) fun _ _ _ => .kS
theorem j6 {S : aP} (h : Fx S) : bO S.K h.pO uO 3 [] aM := bX h.uY fun _ _ _ _ _ _ us hl => match us, hl with
 | [_, _, _], _ => rfl
def jU : List Str := [("thing" : Str), ("row" : Str), ("rank" : Str)]
def uP : List Str := [("thing" : Str)]
abbrev DZ : Scope := defScope (top 19)
def nJ (k : bH) : MS :=
 (aK (dX (fE (bT (cU (aQ (fS iB) (aA (aB 0) (aA (eC (.ty "tuple")) aE))))) (bT (bC (TF GU GU (eC (.int 1)) (aQ cX (aA (aB 0) aE)) (eC (.int 4)))))) (a7 (eC (.bl false))) aX)
 (aK (dX (bT (cU (aQ allM (aA (cG (eQ (aB 0)) [1] (aU 1) cL (jS (aQ (fS iB) (aA (aB 1) (aA (eC (.ty "tuple")) aE))) (aD GU (aQ cX (aA (aB 1) aE)) (eC (.int 6))))) aE)))) (a7 (eC (.bl false))) aX)
 (aK (dX (fE (bC (aD gO (aD aS (aB 0) (eC (.int 0))) (bM aE))) (bT (cU (aQ allM (aA (cG (eQ (aB 0)) [1] (aU 1) cL (aD gO (aQ cX (aA (aB 1) aE)) (aQ cX (aA (aD aS (aB 0) (eC (.int 0))) aE)))) aE))))) (a7 (eC (.bl false))) aX)
 (a7 (aQ allM (aA (GR (eQ (aB 0)) [1, 2] (aU 1) cL (eQ (aB 1)) [2] (aU 2) cL (aJ (bG k) 3 aM (aA (aB 2) (aA (eC (.int 1)) (aA (eC (.int 12)) aE))))) aE))))))
def fQ (k : bH) : MF := bL (nJ k) jU
theorem M0 : FnScope jU uP DZ := cE (by decide +kernel)
theorem OH {S : aP} (h : Fx S) : rR (S.body 2 jU DZ) (defBody (top 19)) (nJ h.k) :=
 (aO (gH (zN (mQ (eB (cI (aW (jQ hZ) rfl h.cF rfl (aC (jv 0) (aC (kN rfl h.hY rfl) aH))))) (lO (eB (E6 vC vC aG (aW fR rfl h.iH rfl (aC (jv 0) aH)) (nU h.q9)))))) (aZ (bQ hV)) cZ)
 (aO (gH (eB (cI (aW HV rfl h.LI rfl (aC (jG (own := [(("row" : Str), 1)]) (i8 (jv 0)) (by kernel_rfl) (QY 1) iV (sR (aW (jQ hZ) rfl h.cF rfl (aC (jv 1) (aC (kN rfl h.hY rfl) aH))) (yA (i6 vC (aW fR rfl h.iH rfl (aC (jv 1) aH)) (nU h.xT))))) aH)))) (aZ (bQ hV)) cZ)
 (aO (gH (zN (mQ (eU vM (bF (jv 0) aG) (dC aH)) (lO (eB (cI (aW HV rfl h.LI rfl (aC (jG (own := [(("row" : Str), 1)]) (i8 (jv 0)) (by kernel_rfl) (QY 1) iV (i6 vM (aW fR rfl h.iH rfl (aC (jv 1) aH)) (aW fR rfl h.iH rfl (aC (bF (jv 0) aG) aH)))) aH))))))) (aZ (bQ hV)) cZ)
 (aZ (bQ (aW HV rfl h.LI rfl (aC (aCk (own := [(("row" : Str), 1), (("rank" : Str), 2)]) (vs1 := [2]) (i8 (jv 0)) (by kernel_rfl) (QY 1) iV (i8 (jv 1)) (QY 2) iV (aV (ag rfl) (kL h) (j6 h) rfl h.jV h.i3 (aC (jv 2) (aC aG (aC (nU h.aAQ) aH))))) aH)))))))
theorem MR {S : aP} (h : Fx S) : eW S.P S.w S.K S.mg S.base 3 h.mX h.qC uP (fQ h.k) := eW.of h.vU M0 (OH h) fun _ _ _ => .kS
theorem L5 {S : aP} (h : Fx S) : bO S.K h.qC uP 1 [] aM := bX h.vU fun _ _ _ _ _ _ us hl => match us, hl with
 | [_], _ => rfl
def rQ : List Str := [("thing" : Str), ("houses" : Str), ("house" : Str), ("tie" : Str), ("less" : Str)]
def FQ : List Str := [("thing" : Str), ("houses" : Str)]
abbrev P1 : Scope := defScope (top 20)
def vJ (k : bH) : MS :=
 (aK (dX (fE (bT (cU (aQ (fS iB) (aA (aB 0) (aA (eC (.ty "tuple")) aE))))) (bC (aD pT (aQ cX (aA (aB 0) aE)) (eC (.int 3))))) (a7 (eC (.bl false))) aX)
 (aK (aT (aB 0) (cC 3 (aL (aU 2) (aL (aU 3) (aL (aU 4) cA)))))
 (a7 (jS (aJ (bG k) 3 aM (aA (aB 2) (aA (eC (.int 0)) (aA (aD kX (aB 1) (eC (.int 1))) aE)))) (jS (aJ (bG k) 3 aM (aA (aB 3) (aA (eC (.int 0)) (aA (eC (.int 9)) aE)))) (aJ (bG k) 3 aM (aA (aB 4) (aA (eC (.int 1)) (aA (eC (.int 11)) aE)))))))))
def rK (k : bH) : MF := bL (vJ k) rQ
theorem ZE : FnScope rQ FQ P1 := cE (by decide +kernel)
theorem YS {S : aP} (h : Fx S) : rR (S.body 2 rQ P1) (defBody (top 20)) (vJ h.k) :=
 (aO (gH (zN (mQ (eB (cI (aW (jQ hZ) rfl h.cF rfl (aC (jv 0) (aC (kN rfl h.hY rfl) aH))))) (lO (eU tK (aW fR rfl h.iH rfl (aC (jv 0) aH)) aG)))) (aZ (bQ hV)) cZ)
 (aO (CP (jv 0) (FF (n := 3) (iK (NO 2) (iK (NO 3) (iK (NO 4) BB)))))
 (aZ (bQ (sR (aV (ag rfl) (kL h) (j6 h) rfl h.jV h.i3 (aC (jv 2) (aC aG (aC (bA UC (jv 1) aG) aH)))) (sR (aV (ag rfl) (kL h) (j6 h) rfl h.jV h.i3 (aC (jv 3) (aC aG (aC (nU h.E3) aH)))) (yA (aV (ag rfl) (kL h) (j6 h) rfl h.jV h.i3 (aC (jv 4) (aC aG (aC (nU h.D7) aH)))))))))))
theorem Z1 {S : aP} (h : Fx S) : eW S.P S.w S.K S.mg S.base 3 h.q8 h.BD FQ (rK h.k) := eW.of h.G4 ZE (YS h) fun _ _ _ => .kS
theorem Y5 {S : aP} (h : Fx S) : bO S.K h.BD FQ 2 [] aM := bX h.G4 fun _ _ _ _ _ _ us hl => match us, hl with
 | [_, _], _ => rfl
def jO : List Str := [("thing" : Str), ("houses" : Str), ("one" : Str), ("other" : Str)]
def yX : List Str := [("thing" : Str), ("houses" : Str)]
abbrev FP : Scope := defScope (top 21)
def lK (k : bH) : MS :=
 (aK (dX (fE (bT (cU (aQ (fS iB) (aA (aB 0) (aA (eC (.ty "tuple")) aE))))) (fE (bC (aD NP (aQ cX (aA (aB 0) aE)) (eC (.int 6)))) (bT (cU (aQ allM (aA (cG (eQ (aB 0)) [2] (aU 2) cL (aJ (rK k) 2 aM (aA (aB 2) (aA (aB 1) aE)))) aE)))))) (a7 (eC (.bl false))) aX)
 (a7 (aQ allM (aA (cG (fU zsM (aA (oM g6 (aB 0) cW (cN (A6 yR (eC (.int 1))))) (aA (oM g6 (aB 0) (cN (eC (.int 1))) cW) aE))) [2, 3] (cC 2 (aL (aU 2) (aL (aU 3) cA))) cL (aD SR (oM g6 (aB 2) cW (cN (eC (.int 2)))) (oM g6 (aB 3) cW (cN (eC (.int 2)))))) aE))))
def iD (k : bH) : MF := bL (lK k) jO
theorem Q1 : FnScope jO yX FP := cE (by decide +kernel)
theorem SW {S : aP} (h : Fx S) : rR (S.body 3 jO FP) (defBody (top 21)) (lK h.k) :=
 (aO (gH (zN (mQ (eB (cI (aW (jQ hZ) rfl h.cF rfl (aC (jv 0) (aC (kN rfl h.hY rfl) aH))))) (mQ (eU aEv (aW fR rfl h.iH rfl (aC (jv 0) aH)) (nU h.DQ)) (lO (eB (cI (aW HV rfl h.LI rfl (aC (jG (own := [(("one" : Str), 2)]) (i8 (jv 0)) (by kernel_rfl) (QY 2) iV (aV (ag rfl) (Z1 h) (Y5 h) rfl h.QI h.JX (aC (jv 2) (aC (jv 1) aH)))) aH)))))))) (aZ (bQ hV)) cZ)
 (aZ (bQ (aW HV rfl h.LI rfl (aC (jG (own := [(("one" : Str), 2), (("other" : Str), 3)]) (aHS rfl h.aEE (aC (nZ nV (jv 0) fZ (fY (aBu UW aG))) (aC (nZ nV (jv 0) (fY aG) fZ) aH))) (by kernel_rfl) (aF2 (n := 2) (SJ (QY 2) (SJ (QY 3) aEa))) iV (i6 aEO (nZ nV (jv 2) fZ (fY aG)) (nZ nV (jv 3) fZ (fY aG)))) aH)))))
theorem P7 {S : aP} (h : Fx S) : eW S.P S.w S.K S.mg S.base 4 h.pG h.sD yX (iD h.k) := eW.of h.zC Q1 (SW h) fun _ _ _ => .kS
theorem S1 {S : aP} (h : Fx S) : bO S.K h.sD yX 2 [] aM := bX h.zC fun _ _ _ _ _ _ us hl => match us, hl with
 | [_, _], _ => rfl
def lH : List Str := [("name" : Str), ("thing" : Str), ("houses" : Str), ("least" : Str), ("most" : Str)]
def yN : List Str := [("name" : Str), ("thing" : Str), ("houses" : Str)]
abbrev GH : Scope := defScope (top 22)
def iI (k : bH) : MS :=
 (aK (dX (bC (aD (ZD k.eS dW) (aB 0) (eC (.con k.eS)))) (aK (aT (aD (U2 k.eS dW) (eC (.con k.eS)) (aB 0)) (cC 2 (aL (aU 3) (aL (aU 4) cA))))
 (a7 (aJ (bG k) 3 aM (aA (aB 1) (aA (aB 3) (aA (aB 4) aE)))))) aX)
 (aK (dX (bC (aD gO (aB 0) (eC (.str ("takes" : Str))))) (a7 (aQ (fS iB) (aA (aB 1) (aA (eC (.ty "bool")) aE)))) aX)
 (a7 (aJ (iD k) 2 aM (aA (aB 1) (aA (aB 2) aE))))))
def cK (k : bH) : MF := bL (iI k) lH
theorem QN : FnScope lH yN GH := cE (by decide +kernel)
theorem QH {S : aP} (h : Fx S) : rR (S.body 4 lH GH) (defBody (top 22)) (iI h.k) :=
 (aO (gH (eU (aF5 h.CC) (jv 0) (nU h.C4)) (aO (CP (aGx h.CC (nU h.C4) (jv 0)) (FF (n := 2) (iK (NO 3) (iK (NO 4) BB))))
 (aZ (bQ (aV (ag rfl) (kL h) (j6 h) rfl h.jV h.i3 (aC (jv 1) (aC (jv 3) (aC (jv 4) aH))))))) cZ)
 (aO (gH (eU vM (jv 0) cM) (aZ (bQ (aW (jQ hZ) rfl h.cF rfl (aC (jv 1) (aC (kN rfl h.FA rfl) aH))))) cZ)
 (aZ (bQ (aV (ag rfl) (P7 h) (S1 h) rfl h.FX h.C9 (aC (jv 1) (aC (jv 2) aH)))))))
theorem RM {S : aP} (h : Fx S) : eW S.P S.w S.K S.mg S.base 5 h.oU h.r9 yN (cK h.k) := eW.of h.yO QN (QH h) fun _ _ _ => .kS
theorem SF {S : aP} (h : Fx S) : bO S.K h.r9 yN 3 [] aM := bX h.yO fun _ _ _ _ _ _ us hl => match us, hl with
 | [_, _, _], _ => rfl
def gI : List Str := [("self" : Str), ("ranks" : Str), ("every" : Str), ("lost" : Str), ("slow" : Str), ("bears" : Str), ("gap" : Str), ("hold" : Str), ("takes" : Str), ("ties" : Str), ("hosts" : Str), ("borne" : Str), ("told" : Str), ("name" : Str), ("thing" : Str)]
def j4 : List Str := [("self" : Str), ("ranks" : Str), ("every" : Str), ("lost" : Str), ("slow" : Str), ("bears" : Str), ("gap" : Str), ("hold" : Str), ("takes" : Str), ("ties" : Str), ("hosts" : Str)]
abbrev DJ : Scope := defScope (inClass (top 24) 0)
def nC (k : bH) : MS :=
 (aK (dX (bT (cU (aJ (fQ k) 1 aM (aA (aB 1) aE)))) N7 aX)
 (aK (aT (QD (bC (aD isM (aB 5) (eC .non))) (aB 3) (aB 5)) (aU 11))
 (aK (aT (GD (eI (eC (.str ("every" : Str))) (aB 2) (eI (eC (.str ("lost" : Str))) (aB 3) (eI (eC (.str ("slow" : Str))) (aB 4) (eI (eC (.str ("bears" : Str))) (aB 11) (eI (eC (.str ("gap" : Str))) (aB 6) (eI (eC (.str ("hold" : Str))) (aB 7) (eI (eC (.str ("takes" : Str))) (aB 8) ID)))))))) (aU 12))
 (aK (cV (dD "dict" U5 (aB 12) (aA (GD (eI (eC (.str ("ties" : Str))) (aB 9) (eI (eC (.str ("hosts" : Str))) (aB 10) ID))) aE)))
 (aK (fW (wM (aB 12)) (cC 2 (aL (aU 13) (aL (aU 14) cA))) (dX (bT (cU (aJ (cK k) 3 aM (aA (aB 13) (aA (aB 14) (aA (aQ cX (aA (aD aS (aB 1) (eC (.int 0))) aE)) aE)))))) N7 aX))
 (aK (dH k.aF ("ranks" : Str) (aB 0) (aB 1))
 (aK (dH k.aF ("every" : Str) (aB 0) (aB 2))
 (aK (dH k.aF ("lost" : Str) (aB 0) (aB 3))
 (aK (dH k.aF ("slow" : Str) (aB 0) (aB 4))
 (aK (dH k.aF ("bears" : Str) (aB 0) (aB 11))
 (aK (dH k.aF ("gap" : Str) (aB 0) (aB 6))
 (aK (dH k.aF ("hold" : Str) (aB 0) (aB 7))
 (aK (dH k.aF ("takes" : Str) (aB 0) (aB 8))
 (aK (dH k.aF ("ties" : Str) (aB 0) (aB 9))
 (dH k.aF ("hosts" : Str) (aB 0) (aB 10))))))))))))))))
def eO (k : bH) : MF := bL (nC k) gI
theorem L7 : FnScope gI j4 DJ := cE (by decide +kernel)
theorem NZ {S : aP} (h : Fx S) : rR (S.body 5 gI DJ) (defBody (inClass (top 24) 0)) (nC h.k) :=
 (aO (gH (eB (cI (aV (ag rfl) (MR h) (L5 h) rfl h.DX h.zJ (aC (jv 1) aH)))) (aZ aCg) cZ)
 (aO (t9 11 (HA (eU YM (jv 5) sG) (jv 3) (jv 5)))
 (aO (t9 12 (TQ (jF cM (jv 2) (jF cM (jv 3) (jF cM (jv 4) (jF cM (jv 11) (jF cM (jv 6) (jF cM (jv 7) (jF cM (jv 8) V4)))))))))
 (aO (sV (mN PySem.F.plainAttrs_dict PySem.F.slot_dict_update YW (jv 12) (aC (TQ (jF cM (jv 9) (jF cM (jv 10) V4))) aH)))
 (aO (sE (aB4 (jv 12)) (FF (n := 2) (iK (NO 13) (iK (NO 14) BB))) (aZ (gH (eB (cI (aV (ag rfl) (RM h) (SF h) rfl h.FJ h.DI (aC (jv 13) (aC (jv 14) (aC (aW fR rfl h.iH rfl (aC (bF (jv 1) aG) aH)) aH)))))) (aZ aCg) cZ)))
 (aO (gT h.bZ h.iU (jv 0) (jv 1))
 (aO (gT h.bZ h.kJ (jv 0) (jv 2))
 (aO (gT h.bZ h.mV (jv 0) (jv 3))
 (aO (gT h.bZ h.nF (jv 0) (jv 4))
 (aO (gT h.bZ h.kH (jv 0) (jv 11))
 (aO (gT h.bZ h.pB (jv 0) (jv 6))
 (aO (gT h.bZ h.mW (jv 0) (jv 7))
 (aO (gT h.bZ h.kI (jv 0) (jv 8))
 (aO (gT h.bZ h.m8 (jv 0) (jv 9))
 (aZ (gT h.bZ h.kR (jv 0) (jv 10)))))))))))))))))
theorem oD {S : aP} (h : Fx S) : eW S.P S.w S.K S.mg S.base 6 h.pL h.iG j4 (eO h.k) := eW.of h.jZ L7 (NZ h) fun _ _ _ => .kS
abbrev uH (k : bH) : List D → List D → List D := fun xs zs => j7 [(0, 0), (0, 1), (2, 0), (2, 1), (2, 2), (2, 3), (2, 4), (2, 5), (2, 6), (2, 7), (2, 8)] xs zs [(.int 1), (.int 1), (.int 1), .non, (.int 1), (.int 0), (.bl true), (.gY []), (.int 0)]
theorem EH {S : aP} (h : Fx S) : bO S.K h.iG j4 2 [] (uH h.k) := AN h.jZ 2 _ [(("every" : Str), (.int 1)), (("lost" : Str), (.int 1)), (("slow" : Str), (.int 1)), (("bears" : Str), .non), (("gap" : Str), (.int 1)), (("hold" : Str), (.int 0)), (("takes" : Str), (.bl true)), (("ties" : Str), (.ref h.k.eD)), (("hosts" : Str), (.int 0))] _ _ (by simp) (by simp) (fun I F => RepL.cons (by simp [aI]) (RepL.cons (by simp [aI]) (RepL.cons (by simp [aI]) (RepL.cons (by simp [aI]) (RepL.cons (by simp [aI]) (RepL.cons (by simp [aI]) (RepL.cons (by simp [aI]) (RepL.cons (h.iY I F) (RepL.cons (by simp [aI]) (by simp [RepL])))))))))) (fun _ _ _ _ _ _ us mv ws h1 h2 h3 => match us, mv, ws, h1, h2, h3 with
 | [_, _], [_, _, _, _, _, _, _, _, _], [], _, _, _ => ⟨_, _, _, _, _, _, rfl, rfl, ⟨_, _, _, _, _, _, rfl, rfl, ⟨_, _, _, _, _, _, rfl, rfl, ⟨_, _, _, _, _, _, rfl, rfl, ⟨_, _, _, _, _, _, rfl, rfl, ⟨_, _, _, _, _, _, rfl, rfl, ⟨_, _, _, _, _, _, rfl, rfl, ⟨_, _, _, _, _, _, rfl, rfl, ⟨_, _, _, _, _, _, rfl, rfl, rfl⟩⟩⟩⟩⟩⟩⟩⟩⟩) fun xs zs h1 h2 => match xs, zs, h1, h2 with
 | [_, _], [], _, _ => rfl
abbrev a9 (k : bH) : List D → List D → List D := fun xs zs => j7 [(0, 0), (0, 1), (1, 8), (1, 7), (1, 6), (1, 5), (1, 4), (1, 3), (1, 2), (1, 1), (1, 0)] xs zs []
theorem dR {S : aP} (h : Fx S) : bO S.K h.iG j4 2 [("hosts" : Str), ("ties" : Str), ("takes" : Str), ("hold" : Str), ("gap" : Str), ("bears" : Str), ("slow" : Str), ("lost" : Str), ("every" : Str)] (a9 h.k) := AN h.jZ 2 _ [] _ _ (by simp) (by simp) (fun I F => by simp [RepL]) (fun _ _ _ _ _ _ us mv ws h1 h2 h3 => match us, mv, ws, h1, h2, h3 with
 | [_, _], [], [_, _, _, _, _, _, _, _, _], _, _, _ => rfl) fun xs zs h1 h2 => match xs, zs, h1, h2 with
 | [_, _], [_, _, _, _, _, _, _, _, _], _, _ => rfl
abbrev oZ (k : bH) : List D → List D → List D := fun xs zs => j7 [(0, 0), (0, 1), (2, 0), (1, 0), (2, 1), (2, 2), (2, 3), (2, 4), (2, 5), (2, 6), (2, 7)] xs zs [(.int 1), (.int 1), .non, (.int 1), (.int 0), (.bl true), (.gY []), (.int 0)]
theorem wZ {S : aP} (h : Fx S) : bO S.K h.iG j4 2 [("lost" : Str)] (oZ h.k) := AN h.jZ 2 _ [(("every" : Str), (.int 1)), (("slow" : Str), (.int 1)), (("bears" : Str), .non), (("gap" : Str), (.int 1)), (("hold" : Str), (.int 0)), (("takes" : Str), (.bl true)), (("ties" : Str), (.ref h.k.eD)), (("hosts" : Str), (.int 0))] _ _ (by simp) (by simp) (fun I F => RepL.cons (by simp [aI]) (RepL.cons (by simp [aI]) (RepL.cons (by simp [aI]) (RepL.cons (by simp [aI]) (RepL.cons (by simp [aI]) (RepL.cons (by simp [aI]) (RepL.cons (h.iY I F) (RepL.cons (by simp [aI]) (by simp [RepL]))))))))) (fun _ _ _ _ _ _ us mv ws h1 h2 h3 => match us, mv, ws, h1, h2, h3 with
 | [_, _], [_, _, _, _, _, _, _, _], [_], _, _, _ => ⟨_, _, _, _, _, _, rfl, rfl, ⟨_, _, _, _, _, _, rfl, rfl, ⟨_, _, _, _, _, _, rfl, rfl, ⟨_, _, _, _, _, _, rfl, rfl, ⟨_, _, _, _, _, _, rfl, rfl, ⟨_, _, _, _, _, _, rfl, rfl, ⟨_, _, _, _, _, _, rfl, rfl, ⟨_, _, _, _, _, _, rfl, rfl, rfl⟩⟩⟩⟩⟩⟩⟩⟩) fun xs zs h1 h2 => match xs, zs, h1, h2 with
 | [_, _], [_], _, _ => rfl
abbrev pE (k : bH) : List D → List D → List D := fun xs zs => j7 [(0, 0), (0, 1), (2, 0), (2, 1), (1, 0), (2, 2), (2, 3), (2, 4), (2, 5), (2, 6), (2, 7)] xs zs [(.int 1), (.int 1), .non, (.int 1), (.int 0), (.bl true), (.gY []), (.int 0)]
theorem wY {S : aP} (h : Fx S) : bO S.K h.iG j4 2 [("slow" : Str)] (pE h.k) := AN h.jZ 2 _ [(("every" : Str), (.int 1)), (("lost" : Str), (.int 1)), (("bears" : Str), .non), (("gap" : Str), (.int 1)), (("hold" : Str), (.int 0)), (("takes" : Str), (.bl true)), (("ties" : Str), (.ref h.k.eD)), (("hosts" : Str), (.int 0))] _ _ (by simp) (by simp) (fun I F => RepL.cons (by simp [aI]) (RepL.cons (by simp [aI]) (RepL.cons (by simp [aI]) (RepL.cons (by simp [aI]) (RepL.cons (by simp [aI]) (RepL.cons (by simp [aI]) (RepL.cons (h.iY I F) (RepL.cons (by simp [aI]) (by simp [RepL]))))))))) (fun _ _ _ _ _ _ us mv ws h1 h2 h3 => match us, mv, ws, h1, h2, h3 with
 | [_, _], [_, _, _, _, _, _, _, _], [_], _, _, _ => ⟨_, _, _, _, _, _, rfl, rfl, ⟨_, _, _, _, _, _, rfl, rfl, ⟨_, _, _, _, _, _, rfl, rfl, ⟨_, _, _, _, _, _, rfl, rfl, ⟨_, _, _, _, _, _, rfl, rfl, ⟨_, _, _, _, _, _, rfl, rfl, ⟨_, _, _, _, _, _, rfl, rfl, ⟨_, _, _, _, _, _, rfl, rfl, rfl⟩⟩⟩⟩⟩⟩⟩⟩) fun xs zs h1 h2 => match xs, zs, h1, h2 with
 | [_, _], [_], _, _ => rfl
def fI : List Str := [("_law_told_here" : Str), ("_law_rows" : Str), ("_law_found" : Str), ("_law_due" : Str)]
def gZ : List Str := [("_law_told_here" : Str)]
abbrev lA : Scope := defScope (top 39)
def gX (k : bH) : MS :=
 (aK (aT (aD aS (aB 0) (eC (.int 0))) (aU 1))
 (aK (aT (eV (aA (aJ (dI k) 1 aM (aA (r4 k.aF (eO k) 1 0 (uH k) (aA (aB 1) aE) aE) aE)) (aA (aJ (dI k) 1 aM (aA (r4 k.aF (eO k) 1 1 (oZ k) (aA (aB 1) aE) (aA (aD aS (aB 0) (eC (.int 2))) aE)) aE)) (aA (aJ (dI k) 1 aM (aA (r4 k.aF (eO k) 1 1 (pE k) (aA (aB 1) aE) (aA (aD aS (aB 0) (eC (.int 3))) aE)) aE)) aE)))) (aU 2))
 (aK (aT (eNew (aA (bM (aA (aB 1) (aA (eC (.int 1)) (aA (eC (.int 1)) (aA (eC (.int 1)) (aA (eC (.int 1)) (aA (eC (.int 1)) (aA (eC (.int 0)) (aA (eC (.bl true)) (aA (bM aE) (aA (eC (.int 0)) aE))))))))))) (aA (bM (aA (aB 1) (aA (eC (.int 1)) (aA (aD aS (aB 0) (eC (.int 2))) (aA (eC (.int 1)) (aA (aD aS (aB 0) (eC (.int 2))) (aA (eC (.int 1)) (aA (eC (.int 0)) (aA (eC (.bl true)) (aA (bM aE) (aA (eC (.int 0)) aE))))))))))) aE))) (aU 3))
 (aK (cV (dD "list" c8 (aB 3) (aA (bM (aA (aB 1) (aA (eC (.int 1)) (aA (eC (.int 1)) (aA (aD aS (aB 0) (eC (.int 3))) (aA (eC (.int 1)) (aA (eC (.int 1)) (aA (eC (.int 0)) (aA (eC (.bl true)) (aA (bM aE) (aA (eC (.int 0)) aE))))))))))) aE)))
 (a7 (jS (aD gO (aQ qZ (aA (aB 2) aE)) (aQ qZ (aA (aB 3) aE))) (aD gO (bM (aA (eC (.int 1)) (aA (eC (.int 1)) (aA (eC (.int 1)) (aA (eC (.int 1)) (aA (eC (.int 0)) (aA (eC (.int 12)) (aA (eC (.int 1000)) aE)))))))) (bM (aA (eC (.int 1)) (aA (eC (.int 1)) (aA (eC (.int 1)) (aA (eC (.int 1)) (aA (eC (.int 0)) (aA (eC (.int 12)) (aA (eC (.int 1000)) aE)))))))))))))))
def dZ (k : bH) : MF := bL (gX k) fI
theorem tF : FnScope fI gZ lA := cE (by decide +kernel)
theorem rX {S : aP} (h : Fx S) : rR (S.body 7 fI lA) (defBody (top 39)) (gX h.k) :=
 (aO (t9 1 (bF (jv 0) aG))
 (aO (t9 2 (dA (aC (aV (ag rfl) (iL h) (iE h) rfl h.gR h.gB (aC (jmk (ag rfl) h.HS (oD h) (EH h) rfl h.zG (aC (jv 1) aH) MZ) aH)) (aC (aV (ag rfl) (iL h) (iE h) rfl h.gR h.gB (aC (jmk (ag rfl) h.HS (oD h) (wZ h) rfl h.zG (aC (jv 1) aH) (j8 (bF (jv 0) aG) MZ)) aH)) (aC (aV (ag rfl) (iL h) (iE h) rfl h.gR h.gB (aC (jmk (ag rfl) h.HS (oD h) (wY h) rfl h.zG (aC (jv 1) aH) (j8 (bF (jv 0) aG) MZ)) aH)) aH)))))
 (aO (t9 3 (UK (aC (dC (aC (jv 1) (aC aG (aC aG (aC aG (aC aG (aC aG (aC aG (aC hV (aC (dC aH) (aC aG aH))))))))))) (aC (dC (aC (jv 1) (aC aG (aC (bF (jv 0) aG) (aC aG (aC (bF (jv 0) aG) (aC aG (aC aG (aC hV (aC (dC aH) (aC aG aH))))))))))) aH))))
 (aO (sV (mN PySem.F.plainAttrs_list PySem.F.slot_list_append CA (jv 3) (aC (dC (aC (jv 1) (aC aG (aC aG (aC (bF (jv 0) aG) (aC aG (aC aG (aC aG (aC hV (aC (dC aH) (aC aG aH))))))))))) aH)))
 (aZ (bQ (sR (i6 vM (aW zU rfl h.qO rfl (aC (jv 2) aH)) (aW zU rfl h.qO rfl (aC (jv 3) aH))) (yA (i6 vM (dC (aC (nU h.W8) (aC (nU h.aAZ) (aC (nU h.aAt) (aC (nU h.aEG) (aC (nU h.aBp) (aC (nU h.aAQ) (aC (nU h.aCt) aH)))))))) (dC (aC aG (aC aG (aC aG (aC aG (aC aG (aC aG (aC aG aH)))))))))))))))))
theorem sF {S : aP} (h : Fx S) : eW S.P S.w S.K S.mg S.base 8 h.dY h.fH gZ (dZ h.k) := eW.of h.hR tF (rX h) fun _ _ _ => .kS
theorem tE {S : aP} (h : Fx S) : bO S.K h.fH gZ 1 [] aM := bX h.hR fun _ _ _ _ _ _ us hl => match us, hl with
 | [_], _ => rfl
def j5 : List Str := [("_law_told_here" : Str)]
def vN : List Str := [("_law_told_here" : Str)]
abbrev DT : Scope := defScope (top 30)
def nK (k : bH) : MS :=
 (a7 (r4 k.aF (eO k) 1 9 (a9 k) (aA (aD aS (aB 0) (eC (.int 0))) aE) (aA (aD aS (aB 0) (eC (.int 9))) (aA (aD aS (aB 0) (eC (.int 8))) (aA (aD aS (aB 0) (eC (.int 7))) (aA (aD aS (aB 0) (eC (.int 6))) (aA (aD aS (aB 0) (eC (.int 5))) (aA (aD aS (aB 0) (eC (.int 4))) (aA (aD aS (aB 0) (eC (.int 3))) (aA (aD aS (aB 0) (eC (.int 2))) (aA (aD aS (aB 0) (eC (.int 1))) aE)))))))))))
def dU (k : bH) : MF := bL (nK k) j5
theorem MD : FnScope j5 vN DT := cE (by decide +kernel)
theorem LU {S : aP} (h : Fx S) : rR (S.body 7 j5 DT) (defBody (top 30)) (nK h.k) :=
 (aZ (bQ (jmk (ag rfl) h.HS (oD h) (dR h) rfl h.zG (aC (bF (jv 0) aG) aH) (j8 (bF (jv 0) aG) (j8 (bF (jv 0) aG) (j8 (bF (jv 0) aG) (j8 (bF (jv 0) aG) (j8 (bF (jv 0) aG) (j8 (bF (jv 0) aG) (j8 (bF (jv 0) aG) (j8 (bF (jv 0) aG) (j8 (bF (jv 0) aG) MZ))))))))))))
theorem kG {S : aP} (h : Fx S) : eW S.P S.w S.K S.mg S.base 8 h.mT h.pV vN (dU h.k) := eW.of h.vD MD (LU h) fun _ _ _ => .kS
theorem kB {S : aP} (h : Fx S) : bO S.K h.pV vN 1 [] aM := bX h.vD fun _ _ _ _ _ _ us hl => match us, hl with
 | [_], _ => rfl
def iQ : List Str := [("_law_deck_here" : Str), ("_law_told_here" : Str), ("_law_found" : Str), ("_law_rows" : Str), ("_law_a" : Str), ("_law_h" : Str), ("_law_row" : Str), ("_law_others" : Str), ("_law_k" : Str)]
def lG : List Str := [("_law_deck_here" : Str), ("_law_told_here" : Str)]
abbrev rO : Scope := defScope (top 37)
def l7 (k : bH) : MS :=
 (aK (aT (eNew aE) (aU 2))
 (aK (aT (aD aS (aB 1) (eC (.int 0))) (aU 3))
 (aK (MC 4 5 (aA (aJ (bB k) 2 aM (aA (aB 0) (aA (aQ cX (aA (aB 3) aE)) aE))) (aA (aJ (bB k) 2 aM (aA (aB 0) (aA (aQ cX (aA (aD aS (aB 3) (eC (.int 0))) aE)) aE))) aE)))
 (aK (aT (aD bJ (aD bJ (oM g6 (aD aS (aB 3) (aB 4)) cW (cN (aB 5))) (bM (aA (aD bJ (aD gP (aD aS (aD aS (aB 3) (aB 4)) (aB 5)) (eC (.int 12))) (eC (.int 1))) aE))) (oM g6 (aD aS (aB 3) (aB 4)) (cN (aD bJ (aB 5) (eC (.int 1)))) cW)) (aU 6))
 (aK (aT (eV (aA (aD bJ (aD bJ (oM g6 (aB 3) cW (cN (aB 4))) (bM (aA (aB 6) aE))) (oM g6 (aB 3) (cN (aD bJ (aB 4) (eC (.int 1)))) cW)) (aA (aD bJ (aD gP (aD aS (aB 1) (eC (.int 1))) (eC (.int 5))) (eC (.int 1))) (aA (aD gP (aD bJ (aD aS (aB 1) (eC (.int 2))) (eC (.int 1))) (eC (.int 4))) (aA (aD bJ (aD gP (aD aS (aB 1) (eC (.int 3))) (eC (.int 4))) (eC (.int 1))) aE))))) (aU 7))
 (aK (aT (aD bJ (aB 7) (eV (aA (aD gP (aD bJ (QD (bC (aD isM (aD aS (aB 1) (eC (.int 4))) (eC .non))) (aD aS (aB 1) (eC (.int 2))) (aD aS (aB 1) (eC (.int 4)))) (eC (.int 1))) (eC (.int 4))) (aA (aD gP (aD bJ (aD aS (aB 1) (eC (.int 5))) (eC (.int 1))) (eC (.int 4))) (aA (aD gP (aD bJ (aD aS (aB 1) (eC (.int 6))) (eC (.int 1))) (eC (.int 21))) aE))))) (aU 7))
 (aK (aT (aD bJ (aB 7) (eV (aA (A6 notM (aD aS (aB 1) (eC (.int 7)))) (aA (QD (bC (aD pT (aD aS (aB 1) (eC (.int 8))) (bM aE))) (oM g6 (aD aS (aB 1) (eC (.int 8))) (cN (eC (.int 1))) cW) (bM (aA (bM (aA (eC (.int 0)) (aA (eC (.int 9)) (aA (eC (.int 9)) aE)))) aE))) (aA (aD gP (aD bJ (aD aS (aB 1) (eC (.int 9))) (eC (.int 1))) (eC (.int 5))) aE))))) (aU 7))
 (aK (fW (fU nH (aA (eC (.int 10)) aE)) (aU 8) (cV (dD "list" c8 (aB 2) (aA (aD AA (aD bJ (oM g6 (aB 1) cW (cN (aB 8))) (eV (aA (aD aS (aB 7) (aB 8)) aE))) (oM g6 (aB 1) (cN (aD bJ (aB 8) (eC (.int 1)))) cW)) aE))))
 (aK (aT (QD (bC (aD isM (aD aS (aB 1) (eC (.int 4))) (eC .non))) (aD aS (aB 1) (eC (.int 2))) (aD aS (aB 1) (eC (.int 4)))) (eJ (aD aS (aB 2) (eC (.int 2))) (eC (.int 4))))
 (a7 (aB 2)))))))))))
def f9 (k : bH) : MF := bL (l7 k) iQ
theorem zE : FnScope iQ lG rO := cE (by decide +kernel)
theorem A5 {S : aP} (h : Fx S) : rR (S.body 1 iQ rO) (defBody (top 37)) (l7 h.k) :=
 (aO (t9 2 (UK aH))
 (aO (t9 3 (bF (jv 1) aG))
 (aO (aB3 4 5 (aC (aV (ag rfl) (bV h) (bW h) rfl h.b6 h.bP (aC (jv 0) (aC (aW fR rfl h.iH rfl (aC (jv 3) aH)) aH))) (aC (aV (ag rfl) (bV h) (bW h) rfl h.b6 h.bP (aC (jv 0) (aC (aW fR rfl h.iH rfl (aC (bF (jv 3) aG) aH)) aH))) aH)))
 (aO (t9 6 (bA cH (bA cH (nZ nV (bF (jv 3) (jv 4)) fZ (fY (jv 5))) (dC (aC (bA cH (bA jN (bF (bF (jv 3) (jv 4)) (jv 5)) aG) aG) aH))) (nZ nV (bF (jv 3) (jv 4)) (fY (bA cH (jv 5) aG)) fZ)))
 (aO (t9 7 (dA (aC (bA cH (bA cH (nZ nV (jv 3) fZ (fY (jv 4))) (dC (aC (jv 6) aH))) (nZ nV (jv 3) (fY (bA cH (jv 4) aG)) fZ)) (aC (bA cH (bA jN (bF (jv 1) aG) aG) aG) (aC (bA jN (bA cH (bF (jv 1) aG) aG) aG) (aC (bA cH (bA jN (bF (jv 1) aG) aG) aG) aH))))))
 (aO (t9 7 (bA cH (jv 7) (dA (aC (bA jN (bA cH (HA (eU YM (bF (jv 1) aG) sG) (bF (jv 1) aG) (bF (jv 1) aG)) aG) aG) (aC (bA jN (bA cH (bF (jv 1) aG) aG) aG) (aC (bA jN (bA cH (bF (jv 1) aG) aG) aG) aH))))))
 (aO (t9 7 (bA cH (jv 7) (dA (aC (GZ (bF (jv 1) aG)) (aC (HA (eU tK (bF (jv 1) aG) (dC aH)) (nZ nV (bF (jv 1) aG) (fY aG) fZ) (dC (aC (dC (aC aG (aC aG (aC aG aH)))) aH))) (aC (bA jN (bA cH (bF (jv 1) aG) aG) aG) aH))))))
 (aO (sE (oO rfl h.sI (aC aG aH)) (NO 8) (aZ (sV (mN PySem.F.plainAttrs_list PySem.F.slot_list_append CA (jv 2) (aC (bA Q7 (bA cH (nZ nV (jv 1) fZ (fY (jv 8))) (dA (aC (bF (jv 7) (jv 8)) aH))) (nZ nV (jv 1) (fY (bA cH (jv 8) aG)) fZ)) aH)))))
 (aO (CP (HA (eU YM (bF (jv 1) aG) sG) (bF (jv 1) aG) (bF (jv 1) aG)) (VF (bF (jv 2) aG) aG))
 (aZ (bQ (jv 2))))))))))))
theorem zT {S : aP} (h : Fx S) : eW S.P S.w S.K S.mg S.base 2 h.gE h.iR lG (f9 h.k) := eW.of h.l8 zE (A5 h) fun _ _ _ => .kS
theorem zL {S : aP} (h : Fx S) : bO S.K h.iR lG 2 [] aM := bX h.l8 fun _ _ _ _ _ _ us hl => match us, hl with
 | [_, _], _ => rfl
def uR : List Str := [("_law_deck_here" : Str), ("_law_some" : Str)]
def vW : List Str := [("_law_deck_here" : Str), ("_law_some" : Str)]
abbrev DS : Scope := defScope (top 28)
def D9 (k : bH) : MS :=
 (a7 (aD aS (aB 1) (aJ (bB k) 2 aM (aA (aB 0) (aA (aQ cX (aA (aB 1) aE)) aE)))))
def gG (k : bH) : MF := bL (D9 k) uR
theorem ML : FnScope uR vW DS := cE (by decide +kernel)
theorem M5 {S : aP} (h : Fx S) : rR (S.body 1 uR DS) (defBody (top 28)) (D9 h.k) :=
 (aZ (bQ (bF (jv 1) (aV (ag rfl) (bV h) (bW h) rfl h.b6 h.bP (aC (jv 0) (aC (aW fR rfl h.iH rfl (aC (jv 1) aH)) aH))))))
theorem sC {S : aP} (h : Fx S) : eW S.P S.w S.K S.mg S.base 2 h.nA h.pN vW (gG h.k) := eW.of h.vP ML (M5 h) fun _ _ _ => .kS
theorem r5 {S : aP} (h : Fx S) : bO S.K h.pN vW 2 [] aM := bX h.vP fun _ _ _ _ _ _ us hl => match us, hl with
 | [_, _], _ => rfl
def j0 : List Str := [("_law_deck_here" : Str), ("_law_great" : Str), ("_law_houses" : Str), ("_law_addresses" : Str), ("_law_low" : Str), ("_law_rows" : Str), ("_law_cords" : Str), ("_law_k" : Str), ("_law_some" : Str), ("_law_found" : Str), ("_law_a" : Str), ("_law_h" : Str), ("_law_pair" : Str)]
def uT : List Str := [("_law_deck_here" : Str), ("_law_great" : Str)]
abbrev DM : Scope := defScope (top 29)
def nM (k : bH) : MS :=
 (aK (aT (bM (aA (aD aS (eV (aA (aD bJ (eC (.int 1)) (aJ (bB k) 2 aM (aA (aB 0) (aA (eC (.int 6)) aE)))) (aA (eC (.int 6)) aE))) (aB 1)) (aA (aD aS (eV (aA (aD bJ (eC (.int 1)) (aJ (bB k) 2 aM (aA (aB 0) (aA (eC (.int 4)) aE)))) (aA (eC (.int 4)) aE))) (aB 1)) aE))) (cC 2 (aL (aU 2) (aL (aU 3) cA))))
 (aK (aT (aJ (gG k) 2 aM (aA (aB 0) (aA (eV (aA (eC (.int 1)) (aA (eC (.int 8)) (aA (eC (.int 9)) (aA (eC (.int 10)) aE))))) aE))) (aU 4))
 (aK (aT (cG (fU nH (aA (aB 3) aE)) [10] (aU 10) cL (aQ iC (aA (cG (fU nH (aA (aB 2) aE)) [11] (aU 11) cL (aD bJ (aB 4) (aJ (bB k) 2 aM (aA (aB 0) (aA (aD kX (eC (.int 13)) (aB 4)) aE))))) aE))) (aU 5))
 (aK (aT sX (aU 6))
 (aK (fW (fU nH (aA (aD aS (eV (aA (aJ (bB k) 2 aM (aA (aB 0) (aA (eC (.int 7)) aE))) (aA (eC (.int 24)) aE))) (aB 1)) aE)) (aU 7) (dX (bC (aD SR (aQ FC (aA (aB 6) aE)) (eC (.int 6)))) (aT (aD aS (eV (aA (eC (.int 1)) (aA (eC (.int 9)) (aA (eC (.int 10)) (aA (eC (.int 11)) (aA (eC (.int 2)) aE)))))) (aJ (bB k) 2 aM (aA (aB 0) (aA (eC (.int 5)) aE)))) (eJ (aB 6) (bM (aA (aJ (bB k) 2 aM (aA (aB 0) (aA (aB 2) aE))) (aA (aJ (bB k) 2 aM (aA (aB 0) (aA (eC (.int 10)) aE))) aE))))) aX))
 (aK (aT (aQ iC (aA (aQ oF (aA (cG (vX (aB 6)) [12] (aU 12) cL (aD bJ (aB 12) (bM (aA (aD aS (aB 6) (aB 12)) aE)))) aE)) aE)) (aU 8))
 (aK (aT (eV (aA (aQ iC (aA (aB 5) aE)) (aA (aD bJ (eC (.int 1)) (aJ (bB k) 2 aM (aA (aB 0) (aA (eC (.int 5)) aE)))) (aA (aJ (bB k) 2 aM (aA (aB 0) (aA (eC (.int 4)) aE))) (aA (aD bJ (eC (.int 1)) (aJ (bB k) 2 aM (aA (aB 0) (aA (eC (.int 4)) aE)))) aE))))) (aU 9))
 (aK (aT (aD AA (aB 9) (eV (aA (aJ (gG k) 2 aM (aA (aB 0) (aA (eV (aA (eC .non) (aA (eC (.int 0)) (aA (eC (.int 1)) (aA (eC (.int 2)) (aA (eC (.int 3)) aE)))))) aE))) (aA (aJ (bB k) 2 aM (aA (aB 0) (aA (eC (.int 4)) aE))) aE)))) (aU 9))
 (aK (cV (dD "list" c8 (aB 9) (aA (aJ (gG k) 2 aM (aA (aB 0) (aA (eV (aA (eC (.int 0)) (aA (eC (.int 9)) (aA (eC (.int 10)) (aA (eC (.int 20)) (aA (aJ (bB k) 2 aM (aA (aB 0) (aA (eC (.int 21)) aE))) aE)))))) aE))) aE)))
 (a7 (aD T7 (aB 9) (eV (aA (aD gO (aJ (bB k) 2 aM (aA (aB 0) (aA (eC (.int 2)) aE))) (eC (.int 1))) (aA (aB 8) (aA (aJ (bB k) 2 aM (aA (aB 0) (aA (eC (.int 5)) aE))) aE)))))))))))))))
def mR (k : bH) : MF := bL (nM k) j0
theorem NB : FnScope j0 uT DM := cE (by decide +kernel)
theorem NV {S : aP} (h : Fx S) : rR (S.body 2 j0 DM) (defBody (top 29)) (nM h.k) :=
 (aO (aCd (dC (aC (bF (dA (aC (bA cH aG (aV (ag rfl) (bV h) (bW h) rfl h.b6 h.bP (aC (jv 0) (aC aG aH)))) (aC aG aH))) (jv 1)) (aC (bF (dA (aC (bA cH aG (aV (ag rfl) (bV h) (bW h) rfl h.b6 h.bP (aC (jv 0) (aC aG aH)))) (aC aG aH))) (jv 1)) aH))) (FF (n := 2) (iK (NO 2) (iK (NO 3) BB))))
 (aO (t9 4 (aV (ag rfl) (sC h) (r5 h) rfl h.pU h.oA (aC (jv 0) (aC (dA (aC aG (aC aG (aC aG (aC aG aH))))) aH))))
 (aO (jsc 5 (own := [(("_law_a" : Str), 10)]) (oO rfl h.sI (aC (jv 3) aH)) (by kernel_rfl) (QY 10) iV (iN vH rfl h.hY rfl (aC (jG (own := [(("_law_h" : Str), 11)]) (oO rfl h.sI (aC (jv 2) aH)) (by kernel_rfl) (QY 11) iV (bA cH (jv 4) (aV (ag rfl) (bV h) (bW h) rfl h.b6 h.bP (aC (jv 0) (aC (bA UC aG (jv 4)) aH))))) aH)))
 (aO (t9 6 aBU)
 (aO (sE (oO rfl h.sI (aC (bF (dA (aC (aV (ag rfl) (bV h) (bW h) rfl h.b6 h.bP (aC (jv 0) (aC aG aH))) (aC aG aH))) (jv 1)) aH)) (NO 7) (aZ (gH (eU aEO (aW aBh rfl h.iH rfl (aC (jv 6) aH)) aG) (aZ (CP (bF (dA (aC aG (aC aG (aC aG (aC aG (aC aG aH)))))) (aV (ag rfl) (bV h) (bW h) rfl h.b6 h.bP (aC (jv 0) (aC aG aH)))) (VF (jv 6) (dC (aC (aV (ag rfl) (bV h) (bW h) rfl h.b6 h.bP (aC (jv 0) (aC (jv 2) aH))) (aC (aV (ag rfl) (bV h) (bW h) rfl h.b6 h.bP (aC (jv 0) (aC aG aH))) aH)))))) cZ)))
 (aO (t9 8 (iN vH rfl h.hY rfl (aC (aW Y2 rfl h.S0 rfl (aC (jG (own := [(("_law_pair" : Str), 12)]) (aCS (jv 6)) (by kernel_rfl) (QY 12) iV (bA cH (jv 12) (dC (aC (bF (jv 6) (jv 12)) aH)))) aH)) aH)))
 (aO (t9 9 (dA (aC (iN vH rfl h.hY rfl (aC (jv 5) aH)) (aC (bA cH aG (aV (ag rfl) (bV h) (bW h) rfl h.b6 h.bP (aC (jv 0) (aC aG aH)))) (aC (aV (ag rfl) (bV h) (bW h) rfl h.b6 h.bP (aC (jv 0) (aC aG aH))) (aC (bA cH aG (aV (ag rfl) (bV h) (bW h) rfl h.b6 h.bP (aC (jv 0) (aC aG aH)))) aH))))))
 (aO (t9 9 (bA Q7 (jv 9) (dA (aC (aV (ag rfl) (sC h) (r5 h) rfl h.pU h.oA (aC (jv 0) (aC (dA (aC sG (aC aG (aC aG (aC aG (aC aG aH)))))) aH))) (aC (aV (ag rfl) (bV h) (bW h) rfl h.b6 h.bP (aC (jv 0) (aC aG aH))) aH)))))
 (aO (sV (mN PySem.F.plainAttrs_list PySem.F.slot_list_append CA (jv 9) (aC (aV (ag rfl) (sC h) (r5 h) rfl h.pU h.oA (aC (jv 0) (aC (dA (aC aG (aC aG (aC aG (aC aG (aC (aV (ag rfl) (bV h) (bW h) rfl h.b6 h.bP (aC (jv 0) (aC aG aH))) aH)))))) aH))) aH)))
 (aZ (bQ (bA aDD (jv 9) (dA (aC (i6 vM (aV (ag rfl) (bV h) (bW h) rfl h.b6 h.bP (aC (jv 0) (aC aG aH))) aG) (aC (jv 8) (aC (aV (ag rfl) (bV h) (bW h) rfl h.b6 h.bP (aC (jv 0) (aC aG aH))) aH))))))))))))))))
theorem NI {S : aP} (h : Fx S) : eW S.P S.w S.K S.mg S.base 3 h.mU h.qD uT (mR h.k) := eW.of h.vT NB (NV h) fun _ _ _ => .kS
theorem L6 {S : aP} (h : Fx S) : bO S.K h.qD uT 2 [] aM := bX h.vT fun _ _ _ _ _ _ us hl => match us, hl with
 | [_, _], _ => rfl
def YG : List Str := [("_law_script" : Str), ("_law_deck_here" : Str), ("_law_pair" : Str), ("_law_told_here" : Str), ("_law_made_here" : Str), ("_law_again" : Str), ("_law_other" : Str), ("_law_it" : Str), ("_law_due" : Str), ("_law_k" : Str)]
def aEY : List Str := [("_law_script" : Str)]
abbrev aEH : Scope := defScope (top 40)
def aBr (k : bH) : MS :=
 (aK (aT (aJ (uM k) 1 aM (aA (aB 0) aE)) (aU 1))
 (aK (aT (cG (fU nH (aA (eC (.int 2)) aE)) [9] (aU 9) cL (aJ (mR k) 2 aM (aA (aB 1) (aA (aQ ED (aA (aD gO (aJ (bB k) 2 aM (aA (aB 1) (aA (eC (.int 8)) aE))) (eC (.int 5))) aE)) aE)))) (aU 2))
 (aK (fW (eQ (aB 2)) (aU 3) (aK (MC 4 5 (aA (aJ (dU k) 1 aM (aA (aB 3) aE)) (aA (aJ (dU k) 1 aM (aA (aQ HI (aA (aB 3) aE)) aE)) aE)))
 (aK (dX (fE (bT (cU (aJ (c9 k) 3 aM (aA (aB 4) (aA (aB 5) (aA (eC (.bl true)) aE)))))) (bC (aD pT (aQ n7 (aA (aQ (uC k.aF (dQ k)) (aA (aB 4) aE)) aE)) (aQ n7 (aA (aQ cX (aA (aD aS (aD aS (aB 3) (eC (.int 0))) (eC (.int 0))) aE)) aE))))) (a7 (eC (.bl false))) aX)
 (aK (fW (eQ (aJ (f9 k) 2 aM (aA (aB 1) (aA (aB 3) aE)))) (aU 6) (dX (fE (bC (aD sL (aJ (kT k) 1 aM (aA (aB 6) aE)) (eC .non))) (bT (cU (aJ (c9 k) 3 aM (aA (aJ (dU k) 1 aM (aA (aB 6) aE)) (aA (aB 4) (aA (eC (.bl false)) aE))))))) (a7 (eC (.bl false))) aX))
 (aK (fW (eQ (eV (aA (eC .non) (aA (eC (.bl true)) (aA (eC (.int 0)) (aA (eC (.str ("" : Str))) (aA (aQ (GX zD k.aF (lI k)) (aA (aB 4) aE)) (aA (aQ (GX qZ k.aF (nN k)) (aA (aB 4) aE)) (aA (aJ (dI k) 1 aM (aA (aB 4) aE)) (aA (aB 3) (aA E2 (aA (bM aE) aE)))))))))))) (aU 7) (dX (bT (cU (aJ (c9 k) 3 aM (aA (aB 4) (aA (aB 7) (aA (eC (.bl false)) aE)))))) (a7 (eC (.bl false))) aX))
 (dX (fE (bT (cU (aJ (dZ k) 1 aM (aA (aB 3) aE)))) (bC (aD pT (aQ n7 (aA (aJ (dI k) 1 aM (aA (aB 4) aE)) aE)) (aQ n7 (aA (aJ (dN k) 1 aM (aA (aB 3) aE)) aE))))) (a7 (eC (.bl false))) aX))))))
 (aK (aT (aD gO (aJ (dN k) 1 aM (aA (aD aS (aB 2) (eC (.int 0))) aE)) (aJ (dN k) 1 aM (aA (aD aS (aB 2) (eC (.int 1))) aE))) (aU 8))
 (a7 (aJ (c9 k) 3 aM (aA (aJ (dU k) 1 aM (aA (aD aS (aB 2) (eC (.int 0))) aE)) (aA (aJ (dU k) 1 aM (aA (aD aS (aB 2) (eC (.int 1))) aE)) (aA (aB 8) aE)))))))))
def PR (k : bH) : MF := bL (aBr k) YG
theorem aF8 : FnScope YG aEY aEH := cE (by decide +kernel)
theorem aFs {S : aP} (h : Fx S) : rR (S.body 8 YG aEH) (defBody (top 40)) (aBr h.k) :=
 (aO (t9 1 (aV (ag rfl) (MY h) (LZ h) rfl h.DH h.zV (aC (jv 0) aH)))
 (aO (jsc 2 (own := [(("_law_k" : Str), 9)]) (oO rfl h.sI (aC aG aH)) (by kernel_rfl) (QY 9) iV (aV (ag rfl) (NI h) (L6 h) rfl h.D1 h.AB (aC (jv 1) (aC (iN aGr rfl h.W7 rfl (aC (i6 vM (aV (ag rfl) (bV h) (bW h) rfl h.b6 h.bP (aC (jv 1) (aC aG aH))) aG) aH)) aH))))
 (aO (sE (i8 (jv 2)) (NO 3) (aO (aB3 4 5 (aC (aV (ag rfl) (kG h) (kB h) rfl h.jW h.iT (aC (jv 3) aH)) (aC (aV (ag rfl) (kG h) (kB h) rfl h.jW h.iT (aC (iN aC1 rfl h.VN rfl (aC (jv 3) aH)) aH)) aH)))
 (aO (gH (zN (mQ (eB (cI (aV (ag rfl) (mM h) (mL h) rfl h.kO h.jA (aC (jv 4) (aC (jv 5) (aC hV aH)))))) (lO (eU tK (aW (AR h.aAg) rfl h.qO rfl (aC (aW (aDh (ag rfl) h.bZ h.GO (SO h) (S8 h)) rfl h.iH rfl (aC (jv 4) aH)) aH)) (aW (AR h.aAg) rfl h.qO rfl (aC (aW fR rfl h.iH rfl (aC (bF (bF (jv 3) aG) aG) aH)) aH)))))) (aZ (bQ hV)) cZ)
 (aO (sE (i8 (aV (ag rfl) (zT h) (zL h) rfl h.rB h.pX (aC (jv 1) (aC (jv 3) aH)))) (NO 6) (aZ (gH (zN (mQ (eU RH (aV (ag rfl) (IH h) (IJ h) rfl h.AI h.xQ (aC (jv 6) aH)) sG) (lO (eB (cI (aV (ag rfl) (mM h) (mL h) rfl h.kO h.jA (aC (aV (ag rfl) (kG h) (kB h) rfl h.jW h.iT (aC (jv 6) aH)) (aC (jv 4) (aC hV aH))))))))) (aZ (bQ hV)) cZ)))
 (aO (sE (i8 (dA (aC sG (aC hV (aC aG (aC cM (aC (iN (W9 (ag rfl) h.yP (DC h) (C5 h)) rfl h.WV rfl (aC (jv 4) aH)) (aC (aW (aAL (ag rfl) h.D4 (NQ h) (LO h)) rfl h.qO rfl (aC (jv 4) aH)) (aC (aV (ag rfl) (iL h) (iE h) rfl h.gR h.gB (aC (jv 4) aH)) (aC (jv 3) (aC aBn (aC (dC aH) aH)))))))))))) (NO 7) (aZ (gH (eB (cI (aV (ag rfl) (mM h) (mL h) rfl h.kO h.jA (aC (jv 4) (aC (jv 7) (aC hV aH)))))) (aZ (bQ hV)) cZ)))
 (aZ (gH (zN (mQ (eB (cI (aV (ag rfl) (sF h) (tE h) rfl h.lE h.kE (aC (jv 3) aH)))) (lO (eU tK (aW (AR h.aAg) rfl h.qO rfl (aC (aV (ag rfl) (iL h) (iE h) rfl h.gR h.gB (aC (jv 4) aH)) aH)) (aW (AR h.aAg) rfl h.qO rfl (aC (aV (ag rfl) (jT h) (jP h) rfl h.h8 h.gJ (aC (jv 3) aH)) aH)))))) (aZ (bQ hV)) cZ)))))))
 (aO (t9 8 (i6 vM (aV (ag rfl) (jT h) (jP h) rfl h.h8 h.gJ (aC (bF (jv 2) aG) aH)) (aV (ag rfl) (jT h) (jP h) rfl h.h8 h.gJ (aC (bF (jv 2) aG) aH))))
 (aZ (bQ (aV (ag rfl) (mM h) (mL h) rfl h.kO h.jA (aC (aV (ag rfl) (kG h) (kB h) rfl h.jW h.iT (aC (bF (jv 2) aG) aH)) (aC (aV (ag rfl) (kG h) (kB h) rfl h.jW h.iT (aC (bF (jv 2) aG) aH)) (aC (jv 8) aH))))))))))
theorem aGd {S : aP} (h : Fx S) : eW S.P S.w S.K S.mg S.base 9 h.LA h.YB aEY (PR h.k) := eW.of h.aEB aF8 (aFs h) fun _ _ _ => .kS
end K02
namespace K02
open PySem PySem.Spec PyProof.Rows L2 Pc Lb Lw
abbrev lk (k : K02.bH) : Lb.bH := ⟨k.aF, k.eS⟩
section
variable (k : K02.bH)
theorem aFg : K02.uM k = UA := rfl
theorem FU : K02.bB k = vV := rfl
theorem aBe : K02.gG k = V2 := rfl
theorem XQ : K02.fQ k = Lb.fQ (lk k) := rfl
theorem W5 : K02.cK k = Lb.cK (lk k) := rfl
theorem aIB (x0 x1 x2 x3 x4 x5 x6 x7 x8 x9 x10 : D) : begin gI [x0, x1, x2, x3, x4, x5, x6, x7, x8, x9, x10] = [some x0, some x1, some x2, some x3, some x4, some x5, some x6, some x7, some x8, some x9, some x10, none, none, none, none] := rfl
theorem aIJ (x0 : D) : begin j5 [x0] = [some x0] := rfl
theorem aIX (x0 : D) : begin mE [x0] = [some x0, none] := rfl
theorem aIS (x0 x1 : D) : begin j0 [x0, x1] = [some x0, some x1, none, none, none, none, none, none, none, none, none, none, none] := rfl
structure Fd where
 r : D
 ev : D
 lo : D
 sl : D
 be : D
 ga : D
 ho : D
 ta : D
 ti : D
 hs : D
def a8 (f : Fd) : List D := [f.r, f.ev, f.lo, f.sl, f.be, f.ga, f.ho, f.ta, f.ti, f.hs]
def AX : D → Bool
 | .bl _ => true
 | _ => false
def gD (f : Fd) : D := if f.be.isNon = true then f.lo else f.be
def items (f : Fd) : List (Str × D) := [("every", f.ev), ("lost", f.lo), ("slow", f.sl), ("bears", gD f), ("gap", f.ga), ("hold", f.ho), ("takes", f.ta), ("ties", f.ti), ("hosts", f.hs)]
def hD (h : Int) (z : Str) (d : D) : Bool := match Lb.dW.lookup z with
 | some (some (.gY [.int lo, .int hi])) => aN lo hi d
 | _ => if z = "takes" then AX d else lD h d
def gM : D → Int
 | .tup (.tup r :: _) => r.length
 | _ => 0
def mY (f : Fd) : Option Str := if fD f.r = true then ((items f).find? fun p => !hD (gM f.r) p.1 p.2).map Prod.fst else some "ranks"
def RX (f : Fd) : Prop := ∀ d ∈ a8 f, i9 6 d = true
variable {w w' : W} {P : D → W → Prop} {PF : Fl → W → Prop} {PX : XD → W → Prop} {f : Fd} {p n : Nat} {d : D}
theorem X9 {h : Int} {z : Str} (hz : z ∈ (["every", "lost", "slow", "bears", "gap", "hold", "takes", "ties", "hosts"] : List Str)) (e : i9 6 d = true) (hP : P (.bl (hD h z d)) w) : T (K02.cK k [.str z, d, .int h] w) P := by
 rw [W5]
 have num : ∀ (z : Str) (lo hi : Int), Lb.dW.lookup z = some (some (.gY [.int lo, .int hi])) → P (.bl (hD h z d)) w → T (Lb.cK (lk k) [.str z, d, .int h] w) P := fun z lo hi hz hP => by
  unfold hD at hP
  rw [hz] at hP
  simp only [Lb.cK, Lb.iI, qG, WN hz, aGX hz, Option.isSome_some, dO, bD, dM, wX, KL, BU, xI, CN, G3, QT, BN, yH, CV, wK, BX, vY, T_C, T_V, KQ, YX, LG, YR, YN, yM, tA, K9, LB, K1, JU, C0, B1, wV, uS, J7, ZV, JR, KY, qY, CK, LH, n9, mO, BC, xN, tP, qV, K2, YO, ZH, ZU, UE, D6, J8, pD, rH, J0, B9, CL, B7, b7, dm, dn, List.set_cons_zero, List.set_cons_succ, ck, dc, aM, true_and, and_true, CJ, CZ, yF, Y6, wC, wN, oY, sO, sU, KP, K6, K3, tZ, JZ, tW, ae, ax, ab, bf, cc, Bool.true_eq_false, ite_true, ite_false, reduceCtorEq]
  have aw := fun PP => rE (k := lk k) (w := w) (P := PP) lo hi e
  simp only [aw, dO, bD, dM, wX, KL, BU, xI, CN, G3, QT, BN, yH, CV, wK, BX, vY, T_C, T_V, KQ, YX, LG, YR, YN, yM, tA, K9, LB, K1, JU, C0, B1, wV, uS, J7, ZV, JR, KY, qY, CK, LH, n9, mO, BC, xN, tP, qV, K2, YO, ZH, ZU, UE, D6, J8, pD, rH, J0, B9, CL, B7, b7, dm, dn, List.set_cons_zero, List.set_cons_succ, ck, dc, aM, true_and, and_true, CJ, CZ, yF, Y6, wC, wN, oY, sO, sU, KP, K6, K3, tZ, JZ, tW, ae, ax, ab, bf, cc, Bool.true_eq_false, ite_true, ite_false, reduceCtorEq]
  exact hP
 simp only [bu, cj, cz] at hz
 rcases hz with rfl | rfl | rfl | rfl | rfl | rfl | rfl | rfl | rfl
 ·exact num _ _ _ rfl hP
 ·exact num _ _ _ rfl hP
 ·exact num _ _ _ rfl hP
 ·exact num _ _ _ rfl hP
 ·exact num _ _ _ rfl hP
 ·exact num _ _ _ rfl hP
 ·have hz : Lb.dW.lookup ("takes" : Str) = some none := rfl
  have he : tU (.str ("takes" : Str)) (.str ("takes" : Str)) w = some true := by rw [EU (by decide +kernel) (by decide +kernel)]; decide +kernel
  have hB : P (.bl (AX d)) w := hP
  simp only [Lb.cK, Lb.iI, qG, WN hz, NG he, Option.isSome_none, N0 e, dO, bD, dM, wX, KL, BU, xI, CN, G3, QT, BN, yH, CV, wK, BX, vY, T_C, T_V, KQ, YX, LG, YR, YN, yM, tA, K9, LB, K1, JU, C0, B1, wV, uS, J7, ZV, JR, KY, qY, CK, LH, n9, mO, BC, xN, tP, qV, K2, YO, ZH, ZU, UE, D6, J8, pD, rH, J0, B9, CL, B7, b7, dm, dn, List.set_cons_zero, List.set_cons_succ, ck, dc, aM, true_and, and_true, CJ, CZ, yF, Y6, wC, wN, oY, sO, sU, KP, K6, K3, tZ, JZ, tW, ae, ax, ab, bf, cc, Bool.true_eq_false, ite_true, ite_false, reduceCtorEq]
  cases d <;> exact hB
 ·have hz : Lb.dW.lookup ("ties" : Str) = some none := rfl
  have he : tU (.str ("ties" : Str)) (.str ("takes" : Str)) w = some false := by rw [EU (by decide +kernel) (by decide +kernel)]; decide +kernel
  simp only [Lb.cK, Lb.iI, qG, WN hz, NG he, Option.isSome_none, dO, bD, dM, wX, KL, BU, xI, CN, G3, QT, BN, yH, CV, wK, BX, vY, T_C, T_V, KQ, YX, LG, YR, YN, yM, tA, K9, LB, K1, JU, C0, B1, wV, uS, J7, ZV, JR, KY, qY, CK, LH, n9, mO, BC, xN, tP, qV, K2, YO, ZH, ZU, UE, D6, J8, pD, rH, J0, B9, CL, B7, b7, dm, dn, List.set_cons_zero, List.set_cons_succ, ck, dc, aM, true_and, and_true, CJ, CZ, yF, Y6, wC, wN, oY, sO, sU, KP, K6, K3, tZ, JZ, tW, ae, ax, ab, bf, cc, Bool.true_eq_false, ite_true, ite_false, reduceCtorEq]
  exact aGl (n := 4) (lk k) e hP
 ·exact num _ _ _ rfl hP
theorem seq_eq {a b : MS} {σ σ1 : Sg} {w w1 : W} (h : T (a σ w) fun f u => f = .nx σ1 ∧ u = w1) : aK a b σ w = b σ1 w1 := by
 obtain ⟨g, u, e, e1, e2⟩ := h.ex
 subst e1
 subst e2
 unfold aK
 rw [e]
 rfl
theorem BE {d : D} (h : fD d = true) : ∃ r0 rest, d = .tup (.tup r0 :: rest) ∧ 1 ≤ r0.length ∧ r0.length ≤ 6 ∧ rest.length ≤ 3 := by
 cases d <;> first | (simp [fD] at h; done) | skip
 rename_i xs
 simp only [fD, ak, aq, bg, Bool.not_eq_true'] at h
 obtain ⟨⟨h1, h2⟩, h3, h4, -⟩ := h
 cases xs with
 | nil => simp at h1
 | cons x xs =>
  have h5 := h3 x (bc ..)
  cases x <;> first | (simp [yB] at h5; done) | skip
  rename_i ys
  simp [yB] at h5
  simp [b8] at h4
  refine ⟨ys, xs, rfl, ?_, h5, by simp at h2; omega⟩
  cases ys with
  | nil => exact absurd rfl h4
  | cons => simp
def YZ (f : Fd) : List (Key × D) := (items f).map fun p => (.inr p.1, p.2)
def DW (f : Fd) : List (Key × D) := [(.inr "ties", f.ti), (.inr "hosts", f.hs)]
def M7 (f : Fd) (p q : Nat) (s13 s14 : Option D) : Sg := [some (.ref p), some f.r, some f.ev, some f.lo, some f.sl, some f.be, some f.ga, some f.ho, some f.ta, some f.ti, some f.hs, some (gD f), some (.ref q), s13, s14]
def aBK : MS := (dX (bT (cU (aJ (cK k) 3 aM (aA (aB 13) (aA (aB 14) (aA (aQ cX (aA (aD aS (aB 1) (eC (.int 0))) aE)) aE)))))) N7 aX)
def O0 : MS := (fW (wM (aB 12)) (cC 2 (aL (aU 13) (aL (aU 14) cA))) (aBK k))
def aAK : MS := (aK (dH k.aF ("ranks" : Str) (aB 0) (aB 1))
 (aK (dH k.aF ("every" : Str) (aB 0) (aB 2))
 (aK (dH k.aF ("lost" : Str) (aB 0) (aB 3))
 (aK (dH k.aF ("slow" : Str) (aB 0) (aB 4))
 (aK (dH k.aF ("bears" : Str) (aB 0) (aB 11))
 (aK (dH k.aF ("gap" : Str) (aB 0) (aB 6))
 (aK (dH k.aF ("hold" : Str) (aB 0) (aB 7))
 (aK (dH k.aF ("takes" : Str) (aB 0) (aB 8))
 (aK (dH k.aF ("ties" : Str) (aB 0) (aB 9))
 (dH k.aF ("hosts" : Str) (aB 0) (aB 10)))))))))))
def aCx : MS := (dX (bT (cU (aJ (fQ k) 1 aM (aA (aB 1) aE)))) N7 aX)
def aFT (rest : MS) : MS := (aK (aT (QD (bC (aD isM (aB 5) (eC .non))) (aB 3) (aB 5)) (aU 11))
 (aK (aT (GD (eI (eC (.str ("every" : Str))) (aB 2) (eI (eC (.str ("lost" : Str))) (aB 3) (eI (eC (.str ("slow" : Str))) (aB 4) (eI (eC (.str ("bears" : Str))) (aB 11) (eI (eC (.str ("gap" : Str))) (aB 6) (eI (eC (.str ("hold" : Str))) (aB 7) (eI (eC (.str ("takes" : Str))) (aB 8) ID)))))))) (aU 12))
 (aK (cV (dD "dict" U5 (aB 12) (aA (GD (eI (eC (.str ("ties" : Str))) (aB 9) (eI (eC (.str ("hosts" : Str))) (aB 10) ID))) aE))) rest)))
theorem WJ : nC k = aK (aCx k) (aFT (aK (O0 k) (aAK k))) := rfl
def wI (w : W) (f : Fd) : W := w ++ [.dK (YZ f), .dK (DW f)]
theorem aA5 {rest : MS} : aFT rest [some (.ref p), some f.r, some f.ev, some f.lo, some f.sl, some f.be, some f.ga, some f.ho, some f.ta, some f.ti, some f.hs, none, none, none, none] w = rest (M7 f p w.length none none) (wI w f) := by
 unfold aFT
 refine (seq_eq (σ1 := [some (.ref p), some f.r, some f.ev, some f.lo, some f.sl, some f.be, some f.ga, some f.ho, some f.ta, some f.ti, some f.hs, some (gD f), none, none, none]) (w1 := w) ?_).trans ?_
 ·simp only [D6, zY, ae, ab, reduceCtorEq]
  unfold gD
  cases f.be.isNon <;> first | rfl | exact ⟨rfl, rfl⟩
 refine (seq_eq (σ1 := M7 f p w.length none none) (w1 := w ++ [.dK [(.inr "every", f.ev), (.inr "lost", f.lo), (.inr "slow", f.sl), (.inr "bears", gD f), (.inr "gap", f.ga), (.inr "hold", f.ho), (.inr "takes", f.ta)]]) ?_).trans ?_
 ·simp only [aBX, NF, V7, zY, ae, ab, reduceCtorEq]
  exact ⟨_, rfl, ag rfl, rfl, rfl⟩
 refine seq_eq (σ1 := M7 f p w.length none none) (w1 := wI w f) ?_
 obtain ⟨w1, e1⟩ : ∃ w1, w1 = w ++ [MO.dK [((.inr "every" : Key), f.ev), (.inr "lost", f.lo), (.inr "slow", f.sl), (.inr "bears", gD f), (.inr "gap", f.ga), (.inr "hold", f.ho), (.inr "takes", f.ta)]] := ⟨_, rfl⟩
 have l1 : w1.length = w.length + 1 := by rw [e1]; simp
 have h1 : w1[w.length]? = some (.dK [(.inr "every", f.ev), (.inr "lost", f.lo), (.inr "slow", f.sl), (.inr "bears", gD f), (.inr "gap", f.ga), (.inr "hold", f.ho), (.inr "takes", f.ta)]) := by rw [e1, bw (bq _)]; simp
 have ty1 : tyD (.ref w.length) w1 = some "dict" := by simp only [tyD, h1]
 rw [← e1]
 simp only [M7, aBX, NF, V7, ty1, zY, ae, ab, reduceCtorEq]
 refine ⟨DW f, rfl, ag rfl, ?_⟩
 have mg2 : uK [] (DW f) = DW f := rfl
 rw [mg2]
 have h2 : (w1 ++ [MO.dK (DW f)])[w.length]? = some (.dK [(.inr "every", f.ev), (.inr "lost", f.lo), (.inr "slow", f.sl), (.inr "bears", gD f), (.inr "gap", f.ga), (.inr "hold", f.ho), (.inr "takes", f.ta)]) := by rw [av (by omega)]; exact h1
 have h3 : (w1 ++ [MO.dK (DW f)])[w1.length]? = some (.dK (DW f)) := by rw [bw (bq _)]; simp
 rw [aFt h2 h3]
 refine ⟨⟨by omega, by rw [sizeLine_eq]; simp [DW]⟩, ?_⟩
 try simp only [zY, ae, ab, reduceCtorEq]
 show _ = _
 rw [e1, wI, cv, List.set_append_right _ _ (bq _), Nat.sub_self]
 rfl
def aA6 : List Str := ["every", "lost", "slow", "bears", "gap", "hold", "takes", "ties", "hosts"]
theorem aB7 {z : Str} {i : Nat} (h : (items f)[i]? = some (z, d)) : z ∈ aA6 := by
 have m := cf h
 simp only [items, bu, cj, cz, Prod.mk.injEq] at m
 unfold aA6
 rcases m with m | m | m | m | m | m | m | m | m <;> (rw [m.1]; decide)
theorem aCB (ok : RX f) {z : Str} {i : Nat} (h : (items f)[i]? = some (z, d)) : i9 6 d = true := by
 have m := cf h
 have bo : i9 6 (gD f) = true := by
  unfold gD
  split
  ·exact ok _ (by simp [a8])
  ·exact ok _ (by simp [a8])
 simp only [items, bu, cj, cz, Prod.mk.injEq] at m
 rcases m with m | m | m | m | m | m | m | m | m <;> (rw [m.2]; first | exact bo | exact ok _ (by simp [a8]))
theorem xsI : ((YZ f).map fun p => D.tup [iS p.1, p.2]) = (items f).map fun p => D.tup [.str p.1, p.2] := by
 unfold YZ
 rw [cy]
 rfl
theorem aEk {q i : Nat} {z : Str} (ok : RX f) (hr : fD f.r = true) (hx : (items f)[i]? = some (z, d)) {Q : Bool → W → Prop} (hQ : Q (hD (gM f.r) z d) w) :
  T (cU (aJ (cK k) 3 aM (aA (aB 13) (aA (aB 14) (aA (aQ cX (aA (aD aS (aB 1) (eC (.int 0))) aE)) aE)))) (M7 f p q (some (.str z)) (some d)) w) Q := by
 obtain ⟨r0, rest, er, -⟩ := BE hr
 have ew : gM f.r = r0.length := by rw [er]; rfl
 rw [ew] at hQ
 have af := fun (P : D → W → Prop) (hP : P (.bl (hD r0.length z d)) w) => X9 k (P := P) (aB7 hx) (aCB ok hx) hP
 simp only [M7, er, yI, at0, ah, bj, zY, ae, ab, reduceCtorEq]
 refine af _ ?_
 simp only [zY, ae, ab, reduceCtorEq]
 exact hQ
def wL (w : W) (f : Fd) : W := (wI w f).set w.length (.dF (YZ f))
theorem aDK (ok : RX f) (hr : fD f.r = true) (hb : ∀ q ∈ items f, hD (gM f.r) q.1 q.2 = true) (hP : ∀ s13 s14, PF (.nx (M7 f p w.length s13 s14)) (wL w f)) : T (O0 k (M7 f p w.length none none) (wI w f)) PF := by
 have hq : (wI w f)[w.length]? = some (.dK (YZ f)) := by unfold wI; rw [bw (bq _)]; simp
 unfold O0
 have v12 : T (aB 12 (M7 f p w.length none none) (wI w f)) = fun PP => PP (.ref w.length) (wI w f) := by
  funext PP
  unfold T
  rfl
 rw [oY, HE, v12]
 simp only [W3 hq, xsI]
 refine Lb.uW (it := ⟨(items f).map fun p => D.tup [.str p.1, p.2], always⟩) (fun i σ w' => w' = wL w f ∧ ∃ s13 s14, σ = M7 f p w.length s13 s14) (fun _ _ _ _ => trivial) ⟨rfl, _, _, rfl⟩ (fun i x σ w' hx hI => ?_) (fun σ w' hI => ?_)
 ·obtain ⟨rfl, s13, s14, rfl⟩ := hI
  rw [cu] at hx
  obtain ⟨⟨z, d⟩, h1, rfl⟩ := au.mp hx
  have hg := hb _ (cf h1)
  simp only [M7, zY, ae, ab, reduceCtorEq]
  unfold aBK
  rw [xI, qY]
  refine aEk k ok hr h1 ?_
  rw [hg]
  simp only [bf, zY, ae, ab, reduceCtorEq]
  exact ⟨rfl, _, _, rfl⟩
 ·obtain ⟨rfl, s13, s14, rfl⟩ := hI
  exact hP _ _
def cS (f : Fd) : List (Str × D) := [("ranks", f.r), ("every", f.ev), ("lost", f.lo), ("slow", f.sl), ("bears", gD f), ("gap", f.ga), ("hold", f.ho), ("takes", f.ta), ("ties", f.ti), ("hosts", f.hs)]
theorem XR {q : Nat} {s13 s14 : Option D} (hp : w[p]? = some (.ins k.aF [])) (hP : ∀ s, PF (.nx s) (w.set p (.ins k.aF (cS f)))) : T (aAK k (M7 f p q s13 s14) w) PF := by
 have lp4 : p < w.length := (aj.mp hp).1
 unfold aAK
 rw [bD]
 refine qH hp rfl rfl (ag rfl) ?_
 rw [dM]
 rw [bD]
 refine qH (bh lp4) rfl rfl (ag rfl) ?_
 rw [dM, List.set_set]
 rw [bD]
 refine qH (bh lp4) rfl rfl (ag rfl) ?_
 rw [dM, List.set_set]
 rw [bD]
 refine qH (bh lp4) rfl rfl (ag rfl) ?_
 rw [dM, List.set_set]
 rw [bD]
 refine qH (bh lp4) rfl rfl (ag rfl) ?_
 rw [dM, List.set_set]
 rw [bD]
 refine qH (bh lp4) rfl rfl (ag rfl) ?_
 rw [dM, List.set_set]
 rw [bD]
 refine qH (bh lp4) rfl rfl (ag rfl) ?_
 rw [dM, List.set_set]
 rw [bD]
 refine qH (bh lp4) rfl rfl (ag rfl) ?_
 rw [dM, List.set_set]
 rw [bD]
 refine qH (bh lp4) rfl rfl (ag rfl) ?_
 rw [dM, List.set_set]
 refine qH (bh lp4) rfl rfl (ag rfl) ?_
 rw [List.set_set]
 exact hP _
theorem find_none (h : mY f = none) : fD f.r = true ∧ ∀ q ∈ items f, hD (gM f.r) q.1 q.2 = true := by
 unfold mY at h
 split at h
 ·rename_i hr
  refine ⟨hr, fun q hq => ?_⟩
  rw [Option.map_eq_none_iff, List.find?_eq_none] at h
  simpa using h q hq
 ·cases h
theorem Z8 : atI (a8 f) 0 = some f.r := g9 (j := 0) rfl
theorem aFl : atI (a8 f) 1 = some f.ev := g9 (j := 1) rfl
theorem ZK : atI (a8 f) 2 = some f.lo := g9 (j := 2) rfl
theorem aEm : atI (a8 f) 3 = some f.sl := g9 (j := 3) rfl
theorem ZS : atI (a8 f) 4 = some f.be := g9 (j := 4) rfl
theorem aFH : atI (a8 f) 5 = some f.ga := g9 (j := 5) rfl
theorem aFF : atI (a8 f) 6 = some f.ho := g9 (j := 6) rfl
theorem aFQ : atI (a8 f) 7 = some f.ta := g9 (j := 7) rfl
theorem aGf : atI (a8 f) 8 = some f.ti := g9 (j := 8) rfl
theorem aGK : atI (a8 f) 9 = some f.hs := g9 (j := 9) rfl
theorem aIQ : begin gI (a9 k ([D.ref p] ++ [f.r]) [f.hs, f.ti, f.ta, f.ho, f.ga, f.be, f.sl, f.lo, f.ev]) = [some (.ref p), some f.r, some f.ev, some f.lo, some f.sl, some f.be, some f.ga, some f.ho, some f.ta, some f.ti, some f.hs, none, none, none, none] := rfl
structure Tl (w : W) (d : D) (f : Fd) : Prop where
 ix : ∀ (i : Int) (x : D), atI (a8 f) i = some x → ∀ P : D → W → Prop, T (aS d (.int i) w) P = P x w
 alt : d = .lst (a8 f) ∨ ∃ q, d = .ref q ∧ w[q]? = some (.lst (a8 f))
theorem vK : Tl w (.lst (a8 f)) f := ⟨fun i x h P => by
 have : aS (.lst (a8 f)) (.int i) w = .ok x w := by simp only [aS, VL, h]
 rw [this, b7], .inl rfl⟩
theorem TU {q : Nat} (hq : w[q]? = some (.lst (a8 f))) : Tl w (.ref q) f := ⟨fun i x h P => by
 have : aS (.ref q) (.int i) w = .ok x w := by simp only [aS, hq, VL, h]
 rw [this, b7], .inr ⟨q, rfl, hq⟩⟩
theorem Tl.ext (tl : Tl w d f) (x : fX w w') : Tl w' d f := by
 rcases tl.alt with rfl | ⟨q, rfl, hq⟩
 ·exact vK
 ·exact TU (by rw [x.at_ q (aj.mp hq).1]; exact hq)
theorem FZ (tl : Tl w d f) (ok : RX f) (hg : mY f = none) (hP : ∀ w', fX w w' → w'[w.length]? = some (.ins k.aF (cS f)) → P (.ref w.length) w') : T (K02.dU k [d] w) P := by
 obtain ⟨hr, hb⟩ := find_none hg
 unfold K02.dU K02.nK
 rw [dO, aIJ]
 simp only [uS, tl.ix 0 _ Z8, tl.ix 1 _ aFl, tl.ix 2 _ ZK, tl.ix 3 _ aEm, tl.ix 4 _ ZS, tl.ix 5 _ aFH, tl.ix 6 _ aFF, tl.ix 7 _ aFQ, tl.ix 8 _ aGf, tl.ix 9 _ aGK, zY, ae, ab, reduceCtorEq]
 rw [YF]
 have hp : (w ++ [MO.ins k.aF []])[w.length]? = some (.ins k.aF []) := by rw [bw (bq _)]; simp
 obtain ⟨w0, e0⟩ : ∃ w0, w0 = w ++ [MO.ins k.aF []] := ⟨_, rfl⟩
 have l0 : w0.length = w.length + 1 := by rw [e0]; simp
 rw [← e0] at hp ⊢
 unfold eO
 rw [WJ, dO]
 have bI : begin gI (a9 k ([D.ref w.length] ++ [f.r]) [f.hs, f.ti, f.ta, f.ho, f.ga, f.be, f.sl, f.lo, f.ev]) = _ := aIQ k
 simp only [j7] at bI ⊢
 rw [bI, bD]
 unfold aCx
 rw [xI, qY]
 simp only [XQ, zY, ae, ab, reduceCtorEq]
 refine YL (n := 4) (lk k) (by omega) (ok _ (by simp [a8])) ?_
 rw [hr]
 simp only [bf, zY, ae, ab, reduceCtorEq]
 rw [aA5, bD]
 refine aDK k ok hr hb fun s13 s14 => ?_
 rw [dM]
 have hp4 : (wL w0 f)[w.length]? = some (.ins k.aF []) := by
  unfold wL wI
  rw [az (by omega), av (by omega)]
  exact hp
 refine XR k hp4 fun s => ?_
 have l4 : (wL w0 f).length = w.length + 3 := by unfold wL wI; rw [de, cw, l0]; rfl
 refine hP _ ⟨by rw [de]; omega, fun i hi => ?_⟩ (bh (by omega))
 rw [az (by omega)]
 unfold wL wI
 rw [az (by omega), av (by omega), e0, av hi]
theorem RT {h : Int} : hD h ("every" : Str) d = aN 1 5 d := rfl
theorem WT {h : Int} : hD h ("lost" : Str) d = aN 0 3 d := rfl
theorem XH {h : Int} : hD h ("slow" : Str) d = aN 1 4 d := rfl
theorem R1 {h : Int} : hD h ("bears" : Str) d = aN 0 3 d := rfl
theorem aAk {h : Int} : hD h ("gap" : Str) d = aN 0 3 d := rfl
theorem YD {h : Int} : hD h ("hold" : Str) d = aN 0 20 d := rfl
theorem QB {h : Int} : hD h ("takes" : Str) d = AX d := rfl
theorem WY {h : Int} : hD h ("ties" : Str) d = lD h d := rfl
theorem SH {h : Int} : hD h ("hosts" : Str) d = aN 0 4 d := rfl
structure Gd (f : Fd) : Prop where
 ok : RX f
 r : fD f.r = true
 ev : aN 1 5 f.ev = true
 lo : aN 0 3 f.lo = true
 sl : aN 1 4 f.sl = true
 be : aN 0 3 (gD f) = true
 ga : aN 0 3 f.ga = true
 ho : aN 0 20 f.ho = true
 ta : AX f.ta = true
 ti : lD (gM f.r) f.ti = true
 hs : aN 0 4 f.hs = true
theorem Gd.first (g : Gd f) : mY f = none := by
 unfold mY
 rw [if_pos g.r, Option.map_eq_none_iff, List.find?_eq_none]
 intro q hq
 simp only [items, bu, cj, cz] at hq
 rcases hq with rfl | rfl | rfl | rfl | rfl | rfl | rfl | rfl | rfl
 ·simp only [RT, g.ev, bf, ax, not_false_eq_true]
 ·simp only [WT, g.lo, bf, ax, not_false_eq_true]
 ·simp only [XH, g.sl, bf, ax, not_false_eq_true]
 ·simp only [R1, g.be, bf, ax, not_false_eq_true]
 ·simp only [aAk, g.ga, bf, ax, not_false_eq_true]
 ·simp only [YD, g.ho, bf, ax, not_false_eq_true]
 ·simp only [QB, g.ta, bf, ax, not_false_eq_true]
 ·simp only [WY, g.ti, bf, ax, not_false_eq_true]
 ·simp only [SH, g.hs, bf, ax, not_false_eq_true]
def m6 (f : Fd) : List D := [f.r, f.ev, f.lo, f.sl, gD f, f.ga, f.ho, f.ta, f.ti, f.hs]
theorem W4 {z : Str} {d : D} (h : w[p]? = some (.ins k.aF (cS f))) (hz : (cS f).lookup z = some d) : T (tD k.aF z (.ref p) w) P = P d w := by
 rw [aBL h, hz]
 simp
theorem rM (h : w[p]? = some (.ins k.aF (cS f))) (hP : P (.tup (m6 f)) w) : T (K02.dI k [.ref p] w) P := by
 unfold K02.dI K02.qK
 rw [dO, aIX, bD]
 have o := fun (z : Str) (d : D) (hz : (cS f).lookup z = some d) (P : D → W → Prop) => W4 k (P := P) h hz
 simp only [o "ranks" f.r rfl, o "every" f.ev rfl, o "lost" f.lo rfl, o "slow" f.sl rfl, o "bears" (gD f) rfl, o "gap" f.ga rfl, o "hold" f.ho rfl, o "takes" f.ta rfl, o "ties" f.ti rfl, o "hosts" f.hs rfl, sU, zY, ae, ab, reduceCtorEq]
 have e : iC [D.lst ([f.r, f.ev, f.lo, f.sl, gD f, f.ga] ++ [f.ho, f.ta, f.ti, f.hs])] w = .ok (.tup (m6 f)) w := rfl
 rw [e, b7]
 exact hP
theorem aCX (e : UD n d = true) (hn : n ≤ 60) : tU d d w = some true := by
 obtain ⟨p, e1, e2, e3⟩ := VB (w := w) e
 refine YY e1 ?_
 unfold SeqAt.shaped
 rw [ak, aq]
 exact ⟨e2, by omega⟩
theorem i5 {v : Int} (h : v ≤ 1000) : i9 6 (.int v) = true := by
 simp only [i9, aq]
 omega
theorem cJ.ext {r c b : Nat} (d : cJ w r c b) (x : fX w w') : cJ w' r c b := by
 obtain ⟨ne, cells, sm, a, h1, h2, h3, h4⟩ := d
 refine ⟨ne, cells, sm, a, ?_, ?_, h3, h4⟩
 ·rw [x.at_ _ (aj.mp h1).1]; exact h1
 ·rw [x.at_ _ (aj.mp h2).1]; exact h2
theorem aHY {b : Bool} : T (ED [.bl b] w) P = P (.int (if b = true then 1 else 0)) w := by unfold T; cases b <;> rfl
def UU : MS := (aK (aT (eV (aA (aQ iC (aA (aB 5) aE)) (aA (aD bJ (eC (.int 1)) (aJ (bB k) 2 aM (aA (aB 0) (aA (eC (.int 5)) aE)))) (aA (aJ (bB k) 2 aM (aA (aB 0) (aA (eC (.int 4)) aE))) (aA (aD bJ (eC (.int 1)) (aJ (bB k) 2 aM (aA (aB 0) (aA (eC (.int 4)) aE)))) aE))))) (aU 9))
 (aK (aT (aD AA (aB 9) (eV (aA (aJ (gG k) 2 aM (aA (aB 0) (aA (eV (aA (eC .non) (aA (eC (.int 0)) (aA (eC (.int 1)) (aA (eC (.int 2)) (aA (eC (.int 3)) aE)))))) aE))) (aA (aJ (bB k) 2 aM (aA (aB 0) (aA (eC (.int 4)) aE))) aE)))) (aU 9))
 (aK (cV (dD "list" c8 (aB 9) (aA (aJ (gG k) 2 aM (aA (aB 0) (aA (eV (aA (eC (.int 0)) (aA (eC (.int 9)) (aA (eC (.int 10)) (aA (eC (.int 20)) (aA (aJ (bB k) 2 aM (aA (aB 0) (aA (eC (.int 21)) aE))) aE)))))) aE))) aE)))
 (a7 (aD T7 (aB 9) (eV (aA (aD gO (aJ (bB k) 2 aM (aA (aB 0) (aA (eC (.int 2)) aE))) (eC (.int 1))) (aA (aB 8) (aA (aJ (bB k) 2 aM (aA (aB 0) (aA (eC (.int 5)) aE))) aE)))))))))
def aCi (rest : MS) : MS := (aK (aT sX (aU 6)) (aK (fW (fU nH (aA (aD aS (eV (aA (aJ (bB k) 2 aM (aA (aB 0) (aA (eC (.int 7)) aE))) (aA (eC (.int 24)) aE))) (aB 1)) aE)) (aU 7) HQ) (aK (aT (aQ iC (aA (aQ oF (aA (cG (vX (aB 6)) [12] (aU 12) cL (aD bJ (aB 12) (bM (aA (aD aS (aB 6) (aB 12)) aE)))) aE)) aE)) (aU 8)) rest)))
theorem aDz : nM k = aK (aT (bM (aA (aD aS (eV (aA (aD bJ (eC (.int 1)) (aJ (bB k) 2 aM (aA (aB 0) (aA (eC (.int 6)) aE)))) (aA (eC (.int 6)) aE))) (aB 1)) (aA (aD aS (eV (aA (aD bJ (eC (.int 1)) (aJ (bB k) 2 aM (aA (aB 0) (aA (eC (.int 4)) aE)))) (aA (eC (.int 4)) aE))) (aB 1)) aE))) (cC 2 (aL (aU 2) (aL (aU 3) cA)))) (aK (aT (aJ (gG k) 2 aM (aA (aB 0) (aA (eV (aA (eC (.int 1)) (aA (eC (.int 8)) (aA (eC (.int 9)) (aA (eC (.int 10)) aE))))) aE))) (aU 4)) (aK (aT (cG (fU nH (aA (aB 3) aE)) [10] (aU 10) cL (aQ iC (aA (cG (fU nH (aA (aB 2) aE)) [11] (aU 11) cL (aD bJ (aB 4) (aJ (bB k) 2 aM (aA (aB 0) (aA (aD kX (eC (.int 13)) (aB 4)) aE))))) aE))) (aU 5)) (aCi k (UU k)))) := rfl
theorem aAj {gi : Int} (hg : gi = 0 ∨ gi = 1) {x m : Int} (x0 : 0 ≤ x) (x1 : x < m) : ∃ H : Nat, atI [D.int (1 + x), .int m] gi = some (.int (H : Nat)) ∧ 1 ≤ H ∧ (H : Int) ≤ m := by
 rcases hg with rfl | rfl
 ·exact ⟨(1 + x).toNat, by rw [at0, show ((1 + x).toNat : Int) = 1 + x by omega], by omega, by omega⟩
 ·refine ⟨m.toNat, ?_, by omega, by omega⟩
  rw [show ((m.toNat : Nat) : Int) = m by omega]
  exact g9 (j := 1) rfl
theorem aAF {t : Int × Int × Int} (h : t.1 ≤ 1000 ∧ t.2.1 ≤ 1000 ∧ t.2.2 ≤ 1000) : i9 5 (cQ t) = true := by
 obtain ⟨a, c, d⟩ := t
 simp only [cQ, i9, List.all_cons, List.all_nil, ck, dc, Bool.and_true, ak, aq]
 simp only at h
 omega
theorem aDW {H N : Nat} {ds : List D} {us : List (Int × Int × Int)} {e l s g hs x : Int} {be ho : D} {bt : Bool} (hr : PN H N ds) (n1 : 1 ≤ N) (n4 : N ≤ 4) (H1 : 1 ≤ H) (H6 : H ≤ 6) (hc : G6 H us) (e0 : 0 ≤ e) (e1 : e < 5) (l0 : 0 ≤ l) (l1 : l < 4) (s0 : 0 ≤ s) (s1 : s < 4) (hb : be ∈ ([.non, .int 0, .int 1, .int 2, .int 3] : List D)) (g0 : 0 ≤ g) (g1 : g < 4) (x0 : 0 ≤ x) (x1 : x < 21) (hh : ho ∈ ([.int 0, .int 9, .int 10, .int 20, .int x] : List D)) (h0 : 0 ≤ hs) (h1 : hs < 5) :
  Gd ⟨.tup ds, .int (1 + e), .int l, .int (1 + s), be, .int g, ho, .bl bt, .tup ((us.mergeSort G1).map cQ), .int hs⟩ := by
 obtain ⟨r1, r2, r0, rest, er, el⟩ := WK hr n1 n4 H1 H6
 obtain ⟨c1, c2, c3⟩ := hc
 have ew : gM (.tup ds) = (H : Int) := by rw [er]; show ((r0.length : Nat) : Int) = _; omega
 have ob : i9 6 be = true ∧ (be = .non ∨ aN 0 3 be = true) := by
  simp only [bu, cj, cz] at hb
  rcases hb with rfl | rfl | rfl | rfl | rfl
  ·exact ⟨rfl, .inl rfl⟩
  ·exact ⟨rfl, .inr rfl⟩
  ·exact ⟨rfl, .inr rfl⟩
  ·exact ⟨rfl, .inr rfl⟩
  ·exact ⟨rfl, .inr rfl⟩
 have wi : ∀ {lo hi v : Int}, lo ≤ v → v ≤ hi → aN lo hi (.int v) = true := fun a b => by simp [aN, a, b]
 have oh : i9 6 ho = true ∧ aN 0 20 ho = true := by
  simp only [bu, cj, cz] at hh
  rcases hh with rfl | rfl | rfl | rfl | rfl
  ·exact ⟨rfl, rfl⟩
  ·exact ⟨rfl, rfl⟩
  ·exact ⟨rfl, rfl⟩
  ·exact ⟨rfl, rfl⟩
  ·exact ⟨i5 (by omega), wi (by omega) (by omega)⟩
 have ot : i9 6 (.tup ((us.mergeSort G1).map cQ)) = true := by
  have e5 : (us.mergeSort G1).length = us.length := List.length_mergeSort ..
  simp only [i9, ak, bg, aq, ay, e5]
  refine ⟨fun y hy => ?_, by omega⟩
  obtain ⟨t, ht, rfl⟩ := cb.mp hy
  have ht := c3 t (List.mem_mergeSort.mp ht)
  exact aAF ⟨by omega, by omega, by omega⟩
 refine ⟨fun d hd => ?_, r1, wi (by omega) (by omega), wi (by omega) (by omega), wi (by omega) (by omega), ?_, wi (by omega) (by omega), oh.2, rfl, ?_, wi (by omega) (by omega)⟩
 ·simp only [a8, bu, cj, cz] at hd
  rcases hd with rfl | rfl | rfl | rfl | rfl | rfl | rfl | rfl | rfl | rfl
  ·exact r2
  ·exact i5 (by omega)
  ·exact i5 (by omega)
  ·exact i5 (by omega)
  ·exact ob.1
  ·exact i5 (by omega)
  ·exact oh.1
  ·rfl
  ·exact ot
  ·exact i5 (by omega)
 ·unfold gD
  rcases ob.2 with rfl | h
  ·exact wi (by omega) (by omega)
  ·cases be <;> first | exact h | (simp [aN] at h; done)
 ·show lD (gM (.tup ds)) _ = true
  rw [ew]
  exact QF c1 c2 c3
theorem aEi {r c b H N : Nat} {ds : List D} {us : List (Int × Int × Int)} {s1 s2 s3 s4 s6 s7 s9 s10 s11 s12 : Option D} (dk : cJ w r c (b + 20)) (hr : PN H N ds) (n1 : 1 ≤ N) (n4 : N ≤ 4) (H1 : 1 ≤ H) (H6 : H ≤ 6) (hc : G6 H us) (hP : ∀ f w', Gd f → cJ w' r c b → PF (.rt (.lst (a8 f))) w') : T (UU k [some (.ref r), s1, s2, s3, s4, some (.lst ds), s6, s7, some (.tup ((us.mergeSort G1).map cQ)), s9, s10, s11, s12] w) PF := by
 obtain ⟨ti, eti⟩ : ∃ ti, ti = D.tup ((us.mergeSort G1).map cQ) := ⟨_, rfl⟩
 rw [← eti]
 unfold UU
 rw [bD]
 simp only [FU, aBe, aFW, zY, ae, ab, reduceCtorEq]
 refine fF (b := b + 19) dk (by omega) (by omega) fun e w1 e0 e1 d1 k1 => ?_
 simp only [mO, zY, ae, ab, reduceCtorEq]
 refine fF (b := b + 18) d1 (by omega) (by omega) fun l w2 l0 l1 d2 k2 => ?_
 try simp only [zY, ae, ab, reduceCtorEq]
 refine fF (b := b + 17) d2 (by omega) (by omega) fun s w3 z0 z1 d3 k3 => ?_
 simp only [mO, zY, ae, ab, reduceCtorEq]
 rw [bD]
 simp only [zY, ae, ab, reduceCtorEq]
 refine NM (b := b + 16) d3 (by simp) (by simp) fun be w4 hb d4 k4 => ?_
 try simp only [zY, ae, ab, reduceCtorEq]
 refine fF (b := b + 15) d4 (by omega) (by omega) fun g w5 g0 g1 d5 k5 => ?_
 try simp only [zY, ae, ab, reduceCtorEq]
 rw [X2 (xs := _) (zs := _) rfl rfl]
 refine ⟨by rw [sizeLine_eq]; simp, ?_⟩
 obtain ⟨L, eL⟩ : ∃ L, L = ([D.tup ds, .int (1 + e), .int l, .int (1 + s)] ++ [be, .int g] : List D) := ⟨_, rfl⟩
 have lL : L.length = 6 := by rw [eL]; rfl
 obtain ⟨q, eq⟩ : ∃ q, q = w5.length := ⟨_, rfl⟩
 rw [← eL, ← eq]
 obtain ⟨w6, e6⟩ : ∃ w6, w6 = w5 ++ [MO.lst L] := ⟨_, rfl⟩
 rw [← e6]
 have hq : w6[q]? = some (.lst L) := by rw [e6, eq, bw (bq _)]; simp
 have d6 : cJ w6 r c (b + 15) := cJ.ext d5 (by rw [e6]; exact fX.refl.app _)
 obtain ⟨nr, nc⟩ : q ≠ r ∧ q ≠ c := by
  obtain ⟨_, cells, sm, a, h1, h2, _⟩ := d5
  have a1 := (aj.mp h1).1
  have a2 := (aj.mp h2).1
  omega
 clear e6 eq
 rw [bD]
 simp only [tyL hq, zY, ae, ab, reduceCtorEq]
 refine fF (b := b + 14) d6 (by omega) (by omega) fun x w7 x0 x1 d7 k7 => ?_
 try simp only [zY, ae, ab, reduceCtorEq]
 refine NM (b := b + 13) d7 (by simp) (by simp) fun ho w8 hh d8 k8 => ?_
 have hq8 : w8[q]? = some (.lst L) := by rw [k8.2 q nr nc, k7.2 q nr nc]; exact hq
 simp only [tyL hq8, FI hq8, zY, ae, ab, reduceCtorEq]
 refine ⟨by rw [sizeLine_eq]; omega, ?_⟩
 obtain ⟨w9, e9⟩ : ∃ w9, w9 = w8.set q (.lst (L ++ [ho])) := ⟨_, rfl⟩
 rw [← e9]
 have hq9 : w9[q]? = some (.lst (L ++ [ho])) := by rw [e9]; exact bh (aj.mp hq8).1
 have d9 : cJ w9 r c (b + 13) := by rw [e9]; exact BI d8 nr nc
 clear e9
 refine fF (b := b + 12) d9 (by omega) (by omega) fun bt w10 bt0 bt1 d10 k10 => ?_
 simp only [IM, EV, ah, bj, zY, ae, ab, reduceCtorEq]
 refine fF (b := b + 11) d10 (by omega) (by omega) fun hs w11 h0 h1 d11 k11 => ?_
 have hq11 : w11[q]? = some (.lst (L ++ [ho])) := by rw [k11.2 q nr nc, k10.2 q nr nc]; exact hq9
 have ar : ∀ (ys : List D) (P : D → W → Prop), ys.length ≤ 10 → T (Pc.T7 (.ref q) (.lst ys) w11) P = P (.lst (L ++ [ho] ++ ys)) w11 := fun ys P hy => by
  have e1 : EE (.ref q) w11 = some (L ++ [ho]) := by simp only [EE, hq11]
  have e2 : EE (.lst ys) w11 = some ys := rfl
  have : Pc.T7 (.ref q) (.lst ys) w11 = .ok (.lst (L ++ [ho] ++ ys)) w11 := by
   simp only [Pc.T7, e1, e2, if_pos (show (L ++ [ho]).length + ys.length ≤ sizeLine by rw [sizeLine_eq, cw]; simp; omega)]
  rw [this, b7]
 try simp only [zY, ae, ab, reduceCtorEq]
 rw [ar _ _ (by simp)]
 rw [eL, eti]
 exact hP ⟨.tup ds, .int (1 + e), .int l, .int (1 + s), be, .int g, ho, .bl (bt == 1), .tup ((us.mergeSort G1).map cQ), .int hs⟩ w11 (aDW hr n1 n4 H1 H6 hc e0 e1 l0 l1 z0 z1 hb g0 g1 x0 x1 hh h0 h1) (d11.less (by omega))
theorem aGO {r c b : Nat} {gi : Int} (dk : cJ w r c (b + 300)) (hg : gi = 0 ∨ gi = 1) (hP : ∀ f w', Gd f → cJ w' r c b → P (.lst (a8 f)) w') : T (K02.mR k [.ref r, .int gi] w) P := by
 unfold K02.mR
 rw [dO, aIS, aDz, bD]
 simp only [FU, zY, ae, ab, reduceCtorEq]
 refine fF (b := b + 299) dk (by omega) (by omega) fun x w1 x0 x1 d1 k1 => ?_
 obtain ⟨H, eH, H1, H6⟩ := aAj hg x0 x1
 simp only [mO, tZ, tW, eH, ah, bj, zY, ae, ab, reduceCtorEq]
 refine fF (b := b + 298) d1 (by omega) (by omega) fun y w2 y0 y1 d2 k2 => ?_
 obtain ⟨N, eN, N1, N4⟩ := aAj hg y0 y1
 simp only [mO, tZ, tW, eN, ah, bj, zY, ae, ab, reduceCtorEq]
 rw [bD]
 simp only [aBe, zY, ae, ab, reduceCtorEq]
 refine NM (b := b + 297) d2 (by simp) (by simp) fun lo w3 hlo d3 k3 => ?_
 obtain ⟨low, rfl, l1, l12⟩ : ∃ low : Int, lo = .int low ∧ 1 ≤ low ∧ low ≤ 10 := by
  simp only [bu, cj, cz] at hlo
  rcases hlo with rfl | rfl | rfl | rfl
  ·exact ⟨_, rfl, by omega, by omega⟩
  ·exact ⟨_, rfl, by omega, by omega⟩
  ·exact ⟨_, rfl, by omega, by omega⟩
  ·exact ⟨_, rfl, by omega, by omega⟩
 try simp only [zY, ae, ab, reduceCtorEq]
 rw [bD]
 simp only [CM (n := (N : Int)) (by omega) (by omega), zY, ae, ab, reduceCtorEq]
 refine ⟨xH _ (by rw [oL]; omega), ?_⟩
 have eN : ((N : Nat) : Int).toNat = N := by omega
 have eH0 : ((H : Nat) : Int).toNat = H := by omega
 rw [eN]
 refine EK (it := jM 0 N) (fun i acc w' => cJ w' r c (b + 200 + 6 * (4 - i)) ∧ PN H i acc) (fun _ _ _ _ => trivial) ⟨d3.less (by omega), rfl, fun d hd => nomatch hd⟩ (fun i x acc w4 hx hI => ?_) (fun acc w4 hI => ?_)
 ·obtain ⟨d4, hl, hr⟩ := hI
  obtain ⟨hz, rfl⟩ := A8 hx
  simp only [eA, CM (n := (H : Int)) (by omega) (by omega), zY, ae, ab, reduceCtorEq]
  refine ⟨xH _ (by rw [oL]; omega), ?_⟩
  rw [eH0]
  refine aFA (eh := aB 0) (b := b + 200 + 6 * (4 - (i + 1))) l1 (by omega) (d4.less (by omega)) (by omega) (fun x w P => by simp only [eA, zY, ae, ab, reduceCtorEq]) (fun x w P => by simp only [eA, zY, ae, ab, reduceCtorEq]) fun ns w5 d5 hn hns => ?_
  simp only [aFW]
  refine ⟨d5, by simp [hl], fun d hd => ?_⟩
  rcases dh.mp hd with h | h
  ·exact hr d h
  ·rw [da.mp h]
   exact ⟨ns, rfl, hn, hns⟩
 ·obtain ⟨d4, hr⟩ := hI
  rw [oL] at hr
  unfold aCi
  try simp only [zY, ae, ab, reduceCtorEq]
  rw [bD]
  simp only [aGp, zY, ae, ab, reduceCtorEq]
  obtain ⟨q, eq⟩ : ∃ q, q = w4.length := ⟨_, rfl⟩
  obtain ⟨w5, e5⟩ : ∃ w5, w5 = w4 ++ [MO.dT []] := ⟨_, rfl⟩
  rw [← e5, ← eq]
  have hq : w5[q]? = some (.dT (cY [])) := by rw [e5, eq, bw (bq _)]; simp [cY]
  have d5 : cJ w5 r c (b + 200) := cJ.ext (d4.less (by omega)) (by rw [e5]; exact fX.refl.app _)
  obtain ⟨nr, nc⟩ : q ≠ r ∧ q ≠ c := by
   obtain ⟨_, cells, sm, a, h1, h2, _⟩ := d4
   have a1 := (aj.mp h1).1
   have a2 := (aj.mp h2).1
   omega
  clear e5 eq
  rw [bD]
  simp only [FU, zY, ae, ab, reduceCtorEq]
  refine fF (b := b + 199) d5 (by omega) (by omega) fun m w6 m0 m1 d6 k6 => ?_
  obtain ⟨M, eM, M24⟩ : ∃ M : Nat, atI [D.int m, .int 24] gi = some (.int (M : Nat)) ∧ M ≤ 24 := by
   rcases hg with rfl | rfl
   ·exact ⟨m.toNat, by rw [at0, show ((m.toNat : Nat) : Int) = m by omega], by omega⟩
   ·exact ⟨24, rfl, by omega⟩
  have hq6 : w6[q]? = some (.dT (cY [])) := by rw [k6.2 q nr nc]; exact hq
  simp only [tZ, tW, eM, ah, bj, CM (n := (M : Int)) (by omega) (by omega), zY, ae, ab, reduceCtorEq]
  have eM0 : ((M : Nat) : Int).toNat = M := by omega
  rw [eM0]
  refine Lb.uW (it := jM 0 M) (fun i σ w' => cJ w' r c (b + 100 + 3 * (24 - i)) ∧ (∃ us, w'[q]? = some (.dT (cY us)) ∧ G6 H us) ∧ ∃ s7, σ = [some (.ref r), some (.int gi), some (.int (H : Nat)), some (.int (N : Nat)), some (.int low), some (.lst acc), some (.ref q), s7, none, none, none, none, none]) (fun _ _ _ _ => trivial)
   ⟨d6.less (by omega), ⟨[], hq6, List.Pairwise.nil, by simp, fun t ht => nomatch ht⟩, _, rfl⟩ (fun i x σ w7 hx hI => ?_) (fun σ w7 hI => ?_)
  ·obtain ⟨d7, ⟨us, hq7, hc⟩, s7, rfl⟩ := hI
   obtain ⟨hz, rfl⟩ := A8 hx
   have hz : i < M := hz
   simp only [zY, ae, ab, reduceCtorEq]
   refine aGB (b := b + 100 + 3 * (24 - (i + 1))) (d7.less (by omega)) hq7 nr nc hc H1 (by omega) fun w8 us' d8 hq8 hc8 => ?_
   exact ⟨d8, ⟨us', hq8, hc8⟩, _, rfl⟩
  ·obtain ⟨d7, ⟨us, hq7, hc⟩, s7, rfl⟩ := hI
   try simp only [dM, zY, ae, ab, reduceCtorEq]
   rw [bD, G3]
   refine Y4 (e6 := aB 6) (v := 12) hq7 hc.1 hc.2.1 (fun w P => by unfold T; rfl) (fun x w P => by unfold T; rfl) (fun x w P => by unfold T; rfl) ?_
   try simp only [zY, ae, ab, reduceCtorEq]
   refine aEi k (b := b) ((BI d7 nr nc).less (by omega)) hr N1 (by omega) H1 (by omega) hc fun f w' gf df => ?_
   exact hP f w' gf df
def aHe : Option Str → D
 | some z => .str z
 | none => .non
def T3 (f : Fd) : Nat → D → Fd
 | 0, d => { f with r := d }
 | 1, d => { f with ev := d }
 | 2, d => { f with lo := d }
 | 3, d => { f with sl := d }
 | 4, d => { f with be := d }
 | 5, d => { f with ga := d }
 | 6, d => { f with ho := d }
 | 7, d => { f with ta := d }
 | 8, d => { f with ti := d }
 | 9, d => { f with hs := d }
 | _, _ => f
theorem lt10 {j : Nat} (hj : j < 10) : j = 0 ∨ j = 1 ∨ j = 2 ∨ j = 3 ∨ j = 4 ∨ j = 5 ∨ j = 6 ∨ j = 7 ∨ j = 8 ∨ j = 9 := by omega
theorem aA3 {j : Nat} (ok : RX f) (e : i9 6 d = true) : RX (T3 f j d) := by
 have o : ∀ x ∈ a8 f, i9 6 x = true := ok
 simp only [a8, bu, cj, cz, forall_eq_or_imp, forall_eq] at o
 obtain ⟨o0, o1, o2, o3, o4, o5, o6, o7, o8, o9⟩ := o
 intro x hx
 by_cases hj : j < 10
 ·rcases lt10 hj with rfl | rfl | rfl | rfl | rfl | rfl | rfl | rfl | rfl | rfl <;> (simp only [T3, a8, bu, cj, cz] at hx; rcases hx with rfl | rfl | rfl | rfl | rfl | rfl | rfl | rfl | rfl | rfl <;> assumption)
 ·have : T3 f j d = f := by
   unfold T3
   split <;> first | rfl | omega
  rw [this] at hx
  exact ok x hx
end
section
variable (k : K02.bH) {w w' : W} {P : D → W → Prop} {PF : Fl → W → Prop} {f : Fd} {p n : Nat} {d : D}
theorem aHU (x0 x1 x2 : D) : begin iZ [x0, x1, x2] = [some x0, some x1, some x2] := rfl
theorem aHZ (x0 : D) : begin jC [x0] = [some x0, none, none] := rfl
theorem aHC (x0 x1 : D) : begin iX [x0, x1] = [some x0, some x1, none, none] := rfl
theorem rG (lo hi : Int) (e : i9 n d = true) : T (K02.bS k [d, .int lo, .int hi] w) P = P (.bl (aN lo hi d)) w := by
 unfold K02.bS K02.lU
 rw [dO, aHU]
 simp only [aEz e, N0 e, zY, ae, ab, reduceCtorEq]
 cases d <;> simp only [aN, zY, ae, ab, reduceCtorEq]
 rename_i i
 by_cases h : lo ≤ i <;> simp [h]
def aBb : D → Bool
 | .tup xs => (decide (1 ≤ xs.length) && decide (xs.length ≤ 4)) && (xs.all jR && (xs.all (fun r => (b8 r).length == ((xs.map b8).headD []).length && (decide (1 ≤ (b8 r).length) && decide ((b8 r).length ≤ 6))) && xs.all fun r => (b8 r).all (aN 1 12)))
 | _ => false
theorem aDN : fD d = aBb d := by
 cases d <;> first | rfl | skip
 rename_i xs
 cases xs with
 | nil => rfl
 | cons x rest =>
  simp only [fD, aBb]
  congr 1
  rw [Bool.eq_iff_iff]
  have hd : ((x :: rest).map b8).headD [] = b8 x := rfl
  rw [hd]
  simp only [ak, bg, aq, beq_iff_eq, Bool.not_eq_true', List.mem_flatMap]
  have r6 : ∀ y : D, yB y = true ↔ jR y = true ∧ (b8 y).length ≤ 6 := fun y => by cases y <;> simp [yB, jR, b8]
  constructor
  ·rintro ⟨h1, h2, h3, h4⟩
   have n1 : 1 ≤ (b8 x).length := by
    cases hx : b8 x with
    | nil => rw [hx] at h2; cases h2
    | cons => simp
   exact ⟨fun y hy => ((r6 y).mp (h1 y hy)).1, fun y hy => ⟨h3 y hy, by have := h3 y hy; omega, ((r6 y).mp (h1 y hy)).2⟩, fun y hy z hz => h4 z ⟨y, hy, hz⟩⟩
  ·rintro ⟨h1, h2, h3⟩
   refine ⟨fun y hy => (r6 y).mpr ⟨h1 y hy, (h2 y hy).2.2⟩, ?_, fun y hy => (h2 y hy).1, fun z ⟨y, hy, hz⟩ => h3 y hy z hz⟩
   have := (h2 x (bc ..)).2.1
   cases hx : b8 x with
   | nil => rw [hx] at this; simp at this
   | cons => rfl
theorem OO {p : D → Bool} : ∀ {ys : List D}, (ys.filter fun y => !p y).isEmpty = ys.all p
 | [] => rfl
 | y :: ys => by
  have := OO (p := p) (ys := ys)
  cases h : p y <;> simp [h, this]
theorem OJ {ys : List D} : T (pT (.lst ys) (.lst []) w) P = P (.bl (!ys.isEmpty)) w := by
 rw [UG, SU]
 simp
theorem aBc (e : i9 (n + 2) d = true) (hP : P (.bl (fD d)) w) : T (K02.jI k [d] w) P := by
 rw [aDN] at hP
 unfold K02.jI K02.nS
 rw [dO, aHZ, bD]
 simp only [A4 e, zY, ae, ab, reduceCtorEq]
 cases d <;> simp only [jR, aBb, zY, ae, ab, reduceCtorEq] at hP ⊢ <;> first | exact hP | skip
 rename_i xs
 obtain ⟨e1, e2⟩ := oH e
 try simp only [yI, zY, ae, ab, reduceCtorEq]
 by_cases c1 : 1 ≤ xs.length ∧ xs.length ≤ 4
 case neg =>
  have hf : (decide (1 ≤ xs.length) && decide (xs.length ≤ 4)) = false := by
   rw [Bool.and_eq_false_iff]
   simp only [decide_eq_false_iff_not]
   omega
  rw [hf, Bool.false_and] at hP
  by_cases c2 : 1 ≤ xs.length
  ·have i1 : decide ((1 : Int) ≤ (xs.length : Nat)) = true := by simp; omega
   have i2 : decide (((xs.length : Nat) : Int) ≤ 4) = false := by simp; omega
   simp only [i1, i2, cc, zY, ae, ab, reduceCtorEq]
   exact hP
  ·have i1 : decide ((1 : Int) ≤ (xs.length : Nat)) = false := by simp; omega
   simp only [i1, cc, zY, ae, ab, reduceCtorEq]
   exact hP
 have i1 : decide ((1 : Int) ≤ (xs.length : Nat)) = true := by simp; omega
 have i2 : decide (((xs.length : Nat) : Int) ≤ 4) = true := by simp; omega
 have j1 : decide (1 ≤ xs.length) = true := by simp [c1.1]
 have j2 : decide (xs.length ≤ 4) = true := by simp [c1.2]
 simp only [i1, i2, j1, j2, Bool.true_and, bf, tL, zY, ae, ab, reduceCtorEq] at hP ⊢
 refine ⟨xH _ (by omega), ?_⟩
 refine MN (it := ⟨xs, always⟩) xs (fun x => x) (fun x => x) (fun x => !jR x) (by simp) trivial (fun x hx => ?_) ?_
 ·simp only [eA, A4 (e1 x hx), zY, ae, ab, reduceCtorEq]
  exact fun _ => trivial
 rw [List.map_id']
 simp only [OJ, OO, zY, ae, ab, reduceCtorEq]
 cases c2 : xs.all jR with
 | false =>
  rw [c2, Bool.false_and] at hP
  simp only [cc, zY, ae, ab, reduceCtorEq]
  exact hP
 | true =>
 rw [c2, Bool.true_and] at hP
 simp only [bf, zY, ae, ab, reduceCtorEq]
 rw [bg] at c2
 obtain ⟨rs, rfl⟩ : ∃ rs : List (List D), xs = rs.map D.tup := by
  refine ⟨xs.map b8, ?_⟩
  rw [cy]
  refine (List.map_id' xs).symm.trans (List.map_congr_left fun x hx => ?_)
  have := c2 x hx
  cases x <;> first | rfl | (simp [jR] at this; done)
 obtain ⟨r0, rest, rfl⟩ : ∃ r0 rest, rs = r0 :: rest := by
  cases rs with
  | nil => simp at c1
  | cons a b => exact ⟨a, b, rfl⟩
 have o1 : ∀ r ∈ r0 :: rest, ∀ x ∈ r, i9 n x = true := fun r hr x hx => (oH (e1 (.tup r) (List.mem_map_of_mem hr))).1 x hx
 have o2 : ∀ r ∈ r0 :: rest, r.length ≤ 70000 := fun r hr => (oH (e1 (.tup r) (List.mem_map_of_mem hr))).2
 rw [show ((((r0 :: rest).map D.tup).map b8).headD []) = r0 from rfl] at hP
 rw [bD]
 simp only [tL, zY, ae, ab, reduceCtorEq]
 refine ⟨by rw [sizeLine_eq]; simp at c1 ⊢; omega, ?_⟩
 refine MN (it := ⟨(r0 :: rest).map D.tup, always⟩) ((r0 :: rest).map D.tup) (fun x => x) (fun x => x) (fun r => !((b8 r).length == r0.length && (decide (1 ≤ (b8 r).length) && decide ((b8 r).length ≤ 6)))) (by simp) trivial (fun x hx => ?_) ?_
 ·obtain ⟨r, hr, rfl⟩ := cb.mp hx
  simp only [eA, yI, at0, cg, GC, b8, zY, ae, ab, reduceCtorEq]
  by_cases g1 : r.length = r0.length
  ·have b1 : ((r.length : Int) == (r0.length : Int)) = true := by rw [beq_iff_eq]; omega
   have b2 : (r.length == r0.length) = true := by rw [beq_iff_eq]; omega
   by_cases g2 : 1 ≤ r.length
   ·have b3 : decide ((1 : Int) ≤ (r.length : Nat)) = true := by simp; omega
    have b4 : decide (1 ≤ r.length) = true := by simp; omega
    have b5 : decide (((r.length : Nat) : Int) ≤ 6) = decide (r.length ≤ 6) := by rw [Bool.eq_iff_iff]; simp; omega
    simp only [b1, b2, b3, b4, b5, bf, Bool.true_and, zY, ae, ab, reduceCtorEq]
    simp [g2]
    rfl
   ·have b3 : decide ((1 : Int) ≤ (r.length : Nat)) = false := by rw [decide_eq_false_iff_not]; omega
    have b4 : decide (1 ≤ r.length) = false := by rw [decide_eq_false_iff_not]; exact g2
    simp only [b1, b2, b3, b4, bf, cc, Bool.true_and, Bool.false_and, zY, ae, ab, reduceCtorEq]
    simp [g2]
  ·have b1 : ((r.length : Int) == (r0.length : Int)) = false := by rw [beq_eq_false_iff_ne]; omega
   have b2 : (r.length == r0.length) = false := by rw [beq_eq_false_iff_ne]; exact g1
   simp only [b1, b2, cc, Bool.false_and, zY, ae, ab, reduceCtorEq]
   simp
 rw [List.map_id']
 simp only [OJ, OO, zY, ae, ab, reduceCtorEq]
 cases c3 : ((r0 :: rest).map D.tup).all fun r => (b8 r).length == r0.length && (decide (1 ≤ (b8 r).length) && decide ((b8 r).length ≤ 6)) with
 | false =>
  rw [c3, Bool.false_and] at hP
  simp only [cc, zY, ae, ab, reduceCtorEq]
  exact hP
 | true =>
 rw [c3, Bool.true_and] at hP
 simp only [bf, zY, ae, ab, reduceCtorEq]
 rw [bD, oY]
 simp only [tL, zY, ae, ab, reduceCtorEq]
 refine Lb.aGF (it := ⟨(r0 :: rest).map D.tup, always⟩) (fun _ r => (b8 r).all (aN 1 12)) (fun σ => ∃ s1 s2, σ = [some (.tup ((r0 :: rest).map D.tup)), s1, s2]) trivial ⟨_, _, rfl⟩ (fun i x σ hx ⟨s1, s2, e⟩ => ?_) ?_
 ·subst e
  obtain ⟨r, hr, rfl⟩ := cb.mp (cf hx)
  simp only [tL, b8, zY, ae, ab, reduceCtorEq]
  refine ⟨xH _ (by have := o2 r hr; omega), ?_⟩
  refine MN (it := ⟨r, always⟩) r (fun x => x) (fun x => x) (fun x => !aN 1 12 x) (by simp) trivial (fun x hx => ?_) ?_
  ·simp only [eA, rG k 1 12 (o1 r hr x hx), zY, ae, ab, reduceCtorEq]
   exact fun _ => trivial
  rw [List.map_id']
  simp only [OJ, OO, zY, ae, ab, reduceCtorEq]
  cases r.all (aN 1 12) with
  | false =>
   simp only [cc, zY, ae, ab, reduceCtorEq]
   (try exact ⟨rfl, rfl⟩)
  | true =>
   simp only [bf, zY, ae, ab, reduceCtorEq]
   exact ⟨_, rfl, _, _, rfl⟩
 ·have ea : ∀ (l : List D) (i : Nat), allI (fun _ r => (b8 r).all (aN 1 12)) i l = l.all fun r => (b8 r).all (aN 1 12) := by
   intro l
   induction l with
   | nil => intro i; rfl
   | cons a l ih => intro i; simp only [allI, ih, List.all_cons]
  rw [ea]
  cases c4 : ((r0 :: rest).map D.tup).all fun r => (b8 r).all (aN 1 12) with
  | false =>
   rw [c4] at hP
   rw [if_neg (by decide)]
   simp only [Lb.Turn, zY, ae, ab, reduceCtorEq]
   exact hP
  | true =>
   rw [c4] at hP
   rw [if_pos rfl]
   rintro σ ⟨s1, s2, rfl⟩
   simp only [Lb.Turn, zY, ae, ab, reduceCtorEq]
   exact hP
def qQ (h : Int) : Int × Int → List D → Bool
 | _, [] => true
 | p, x :: xs => hX h x && (HT.lexLt [p.1, p.2] [(numsOf x).1, (numsOf x).2] && qQ h (numsOf x) xs)
theorem KN {h : Int} : ∀ (p : Int × Int) (xs : List D), qQ h p xs = (xs.all (hX h) && iM (p :: xs.map numsOf))
 | _, [] => rfl
 | p, x :: xs => by
  simp only [qQ, KN (numsOf x) xs, List.all_cons, cg, iM]
  cases hX h x <;> cases HT.lexLt [p.1, p.2] [(numsOf x).1, (numsOf x).2] <;> simp
theorem V8 {h : Int} {x : D} (e : hX h x = true) : HT.lexLt [-1, -1] [(numsOf x).1, (numsOf x).2] = true := by
 obtain ⟨t, rfl⟩ := aBA e
 have e1 : aN 0 (h - 1) (.int t.1) = true := by
  have e2 : (aN 0 (h - 1) (.int t.1) && (aN 0 9 (.int t.2.1) && aN 1 11 (.int t.2.2))) = true := e
  simp only [ak] at e2
  exact e2.1
 simp only [aN, ak, aq] at e1
 have n1 : numsOf (cQ t) = (t.1, t.2.1) := rfl
 rw [n1]
 simp only [HT.lexLt_cons, HT.lexLt_nil_nil]
 have : (-1 : Int) < t.1 := by omega
 have n : ¬ (-1 : Int) = t.1 := by omega
 simp [this, n]
theorem aDa {h : Int} {xs : List D} : qQ h (-1, -1) xs = (xs.all (hX h) && iM (xs.map numsOf)) := by
 rw [KN]
 cases xs with
 | nil => rfl
 | cons x xs =>
  cases e : hX h x with
  | false => simp [e]
  | true => simp only [cg, iM, V8 e, Bool.true_and]
theorem aHc {x y u v : Int} : Pc.lexLeI [x, y] [u, v] = !HT.lexLt [u, v] [x, y] := by
 simp only [HT.lexLt_cons, HT.lexLt_nil_nil]
 by_cases c1 : u = x
 ·subst c1
  by_cases c2 : v = y
  ·subst c2
   simp [Pc.lexLeI, Ob.lexAt]
  ·have c3 : ¬ y = v := fun e => c2 e.symm
   rcases Int.lt_or_gt_of_ne c2 with h | h
   ·have n1 : ¬ y ≤ v := by omega
    simp [Pc.lexLeI, Ob.lexAt, c2, c3, n1, h]
   ·have n1 : y ≤ v := by omega
    have n2 : ¬ v < y := by omega
    simp [Pc.lexLeI, Ob.lexAt, c2, c3, n1, n2]
 ·have c3 : ¬ x = u := fun e => c1 e.symm
  rcases Int.lt_or_gt_of_ne c1 with h | h
  ·have n1 : ¬ x ≤ u := by omega
   simp [Pc.lexLeI, Ob.lexAt, c1, c3, n1, h]
  ·have n1 : x ≤ u := by omega
   have n2 : ¬ u < x := by omega
   simp [Pc.lexLeI, Ob.lexAt, c1, c3, n1, n2]
theorem aE0 {a c l : D} : T (g6 (.tup [a, c, l]) none (some 2) w) P = P (.tup [a, c]) w := by
 have : g6 (.tup [a, c, l]) none (some 2) w = .ok (.tup [a, c]) w := rfl
 rw [this, b7]
theorem aIq {a c x y : Int} : T (leA (.tup [.int a, .int c]) (.tup [.int x, .int y]) w) P = P (.bl (!HT.lexLt [x, y] [a, c])) w := by
 have : leA (.tup [.int a, .int c]) (.tup [.int x, .int y]) w = .ok (.bl (Pc.lexLeI [a, c] [x, y])) w := rfl
 rw [this, b7, aHc]
theorem aHy {a c l : D} : atI [a, c, l] 0 = some a := rfl
theorem aG7 {a c l : D} : atI [a, c, l] 1 = some c := rfl
theorem aH3 {a c l : D} : atI [a, c, l] 2 = some l := rfl
def HQ : MS := (aK (dX (fE (bT (cU (aQ (fS iB) (aA (aB 3) (aA (eC (.ty "tuple")) aE))))) (fE (bC (aD pT (aQ cX (aA (aB 3) aE)) (eC (.int 3)))) (bT (cU (aJ (bS k) 3 aM (aA (aD aS (aB 3) (eC (.int 0))) (aA (eC (.int 0)) (aA (aD kX (aB 1) (eC (.int 1))) aE)))))))) (a7 (eC (.bl false))) aX)
 (aK (dX (fE (bT (cU (aJ (bS k) 3 aM (aA (aD aS (aB 3) (eC (.int 1))) (aA (eC (.int 0)) (aA (eC (.int 9)) aE)))))) (fE (bT (cU (aJ (bS k) 3 aM (aA (aD aS (aB 3) (eC (.int 2))) (aA (eC (.int 1)) (aA (eC (.int 11)) aE)))))) (bC (aD leA (oM g6 (aB 3) cW (cN (eC (.int 2)))) (aB 2))))) (a7 (eC (.bl false))) aX)
 (aT (oM g6 (aB 3) cW (cN (eC (.int 2)))) (aU 2))))
theorem Y1 {h : Int} {x0 : D} {q : Int × Int} {x : D} (e : i9 (n + 1) x = true)
  (h1 : hX h x = true → HT.lexLt [q.1, q.2] [(numsOf x).1, (numsOf x).2] = true → PF (.nx [some x0, some (.int h), some (.tup [.int (numsOf x).1, .int (numsOf x).2]), some x]) w)
  (h2 : (hX h x && HT.lexLt [q.1, q.2] [(numsOf x).1, (numsOf x).2]) = false → PF (.rt (.bl false)) w) :
  T (HQ k [some x0, some (.int h), some (.tup [.int q.1, .int q.2]), some x] w) PF := by
 unfold HQ
 rw [bD]
 simp only [A4 e, zY, ae, ab, reduceCtorEq]
 cases x <;> simp only [jR, zY, ae, ab, reduceCtorEq] <;> first | exact h2 rfl | skip
 rename_i ys
 obtain ⟨e1, -⟩ := oH e
 try simp only [yI, GC, zY, ae, ab, reduceCtorEq]
 by_cases c : ys.length = 3
 case neg =>
  have i1 : (!(((ys.length : Nat) : Int) == 3)) = true := by
   have : ¬ ((ys.length : Nat) : Int) = 3 := by omega
   simpa using this
  rw [if_pos i1]
  refine h2 ?_
  have hf : hX h (.tup ys) = false := by
   unfold hX
   split
   ·rename_i a c' l e
    cases e
    exact absurd rfl c
   ·rfl
  rw [hf, Bool.false_and]
 obtain ⟨a, c', l, rfl⟩ : ∃ a c' l, ys = [a, c', l] := by
  match ys, c with
  | [a, c', l], _ => exact ⟨a, c', l, rfl⟩
 have ha := e1 a (by simp)
 have hc := e1 c' (by simp)
 have hl := e1 l (by simp)
 rw [if_neg (by simp)]
 have et : hX h (.tup [a, c', l]) = (aN 0 (h - 1) a && (aN 0 9 c' && aN 1 11 l)) := rfl
 simp only [BC, aHy, rG k _ _ ha, zY, ae, ab, reduceCtorEq]
 rw [et] at h1 h2
 cases b1 : aN 0 (h - 1) a with
 | false =>
  rw [b1] at h2
  simp only [cc, zY, ae, ab, reduceCtorEq]
  exact h2 rfl
 | true =>
 rw [b1] at h1 h2
 simp only [bf, zY, ae, ab, reduceCtorEq]
 rw [bD]
 simp only [aG7, aH3, rG k _ _ hc, rG k _ _ hl, zY, ae, ab, reduceCtorEq]
 cases b2 : aN 0 9 c' with
 | false =>
  rw [b2] at h2
  simp only [cc, zY, ae, ab, reduceCtorEq]
  exact h2 rfl
 | true =>
 rw [b2] at h1 h2
 simp only [bf, zY, ae, ab, reduceCtorEq]
 cases b3 : aN 1 11 l with
 | false =>
  rw [b3] at h2
  simp only [cc, zY, ae, ab, reduceCtorEq]
  exact h2 rfl
 | true =>
 rw [b3] at h1 h2
 simp only [bf, aE0, zY, ae, ab, reduceCtorEq]
 cases a <;> first | (simp [aN] at b1; done) | skip
 cases c' <;> first | (simp [aN] at b2; done) | skip
 rename_i a c'
 have en : numsOf (.tup [.int a, .int c', l]) = (a, c') := rfl
 rw [en] at h1 h2
 simp only [aIq, zY, ae, ab, reduceCtorEq]
 cases b4 : HT.lexLt [q.1, q.2] [a, c'] with
 | false =>
  rw [b4] at h2
  simp only [cc, zY, ae, ab, reduceCtorEq]
  exact h2 rfl
 | true =>
 simp only [bf, aE0, zY, ae, ab, reduceCtorEq]
 exact h1 rfl b4
theorem LJ {h : Int} {x0 : D} : ∀ (xs : List D) (q : Int × Int) (s3 : Option D), (∀ x ∈ xs, i9 (n + 1) x = true) →
  (qQ h q xs = true → ∀ s2 s3, PF (.nx [some x0, some (.int h), s2, s3]) w) → (qQ h q xs = false → PF (.rt (.bl false)) w) →
  ∀ ys : List D, T (forL ⟨ys, always⟩ (aU 3) (HQ k) xs [some x0, some (.int h), some (.tup [.int q.1, .int q.2]), s3] w) PF
 | [], q, s3, _, h1, _, ys => by
  rw [aA1]
  exact ⟨trivial, h1 rfl _ _⟩
 | x :: xs, q, s3, hx, h1, h2, ys => by
  rw [y9]
  refine ⟨trivial, ?_⟩
  simp only [zY, ae, ab, reduceCtorEq]
  refine Y1 k (hx x (bc ..)) (fun t1 t2 => ?_) fun t => ?_
  ·simp only [Lb.Turn]
   have ec : qQ h q (x :: xs) = qQ h (numsOf x) xs := by simp only [qQ, t1, t2, Bool.true_and]
   rw [ec] at h1 h2
   exact LJ xs (numsOf x) _ (fun y hy => hx y (br _ hy)) h1 h2 ys
  ·simp only [Lb.Turn]
   refine h2 ?_
   simp only [qQ]
   rw [← Bool.and_assoc, t, Bool.false_and]
theorem aDA {h : Int} (e : i9 (n + 2) d = true) (hP : P (.bl (lD h d)) w) : T (K02.iW k [d, .int h] w) P := by
 unfold K02.iW K02.lM
 rw [dO, aHC, bD]
 simp only [A4 e, zY, ae, ab, reduceCtorEq]
 cases d <;> simp only [jR, lD, zY, ae, ab, reduceCtorEq] at hP ⊢ <;> first | exact hP | skip
 rename_i xs
 obtain ⟨e1, e2⟩ := oH e
 try simp only [yI, zY, ae, ab, reduceCtorEq]
 by_cases c1 : 6 < xs.length
 ·have i1 : decide (((xs.length : Nat) : Int) > 6) = true := by simp; omega
  have j1 : decide (6 < xs.length) = true := by simp [c1]
  simp only [i1, j1, bf, Bool.false_and, zY, ae, ab, reduceCtorEq] at hP ⊢
  exact hP
 have i1 : decide (((xs.length : Nat) : Int) > 6) = false := by simp; omega
 have j1 : decide (6 < xs.length) = false := by simp; omega
 rw [j1, ← aDa, cc, Bool.true_and] at hP
 simp only [i1, zY, ae, ab, reduceCtorEq]
 rw [bD]
 simp only [zY, ae, ab, reduceCtorEq]
 rw [bD, oY]
 simp only [tL, zY, ae, ab, reduceCtorEq]
 refine LJ (n := n) k xs (-1, -1) none e1 (fun h s2 s3 => ?_) (fun h => ?_) xs
 ·rw [h] at hP
  simp only [Lb.Turn, zY, ae, ab, reduceCtorEq]
  exact hP
 ·rw [h] at hP
  simp only [Lb.Turn, zY, ae, ab, reduceCtorEq]
  exact hP
end
section
variable (k : K02.bH) {w w' : W} {P : D → W → Prop} {PF : Fl → W → Prop} {f : Fd} {p n : Nat} {d : D}
theorem aHR (x0 : D) : begin oG [x0] = [some x0, none, none, none, none, none] := rfl
def fbQ (f : Fd) : Option Str :=
 if fD f.r = true then
  if aN 1 5 f.ev = true then
   if aN 0 3 f.lo = true then
    if aN 1 4 f.sl = true then
     if (f.be.isNon || aN 0 3 f.be) = true then
      if aN 0 3 f.ga = true then
       if aN 0 20 f.ho = true then
        if AX f.ta = true then
         if lD (gM f.r) f.ti = true then
          if aN 0 4 f.hs = true then none else some "hosts"
         else some "ties"
        else some "takes"
       else some "hold"
      else some "gap"
     else some "bears"
    else some "slow"
   else some "lost"
  else some "every"
 else some "ranks"
theorem aCL : mY f = fbQ f := by
 unfold mY fbQ
 split
 ·unfold items
  simp only [List.find?_cons, List.find?_nil, RT, WT, XH, R1, aAk, YD, QB, WY, SH]
  cases aN 1 5 f.ev with
  | false => rfl
  | true =>
  cases hl : aN 0 3 f.lo with
  | false => rfl
  | true =>
  cases aN 1 4 f.sl with
  | false => rfl
  | true =>
  have hb : aN 0 3 (gD f) = (f.be.isNon || aN 0 3 f.be) := by
   unfold gD
   cases f.be.isNon with
   | true => simp [hl]
   | false => simp
  rw [hb]
  cases (f.be.isNon || aN 0 3 f.be) with
  | false => rfl
  | true =>
  cases aN 0 3 f.ga with
  | false => rfl
  | true =>
  cases aN 0 20 f.ho with
  | false => rfl
  | true =>
  cases AX f.ta with
  | false => rfl
  | true =>
  cases lD (gM f.r) f.ti with
  | false => rfl
  | true =>
  cases aN 0 4 f.hs <;> rfl
 ·rfl
def MU : List D := [.tup [.int 1, .int 5], .tup [.int 0, .int 3], .tup [.int 1, .int 4], .tup [.int 0, .int 3], .tup [.int 0, .int 3], .tup [.int 0, .int 20]]
def M8 : List D := [.str "every", .str "lost", .str "slow", .str "bears", .str "gap", .str "hold"]
def TM : MS := (aK (aT (aD aS (aB 1) (aB 3)) (cC 2 (aL (aU 4) (aL (aU 5) cA))))
 (dX (i4 (fE (bC (aD pT (aB 3) (eC (.int 3)))) (bC (aD sL (aD aS (aB 0) (eC (.int 4))) (eC .non)))) (bT (cU (aJ (bS k) 3 aM (aA (aD aS (aB 0) (aD bJ (aB 3) (eC (.int 1)))) (aA (aB 4) (aA (aB 5) aE))))))) (a7 (aD aS (aB 2) (aB 3))) aX))
theorem lR {i : Int} {lo hi : Int} {z : Str} {x : D} {s4 s5 : Option D} (tl : Tl w d f) (hs : atI MU i = some (.tup [.int lo, .int hi])) (hn : atI M8 i = some (.str z)) (hx : atI (a8 f) (i + 1) = some x) (e : i9 6 x = true)
  (h1 : (!(i == 3) || !f.be.isNon) = true → aN lo hi x = false → PF (.rt (.str z)) w)
  (h2 : (!(!(i == 3) || !f.be.isNon) || aN lo hi x) = true → PF (.nx [some d, some (.lst MU), some (.lst M8), some (.int i), some (.int lo), some (.int hi)]) w) :
  T (TM k [some d, some (.lst MU), some (.lst M8), some (.int i), s4, s5] w) PF := by
 unfold TM
 rw [bD]
 simp only [hs, hn, GC, tl.ix 4 _ ZS, tl.ix _ _ hx, rG k _ _ e, pD, ah, bj, zY, ae, ab, reduceCtorEq]
 cases c1 : (i == 3) with
 | false =>
  rw [c1] at h1 h2
  simp only [cc, zY, ae, ab, reduceCtorEq]
  cases c2 : aN lo hi x with
  | false =>
   simp only [cc, hn, ah, bj, zY, ae, ab, reduceCtorEq]
   exact h1 rfl c2
  | true =>
   simp only [bf, zY, ae, ab, reduceCtorEq]
   exact h2 (by rw [c2]; rfl)
 | true =>
  rw [c1] at h1 h2
  simp only [bf, zY, ae, ab, reduceCtorEq]
  cases c3 : f.be.isNon with
  | true =>
   rw [c3] at h2
   simp only [bf, zY, ae, ab, reduceCtorEq]
   exact h2 rfl
  | false =>
   rw [c3] at h1 h2
   simp only [cc, zY, ae, ab, reduceCtorEq]
   cases c2 : aN lo hi x with
   | false =>
    simp only [cc, hn, ah, bj, zY, ae, ab, reduceCtorEq]
    exact h1 rfl c2
   | true =>
    simp only [bf, zY, ae, ab, reduceCtorEq]
    exact h2 (by rw [c2]; rfl)
theorem aDo (e : i9 n d = true) : T (fS iB [d, .ty "bool"] w) P = P (.bl (AX d)) w := by
 rw [N0 e]
 cases d <;> rfl
theorem aIP : (jM 0 (6 : Int).toNat).xs = [.int 0, .int 1, .int 2, .int 3, .int 4, .int 5] := rfl
theorem aDi (tl : Tl w d f) (ok : RX f) (hP : P (aHe (mY f)) w) : T (K02.kT k [d] w) P := by
 have o : ∀ x ∈ a8 f, i9 6 x = true := ok
 simp only [a8, bu, cj, cz, forall_eq_or_imp, forall_eq] at o
 obtain ⟨o0, o1, o2, o3, o4, o5, o6, o7, o8, o9⟩ := o
 rw [aCL] at hP
 unfold fbQ at hP
 unfold K02.kT K02.sJ
 rw [dO, aHR, bD]
 have lr := fun (PP : D → W → Prop) (hPP : PP (.bl (fD f.r)) w) => aBc (n := 4) k (w := w) (P := PP) o0 hPP
 simp only [tl.ix 0 _ Z8, ah, bj, zY, ae, ab, reduceCtorEq]
 refine lr _ ?_
 simp only [zY, ae, ab, reduceCtorEq]
 cases hr : fD f.r with
 | false =>
  rw [hr, if_neg (by decide)] at hP
  simp only [cc, zY, ae, ab, reduceCtorEq]
  exact hP
 | true =>
 rw [hr, if_pos rfl] at hP
 simp only [bf, zY, ae, ab, reduceCtorEq]
 rw [bD]
 simp only [zY, ae, ab, reduceCtorEq]
 rw [bD]
 simp only [zY, ae, ab, reduceCtorEq]
 rw [bD, oY]
 simp only [CM (n := 6) (by decide) (by decide), zY, ae, ab, reduceCtorEq]
 show T (forL (jM 0 (6 : Int).toNat) (aU 3) (TM k) (jM 0 (6 : Int).toNat).xs [some d, some (.lst MU), some (.lst M8), none, none, none] w) _
 rw [aIP]
 rw [y9]
 refine ⟨trivial, ?_⟩
 simp only [zY, ae, ab, reduceCtorEq]
 refine lR k (i := 0) tl rfl rfl (show atI (a8 f) (0 + 1) = some f.ev from aFl) o1 (fun c0 c => ?_) (fun c => ?_)
 ·have c' : aN 1 5 f.ev = false := by exact c
  rw [c', if_neg (by decide)] at hP
  simp only [Lb.Turn, zY, ae, ab, reduceCtorEq]
  exact hP
 have c' : aN 1 5 f.ev = true := by simpa using c
 rw [c', if_pos rfl] at hP
 simp only [Lb.Turn]
 rw [y9]
 refine ⟨trivial, ?_⟩
 simp only [zY, ae, ab, reduceCtorEq]
 refine lR k (i := 1) tl rfl rfl (show atI (a8 f) (1 + 1) = some f.lo from ZK) o2 (fun c0 c => ?_) (fun c => ?_)
 ·have c' : aN 0 3 f.lo = false := by exact c
  rw [c', if_neg (by decide)] at hP
  simp only [Lb.Turn, zY, ae, ab, reduceCtorEq]
  exact hP
 have c' : aN 0 3 f.lo = true := by simpa using c
 rw [c', if_pos rfl] at hP
 simp only [Lb.Turn]
 rw [y9]
 refine ⟨trivial, ?_⟩
 simp only [zY, ae, ab, reduceCtorEq]
 refine lR k (i := 2) tl rfl rfl (show atI (a8 f) (2 + 1) = some f.sl from aEm) o3 (fun c0 c => ?_) (fun c => ?_)
 ·have c' : aN 1 4 f.sl = false := by exact c
  rw [c', if_neg (by decide)] at hP
  simp only [Lb.Turn, zY, ae, ab, reduceCtorEq]
  exact hP
 have c' : aN 1 4 f.sl = true := by simpa using c
 rw [c', if_pos rfl] at hP
 simp only [Lb.Turn]
 rw [y9]
 refine ⟨trivial, ?_⟩
 simp only [zY, ae, ab, reduceCtorEq]
 refine lR k (i := 3) tl rfl rfl (show atI (a8 f) (3 + 1) = some f.be from ZS) o4 (fun c0 c => ?_) (fun c => ?_)
 ·have c' : (f.be.isNon || aN 0 3 f.be) = false := by simp only [c, Bool.or_false]; simpa using c0
  rw [c', if_neg (by decide)] at hP
  simp only [Lb.Turn, zY, ae, ab, reduceCtorEq]
  exact hP
 have c' : (f.be.isNon || aN 0 3 f.be) = true := by simpa using c
 rw [c', if_pos rfl] at hP
 simp only [Lb.Turn]
 rw [y9]
 refine ⟨trivial, ?_⟩
 simp only [zY, ae, ab, reduceCtorEq]
 refine lR k (i := 4) tl rfl rfl (show atI (a8 f) (4 + 1) = some f.ga from aFH) o5 (fun c0 c => ?_) (fun c => ?_)
 ·have c' : aN 0 3 f.ga = false := by exact c
  rw [c', if_neg (by decide)] at hP
  simp only [Lb.Turn, zY, ae, ab, reduceCtorEq]
  exact hP
 have c' : aN 0 3 f.ga = true := by simpa using c
 rw [c', if_pos rfl] at hP
 simp only [Lb.Turn]
 rw [y9]
 refine ⟨trivial, ?_⟩
 simp only [zY, ae, ab, reduceCtorEq]
 refine lR k (i := 5) tl rfl rfl (show atI (a8 f) (5 + 1) = some f.ho from aFF) o6 (fun c0 c => ?_) (fun c => ?_)
 ·have c' : aN 0 20 f.ho = false := by exact c
  rw [c', if_neg (by decide)] at hP
  simp only [Lb.Turn, zY, ae, ab, reduceCtorEq]
  exact hP
 have c' : aN 0 20 f.ho = true := by simpa using c
 rw [c', if_pos rfl] at hP
 simp only [Lb.Turn]
 rw [aA1]
 refine ⟨trivial, ?_⟩
 simp only [zY, ae, ab, reduceCtorEq]
 rw [bD]
 simp only [tl.ix 7 _ aFQ, aDo o7, ah, bj, zY, ae, ab, reduceCtorEq]
 cases hb : AX f.ta with
 | false =>
  rw [hb, if_neg (by decide)] at hP
  simp only [cc, zY, ae, ab, reduceCtorEq]
  exact hP
 | true =>
 rw [hb, if_pos rfl] at hP
 simp only [bf, zY, ae, ab, reduceCtorEq]
 rw [bD]
 obtain ⟨r0, rest, er, -⟩ := BE hr
 have ew : gM f.r = r0.length := by rw [er]; rfl
 rw [ew] at hP
 have lc := fun (PP : D → W → Prop) (hPP : PP (.bl (lD r0.length f.ti)) w) => aDA (n := 4) k (w := w) (P := PP) o8 hPP
 simp only [tl.ix 8 _ aGf, tl.ix 0 _ Z8, er, at0, yI, ah, bj, zY, ae, ab, reduceCtorEq]
 refine lc _ ?_
 simp only [zY, ae, ab, reduceCtorEq]
 cases ht : lD r0.length f.ti with
 | false =>
  rw [ht, if_neg (by decide)] at hP
  simp only [cc, zY, ae, ab, reduceCtorEq]
  exact hP
 | true =>
 rw [ht, if_pos rfl] at hP
 simp only [bf, zY, ae, ab, reduceCtorEq]
 simp only [tl.ix 9 _ aGK, rG k _ _ o9, ah, bj, zY, ae, ab, reduceCtorEq]
 cases hh : aN 0 4 f.hs with
 | false =>
  rw [hh, if_neg (by decide)] at hP
  simp only [zY, ae, ab, reduceCtorEq]
  exact hP
 | true =>
  rw [hh, if_pos rfl] at hP
  simp only [zY, ae, ab, reduceCtorEq]
  exact hP
end
section
variable (k : K02.bH)
variable {w w' w0 : W} {P : D → W → Prop} {PF : Fl → W → Prop} {f : Fd} {d : D} {p n : Nat}
structure Pn where
 rows : List (List Int)
 e : Int
 l : Int
 s : Int
 b : Int
 g : Int
 h : Int
 t : Bool
 dE : List (Int × Int × Int)
 c : Int
def c7 (r : List Int) : D := .tup (r.map D.int)
structure hU (q : Pn) (H : Nat) : Prop where
 H1 : 1 ≤ H
 H6 : H ≤ 6
 n1 : 1 ≤ q.rows.length
 n4 : q.rows.length ≤ 4
 rows : ∀ r ∈ q.rows, r.length = H ∧ ∀ x ∈ r, 1 ≤ x ∧ x ≤ 12
 e : 1 ≤ q.e ∧ q.e ≤ 5
 l : 0 ≤ q.l ∧ q.l ≤ 3
 s : 1 ≤ q.s ∧ q.s ≤ 4
 b : 0 ≤ q.b ∧ q.b ≤ 3
 g : 0 ≤ q.g ∧ q.g ≤ 3
 h : 0 ≤ q.h ∧ q.h ≤ 20
 DV : q.dE.length ≤ 6
 dE : ∀ t ∈ q.dE, (0 ≤ t.1 ∧ t.1 < (H : Int)) ∧ (0 ≤ t.2.1 ∧ t.2.1 ≤ 9) ∧ (1 ≤ t.2.2 ∧ t.2.2 ≤ 11)
 rise : iM (q.dE.map fun t => (t.1, t.2.1)) = true
 c : 0 ≤ q.c ∧ q.c ≤ 4
structure Tells (f : Fd) (q : Pn) : Prop where
 r : f.r = .tup (q.rows.map c7)
 ev : f.ev = .int q.e
 lo : f.lo = .int q.l
 sl : f.sl = .int q.s
 be : gD f = .int q.b
 ga : f.ga = .int q.g
 ho : f.ho = .int q.h
 ta : f.ta = .bl q.t
 ti : f.ti = .tup (q.dE.map cQ)
 hs : f.hs = .int q.c
theorem within_int {lo hi : Int} (h : aN lo hi d = true) : ∃ i, d = .int i ∧ lo ≤ i ∧ i ≤ hi := by
 cases d <;> first | (simp [aN] at h; done) | skip
 simp only [aN, ak, aq] at h
 exact ⟨_, rfl, h⟩
theorem EM {lo hi : Int} : ∀ {xs : List D}, (∀ x ∈ xs, aN lo hi x = true) → ∃ ns : List Int, xs = ns.map D.int ∧ ∀ x ∈ ns, lo ≤ x ∧ x ≤ hi
 | [], _ => ⟨[], rfl, fun _ h => nomatch h⟩
 | x :: xs, h => by
  obtain ⟨i, rfl, hi⟩ := within_int (h x (bc ..))
  obtain ⟨ns, rfl, hn⟩ := EM fun y hy => h y (br _ hy)
  refine ⟨i :: ns, rfl, fun y hy => ?_⟩
  rcases bu.mp hy with rfl | hy
  ·exact hi
  ·exact hn y hy
theorem YC {H : Nat} : ∀ {xs : List D}, (∀ x ∈ xs, yB x = true ∧ (b8 x).length = H ∧ ∀ y ∈ b8 x, aN 1 12 y = true) → ∃ rs : List (List Int), xs = rs.map c7 ∧ ∀ r ∈ rs, r.length = H ∧ ∀ x ∈ r, 1 ≤ x ∧ x ≤ 12
 | [], _ => ⟨[], rfl, fun _ h => nomatch h⟩
 | x :: xs, h => by
  obtain ⟨h1, h2, h3⟩ := h x (bc ..)
  obtain ⟨rs, rfl, hr⟩ := YC fun y hy => h y (br _ hy)
  cases x <;> first | (simp [yB] at h1; done) | skip
  rename_i ys
  obtain ⟨ns, rfl, hn⟩ := EM h3
  refine ⟨ns :: rs, rfl, fun y hy => ?_⟩
  rcases bu.mp hy with rfl | hy
  ·exact ⟨by simpa [b8] using h2, hn⟩
  ·exact hr y hy
theorem W2 {H : Int} : ∀ {xs : List D}, (∀ x ∈ xs, hX H x = true) → ∃ us : List (Int × Int × Int), xs = us.map cQ ∧ ∀ t ∈ us, (0 ≤ t.1 ∧ t.1 < H) ∧ (0 ≤ t.2.1 ∧ t.2.1 ≤ 9) ∧ (1 ≤ t.2.2 ∧ t.2.2 ≤ 11)
 | [], _ => ⟨[], rfl, fun _ h => nomatch h⟩
 | x :: xs, h => by
  have h1 := h x (bc ..)
  obtain ⟨us, rfl, hu⟩ := W2 fun y hy => h y (br _ hy)
  unfold hX at h1
  split at h1
  ·rename_i a c l
   simp only [ak] at h1
   obtain ⟨i, rfl, hi⟩ := within_int h1.1
   obtain ⟨j, rfl, hj⟩ := within_int h1.2.1
   obtain ⟨m, rfl, hm⟩ := within_int h1.2.2
   refine ⟨(i, j, m) :: us, rfl, fun y hy => ?_⟩
   rcases bu.mp hy with rfl | hy
   ·exact ⟨⟨hi.1, by show i < H; omega⟩, hj, hm⟩
   ·exact hu y hy
  ·cases h1
theorem Gd.tells (g : Gd f) : ∃ q H, hU q H ∧ Tells f q := by
 obtain ⟨e, he, e1⟩ := within_int g.ev
 obtain ⟨l, hl, l1⟩ := within_int g.lo
 obtain ⟨s, hs, s1⟩ := within_int g.sl
 obtain ⟨b, hb, b1⟩ := within_int g.be
 obtain ⟨ga, hg, g1⟩ := within_int g.ga
 obtain ⟨h, hh, h1⟩ := within_int g.ho
 obtain ⟨c, hc, c1⟩ := within_int g.hs
 obtain ⟨t, ht⟩ : ∃ t, f.ta = .bl t := by
  have := g.ta
  cases hf : f.ta <;> first | (rw [hf] at this; simp [AX] at this; done) | exact ⟨_, rfl⟩
 obtain ⟨r0, rest, er, H1, H6, n4⟩ := BE g.r
 have gr := g.r
 rw [er] at gr
 simp only [fD, ak, aq, bg, cg, List.headD_cons, beq_iff_eq] at gr
 obtain ⟨-, gr1, -, gr2, gr3⟩ := gr
 obtain ⟨rs, ers, hrs⟩ := YC (H := r0.length) fun x hx => ⟨gr1 x hx, gr2 x hx, fun y hy => gr3 y (List.mem_flatMap.mpr ⟨x, hx, hy⟩)⟩
 have ew : gM f.r = r0.length := by rw [er]; rfl
 have gt := g.ti
 rw [ew] at gt
 obtain ⟨us, eus, hus, hu6, hur⟩ : ∃ us : List (Int × Int × Int), f.ti = .tup (us.map cQ) ∧ (∀ t ∈ us, (0 ≤ t.1 ∧ t.1 < (r0.length : Int)) ∧ (0 ≤ t.2.1 ∧ t.2.1 ≤ 9) ∧ (1 ≤ t.2.2 ∧ t.2.2 ≤ 11)) ∧ us.length ≤ 6 ∧ iM (us.map fun t => (t.1, t.2.1)) = true := by
  cases hf : f.ti <;> first | (rw [hf] at gt; simp [lD] at gt; done) | skip
  rename_i xs
  rw [hf] at gt
  simp only [lD, ak, Bool.not_eq_true', decide_eq_false_iff_not, bg] at gt
  obtain ⟨us, rfl, hu⟩ := W2 gt.2.1
  refine ⟨us, rfl, hu, by have := gt.1; rw [ay] at this; omega, ?_⟩
  have := gt.2.2
  rw [cy] at this
  exact this
 refine ⟨⟨rs, e, l, s, b, ga, h, t, us, c⟩, r0.length, ⟨H1, H6, ?_, ?_, hrs, e1, l1, s1, b1, g1, h1, hu6, hus, hur, c1⟩, ⟨?_, he, hl, hs, hb, hg, hh, ht, eus, hc⟩⟩
 ·have := congrArg List.length ers
  rw [ay] at this
  show 1 ≤ rs.length
  rw [← this]
  simp
 ·have := congrArg List.length ers
  rw [ay] at this
  show rs.length ≤ 4
  rw [← this]
  simp only [ck]
  omega
 ·rw [er]
  exact congrArg D.tup ers
def wD : D → Bool
 | .str x => nY x
 | .int i => decide (0 ≤ i) && decide (i ≤ 20)
 | _ => false
def asW : D → Str
 | .str x => x
 | .int i => xB i
 | _ => Str.empty
theorem aCa (h : wD d = true) : nY (asW d) = true := by
 cases d <;> first | (simp [wD] at h; done) | skip
 ·simp only [wD, ak, aq] at h
  exact (aGN h.1 h.2).word
 ·exact h
theorem aIA (h : wD d = true) : T (zD [d] w) P = P (.str (asW d)) w := by
 cases d <;> first | (simp [wD] at h; done) | skip
 ·simp only [wD, ak, aq] at h
  exact aFL h.1 h.2
 ·exact aFu
theorem aF1 : (" " : Str).length = 1 := by decide +kernel
theorem aGh : ("\n" : Str).length = 1 := by decide +kernel
theorem UH {ds : List D} (h : ∀ d ∈ ds, wD d = true) (hl : ds.length ≤ 9) : T (joinM (.str (" " : Str)) [.lst (ds.map fun d => D.str (asW d))] w) P = P (.str (lC (ds.map asW))) w := by
 have e : (ds.map fun d => D.str (asW d)) = (ds.map asW).map D.str := by rw [cy]; rfl
 rw [e]
 exact aEo (fun p hp => by
  obtain ⟨d, hd, rfl⟩ := cb.mp hp
  have := (MQ (aCa (h d hd))).2
  omega) (by rw [ay]; omega) (by rw [aF1]; omega)
theorem aGe (x : D) : begin sH [x] = [some x, none] := rfl
theorem LR {ds : List D} (h : ∀ d ∈ ds, wD d = true) (hl : ds.length ≤ 9) (hd : d = .lst ds ∨ d = .tup ds) (hP : P (.str (lC (ds.map asW))) w) : T (K02.mD k [d] w) P := by
 unfold K02.mD K02.yL
 rw [dO, aGe]
 have it : ∀ (w : W) (PI : lB → W → Prop), T (iterM d w) PI = PI ⟨ds, always⟩ w := fun w PI => by
  rcases hd with rfl | rfl
  ·exact aH1
  ·exact tL
 have ty : ∀ w : W, tyD (.str (" " : Str)) w = some "str" := fun _ => rfl
 simp only [it, ty, zY, ae, ab, reduceCtorEq]
 refine ⟨xH _ (by omega), ?_⟩
 refine mK (it := ⟨ds, always⟩) ds id (fun d => D.str (asW d)) (by simp) trivial (fun d hd => ?_) ?_
 ·simp only [eA, id_eq, aIA (h d hd), zY, ae, ab, reduceCtorEq]
 ·rw [UH h hl]
  exact hP
def yn (b : Bool) : Str := if b = true then "yes" else "no"
def L3 (q : Pn) : List D := [.int q.e, .int q.l, .int q.s, .int q.b, .int q.g, .int q.h, .str (yn q.t), .int q.c]
def GA (q : Pn) : List Str := "plan" :: (L3 q).map asW
def UO (r : List Int) : List Str := "ranks" :: r.map xB
def aFx (t : Int × Int × Int) : List Str := ["tie", xB t.1, xB t.2.1, xB t.2.2]
def y8 (q : Pn) : List (List Str) := GA q :: (q.rows.map UO ++ q.dE.map aFx)
def rL (q : Pn) : Str := RF (y8 q)
theorem aAD : nY ("plan" : Str) = true := by decide +kernel
theorem NN : nY ("ranks" : Str) = true := by decide +kernel
theorem aEL : nY ("tie" : Str) = true := by decide +kernel
theorem aIF (b : Bool) : nY (yn b) = true := by cases b <;> decide +kernel
section
variable {q : Pn} {H : Nat}
theorem oX {i : Int} (h : 0 ≤ i ∧ i ≤ 20) : wD (.int i) = true := by
 simp only [wD, ak, aq]
 exact h
theorem XN (o : hU q H) : ∀ d ∈ L3 q, wD d = true := by
 have := o.e
 have := o.l
 have := o.s
 have := o.b
 have := o.g
 have := o.h
 have := o.c
 intro d hd
 simp only [L3, bu, cj, cz] at hd
 rcases hd with rfl | rfl | rfl | rfl | rfl | rfl | rfl | rfl
 ·exact oX (by omega)
 ·exact oX (by omega)
 ·exact oX (by omega)
 ·exact oX (by omega)
 ·exact oX (by omega)
 ·exact oX (by omega)
 ·exact aIF q.t
 ·exact oX (by omega)
theorem aA8 (o : hU q H) {r : List Int} (hr : r ∈ q.rows) : ∀ d ∈ r.map D.int, wD d = true := fun d hd => by
 obtain ⟨x, hx, rfl⟩ := cb.mp hd
 have := (o.rows r hr).2 x hx
 exact oX (by omega)
theorem aBN (o : hU q H) {t : Int × Int × Int} (ht : t ∈ q.dE) : ∀ d ∈ [D.int t.1, .int t.2.1, .int t.2.2], wD d = true := fun d hd => by
 have := o.dE t ht
 have := o.H6
 simp only [bu, cj, cz] at hd
 rcases hd with rfl | rfl | rfl
 ·exact oX (by omega)
 ·exact oX (by omega)
 ·exact oX (by omega)
theorem AO {ds : List D} {x : Str} (hx : nY x = true) (h : ∀ d ∈ ds, wD d = true) : ∀ y ∈ x :: ds.map asW, nY y = true := fun y hy => by
 rcases bu.mp hy with rfl | hy
 ·exact hx
 ·obtain ⟨d, hd, rfl⟩ := cb.mp hy
  exact aCa (h d hd)
theorem YE (r : List Int) : UO r = ("ranks" : Str) :: (r.map D.int).map asW := by
 unfold UO
 rw [cy]
 rfl
theorem GY (o : hU q H) : zQ (y8 q) := by
 refine ⟨fun ws hw => ?_, ?_, fun h => by cases h⟩
 ·unfold y8 at hw
  rcases bu.mp hw with rfl | hw
  ·exact ⟨AO aAD (XN o), ag rfl, ag rfl⟩
  ·rcases dh.mp hw with hw | hw
   ·obtain ⟨r, hr, rfl⟩ := cb.mp hw
    have := (o.rows r hr).1
    have := o.H6
    refine ⟨by rw [YE]; exact AO NN (aA8 o hr), ?_, ?_⟩
    ·simp [UO]
    ·simp only [UO, ck, ay]
     omega
   ·obtain ⟨t, ht, rfl⟩ := cb.mp hw
    exact ⟨AO (ds := [D.int t.1, .int t.2.1, .int t.2.2]) aEL (aBN o ht), ag rfl, ag rfl⟩
 ·have := o.n4
  have := o.DV
  simp only [y8, ck, cw, ay]
  omega
theorem aHh (x : D) : begin sA [x] = [some x, none, none, none, none] := rfl
theorem NU {x : Str} {ds : List D} (hx : nY x = true) (h : ∀ d ∈ ds, wD d = true) : ∀ d ∈ D.str x :: ds, wD d = true := fun d hd => by
 rcases bu.mp hd with rfl | hd
 ·exact hx
 ·exact h d hd
theorem aEJ (hp : w[p]? = some (.ins k.aF (cS f))) (o : hU q H) (t : Tells f q) (hP : ∀ w', fX w w' → P (.str (rL q)) w') : T (K02.lI k [.ref p] w) P := by
 unfold K02.lI K02.xW
 rw [dO, aHh, bD]
 have of := fun (w' : W) (h : w'[p]? = some (.ins k.aF (cS f))) (z : Str) (d : D) (hz : (cS f).lookup z = some d) (P : D → W → Prop) => W4 k (P := P) h hz
 have o0 := of w hp
 simp only [o0 "every" f.ev rfl, o0 "lost" f.lo rfl, o0 "slow" f.sl rfl, o0 "bears" (gD f) rfl, o0 "gap" f.ga rfl, o0 "hold" f.ho rfl, o0 "takes" f.ta rfl, o0 "hosts" f.hs rfl, t.ev, t.lo, t.sl, t.be, t.ga, t.ho, t.ta, t.hs, sU, zY, ae, ab, reduceCtorEq]
 rw [seq_eq (σ1 := [some (.ref p), some (.lst [.int q.e, .int q.l, .int q.s, .int q.b, .int q.g, .int q.h]), some (.ref w.length), none, none]) (w1 := w ++ [.lst [.str (lC (GA q))]]) (by
  simp only [o0 "takes" f.ta rfl, o0 "hosts" f.hs rfl, t.ta, t.hs, sU, zY, ae, ab, reduceCtorEq]
  have tw := fun (z : Str) (hz : yn q.t = z) (P : D → W → Prop) (hP : P (.str (lC (GA q))) w) => LR k (w := w) (P := P) (d := .lst ([.str ("plan" : Str)] ++ [.int q.e, .int q.l, .int q.s, .int q.b, .int q.g, .int q.h] ++ [.str z, .int q.c])) (ds := .str ("plan" : Str) :: L3 q) (NU aAD (XN o)) (ag rfl) (.inl (by rw [← hz]; rfl)) hP
  cases ht : q.t with
  | true =>
   simp only [ae]
   refine ⟨xH _ (ag rfl), ?_⟩
   refine tw _ (by rw [ht]; rfl) _ ?_
   exact ⟨rfl, rfl⟩
  | false =>
   simp only [ax, ab]
   refine ⟨xH _ (ag rfl), ?_⟩
   refine tw _ (by rw [ht]; rfl) _ ?_
   exact ⟨rfl, rfl⟩)]
 obtain ⟨w1, e1⟩ : ∃ w1, w1 = w ++ [MO.lst [.str (lC (GA q))]] := ⟨_, rfl⟩
 obtain ⟨i, ei⟩ : ∃ i, i = w.length := ⟨_, rfl⟩
 have lp := (aj.mp hp).1
 have x1 : fX w w1 := by rw [e1]; exact fX.refl.app _
 have hp1 : w1[p]? = some (.ins k.aF (cS f)) := by rw [x1.at_ p lp]; exact hp
 have hi : w1[i]? = some (.lst [.str (lC (GA q))]) := by rw [e1, ei, bw (bq _)]; simp
 have ip : i ≠ p := by omega
 have hP1 : ∀ o, P (.str (rL q)) (w1.set i o) := fun o => hP _ (x1.set (by omega) o)
 rw [← e1, ← ei]
 clear e1 ei hP x1
 have o1 := of w1 hp1
 rw [bD]
 have n4 := o.n4
 have n6 := o.DV
 simp only [tyL hi, o1 "ranks" f.r rfl, t.r, tL, zY, ae, ab, reduceCtorEq]
 refine ⟨xH _ (by rw [ay]; omega), ?_⟩
 refine mK (it := ⟨q.rows.map c7, always⟩) q.rows c7 (fun r => D.str (lC (UO r))) rfl trivial (fun r hr => ?_) ?_
 ·have wr := aA8 o hr
  have hl : r.length ≤ 6 := by
   have := (o.rows r hr).1
   have := o.H6
   omega
  simp only [eA, c7, sO, zY, ae, ab, reduceCtorEq]
  refine ⟨xH _ (by rw [ay]; simp; omega), ?_⟩
  refine LR k (ds := .str ("ranks" : Str) :: r.map D.int) (NU NN wr) (by rw [ck, ay]; omega) (.inr rfl) ?_
  rw [YE]
  exact ⟨rfl, rfl⟩
 rw [aAI hi]
 refine ⟨xH _ (by simp; omega), ?_⟩
 obtain ⟨L1, eL⟩ : ∃ L, L = [D.str (lC (GA q))] ++ q.rows.map fun r => D.str (lC (UO r)) := ⟨_, rfl⟩
 obtain ⟨w2, e2⟩ : ∃ w2, w2 = w1.set i (.lst L1) := ⟨_, rfl⟩
 rw [← eL, ← e2]
 have li := (aj.mp hi).1
 have hi2 : w2[i]? = some (.lst L1) := by rw [e2]; exact bh li
 have hp2 : w2[p]? = some (.ins k.aF (cS f)) := by rw [e2, az ip]; exact hp1
 have hP2 : ∀ o, P (.str (rL q)) (w2.set i o) := fun o => by rw [e2, List.set_set]; exact hP1 o
 have lL : L1.length ≤ 5 := by rw [eL]; simp; omega
 clear e2 hP1 o1 hi hp1 li
 have o2 := of w2 hp2
 rw [bD]
 simp only [tyL hi2, o2 "ties" f.ti rfl, t.ti, tL, zY, ae, ab, reduceCtorEq]
 refine ⟨xH _ (by rw [ay]; omega), ?_⟩
 refine mK (it := ⟨q.dE.map cQ, always⟩) q.dE cQ (fun u => D.str (lC (aFx u))) rfl trivial (fun u hu => ?_) ?_
 ·have wr := aBN o hu
  simp only [eA, cQ, sO, zY, ae, ab, reduceCtorEq]
  refine LR k (ds := .str ("tie" : Str) :: [D.int u.1, .int u.2.1, .int u.2.2]) (NU aEL wr) (ag rfl) (.inr rfl) ?_
  exact ⟨rfl, rfl⟩
 rw [aAI hi2]
 refine ⟨xH _ (by rw [ay]; omega), ?_⟩
 have ty2 : ∀ w : W, tyD (.str ("\n" : Str)) w = some "str" := fun _ => rfl
 simp only [ty2, zY, ae, ab, reduceCtorEq]
 have e : (L1 ++ q.dE.map fun u => D.str (lC (aFx u))) = ((y8 q).map lC).map D.str := by
  rw [eL]
  unfold y8 GA
  rw [cy, cg, du, cy, cy]
  rfl
 have ok := GY o
 have := ok.l
 rw [e]
 rw [aDc (q := i) (ys := (y8 q).map lC) (bh (aj.mp hi2).1) (fun p hp => by have := ok.aHN p hp; omega) (by rw [ay]; omega) (by rw [aGh]; omega)]
 exact hP2 _
theorem aEn {t : Int × Int × Int} (h : (0 ≤ t.1 ∧ t.1 < (H : Int)) ∧ (0 ≤ t.2.1 ∧ t.2.1 ≤ 9) ∧ (1 ≤ t.2.2 ∧ t.2.2 ≤ 11)) : hX (H : Int) (cQ t) = true := by
 unfold cQ
 simp only [hX, aN, ak, aq]
 omega
def fdOf (q : Pn) : Fd := ⟨.tup (q.rows.map c7), .int q.e, .int q.l, .int q.s, .int q.b, .int q.g, .int q.h, .bl q.t, .tup (q.dE.map cQ), .int q.c⟩
theorem aCV (o : hU q H) : Gd (fdOf q) := by
 have wi : ∀ {lo hi v : Int}, lo ≤ v ∧ v ≤ hi → aN lo hi (.int v) = true := fun a => by simp [aN, a.1, a.2]
 have rd : PN H q.rows.length (q.rows.map c7) := ⟨ay .., fun d hd => by
  obtain ⟨r, hr, rfl⟩ := cb.mp hd
  exact ⟨r, rfl, o.rows r hr⟩⟩
 obtain ⟨r1, r2, r0, rest, er, l0⟩ := WK rd o.n1 o.n4 o.H1 o.H6
 have ew : gM (.tup (q.rows.map c7)) = H := by rw [er]; show ((r0.length : Nat) : Int) = H; rw [l0]
 have t6 := o.DV
 have ot : i9 6 (.tup (q.dE.map cQ)) = true := by
  simp only [i9, ak, bg, aq, ay]
  refine ⟨fun y hy => ?_, by omega⟩
  obtain ⟨t, ht, rfl⟩ := cb.mp hy
  have h := o.dE t ht
  have := o.H6
  exact aAF ⟨by omega, by omega, by omega⟩
 have h1 := o.e
 have h2 := o.l
 have h3 := o.s
 have h4 := o.b
 have h5 := o.g
 have h6 := o.h
 have h7 := o.c
 refine ⟨fun d hd => ?_, r1, wi o.e, wi o.l, wi o.s, wi o.b, wi o.g, wi o.h, rfl, ?_, wi o.c⟩
 ·simp only [a8, fdOf, bu, cj, cz] at hd
  rcases hd with rfl | rfl | rfl | rfl | rfl | rfl | rfl | rfl | rfl | rfl
  ·exact r2
  ·exact i5 (by omega)
  ·exact i5 (by omega)
  ·exact i5 (by omega)
  ·exact i5 (by omega)
  ·exact i5 (by omega)
  ·exact i5 (by omega)
  ·rfl
  ·exact ot
  ·exact i5 (by omega)
 ·show lD (gM (.tup (q.rows.map c7))) (.tup (q.dE.map cQ)) = true
  rw [ew]
  simp only [lD, ak, Bool.not_eq_true', decide_eq_false_iff_not, bg, ay, cy]
  refine ⟨by omega, fun x hx => ?_, o.rise⟩
  obtain ⟨t, ht, rfl⟩ := cb.mp hx
  exact aEn (o.dE t ht)
theorem VS {nm m : MF} {C : Addr} {fs : List (Str × D)} (hp : w[p]? = some (.ins C fs)) (h : T (m [.ref p] w) fun d w1 => ∃ z, d = .str z ∧ P (.str z) w1) : T (GX nm C m [.ref p] w) P := by
 unfold GX
 simp only [hp, ae]
 rw [bE]
 refine h.mono fun d w1 _ ⟨z, e, q⟩ => ?_
 subst e
 show T (Res.ok (D.str z) w1) P
 rw [b7]
 exact q
theorem str_len (a b : Str) : (a ++ b).length = a.length + b.length := by rw [TL.len_tl, TL.tl_append, cw, ← TL.len_tl, ← TL.len_tl]
theorem XT (a : Str) : Str.empty ++ a = a := TL.ext_tl (by rw [TL.tl_append]; rfl)
def aBt (q : Pn) : Str := ("Plan(" : Str) ++ reprText (rL q) ++ (")" : Str)
theorem MH : ("Plan(" : Str).length = 5 := by decide +kernel
theorem aGD : (")" : Str).length = 1 := by decide +kernel
theorem P5 (o : hU q H) : ∀ c ∈ (rL q).cps.toList, c < 127 := (GY o).low
theorem text_len (o : hU q H) : (rL q).length ≤ 1000 := (GY o).len
theorem aHl (x : D) : begin pK [x] = [some x, none] := rfl
theorem O9 (hp : w[p]? = some (.ins k.aF (cS f))) (o : hU q H) (t : Tells f q) (hP : ∀ w', fX w w' → P (.str (aBt q)) w') : T (K02.nN k [.ref p] w) P := by
 unfold K02.nN K02.tX
 rw [dO, aHl, bD]
 simp only [zY, ae, ab, reduceCtorEq]
 refine VS hp (aEJ k hp o t fun w' x' => ⟨_, rfl, ?_⟩)
 have rl := C6 (P5 o) (text_len o)
 have e : eFs (xS (eC (.str ("Plan(" : Str))) (xS (KC (aB 1)) (xS (eC (.str (")" : Str))) aAd))) [some (.ref p), some (.str (rL q))] w' = .ok (.str (aBt q)) w' := by
  have e1 : (eC (.str ("Plan(" : Str)) : ME) [some (.ref p), some (.str (rL q))] w' = .ok (.str ("Plan(" : Str)) w' := rfl
  have e2 : KC (aB 1) [some (.ref p), some (.str (rL q))] w' = .ok (.str (reprText (rL q))) w' := aDE (P5 o) (text_len o) rfl
  have e3 : (eC (.str (")" : Str)) : ME) [some (.ref p), some (.str (rL q))] w' = .ok (.str (")" : Str)) w' := rfl
  have b1 : (Str.empty ++ ("Plan(" : Str)).length ≤ sizeLine := by rw [XT, MH, sizeLine_eq]; omega
  have b2 : (("Plan(" : Str) ++ reprText (rL q)).length ≤ sizeLine := by rw [str_len, MH, sizeLine_eq]; omega
  have b3 : (("Plan(" : Str) ++ reprText (rL q) ++ (")" : Str)).length ≤ sizeLine := by rw [str_len, str_len, MH, aGD, sizeLine_eq]; omega
  unfold eFs xS
  unfold aAd
  simp only [e1, e2, e3, Res.BG, XT, if_pos b2, if_pos b3]
  rw [if_pos (by rw [MH, sizeLine_eq]; omega)]
  rfl
 try simp only [zY, ae, ab, reduceCtorEq]
 rw [e, b7]
 exact hP _ x'
def bK (q : Pn) : D := .tup (m6 (fdOf q))
theorem ER (t : Tells f q) : m6 f = m6 (fdOf q) := by
 unfold m6
 rw [t.r, t.ev, t.lo, t.sl, t.be, t.ga, t.ho, t.ta, t.ti, t.hs]
 rfl
theorem aIN (x : D) : begin fT [x] = [some x, none] := rfl
theorem J6 (hp : w[p]? = some (.ins k.aF (cS f))) (t : Tells f q) (hP : P (bK q) w) : T (K02.dJ k [.ref p] w) P := by
 unfold K02.dJ K02.gS
 rw [dO, aIN, bD]
 have o := fun (z : Str) (d : D) (hz : (cS f).lookup z = some d) (P : D → W → Prop) => W4 k (P := P) hp hz
 simp only [o "ranks" f.r rfl, o "every" f.ev rfl, o "lost" f.lo rfl, o "slow" f.sl rfl, o "bears" (gD f) rfl, o "gap" f.ga rfl, o "hold" f.ho rfl, o "takes" f.ta rfl, o "ties" f.ti rfl, o "hosts" f.hs rfl, sO, zY, ae, ab, reduceCtorEq]
 have e : D.tup ([f.r] ++ [f.ev, f.lo, f.sl, gD f, f.ga, f.ho] ++ [f.ta, f.ti, f.hs]) = bK q := by
  unfold bK
  rw [← ER t]
  rfl
 rw [← e] at hP
 first | exact hP | exact ⟨xH _ (by simp), hP⟩ | exact ⟨xH _ (by simp), xH _ (by simp), hP⟩
theorem yK (o : hU q H) : ∃ u, (∀ w, (bK q).py w = some u) ∧ Fit u := by
 have h6 := o.H6
 have n4 := o.n4
 have t6 := o.DV
 obtain ⟨v1, v2⟩ := o.e
 obtain ⟨v3, v4⟩ := o.l
 obtain ⟨v5, v6⟩ := o.s
 obtain ⟨v13, v14⟩ := o.b
 obtain ⟨v7, v8⟩ := o.g
 obtain ⟨v9, v10⟩ := o.h
 obtain ⟨v11, v12⟩ := o.c
 have fr : cO 100 6 (.tup (q.rows.map c7)) := (cO.yJ (n := 6) (d := 2) (c := 4) (fun y hy => by
  obtain ⟨r, hr, rfl⟩ := cb.mp hy
  obtain ⟨e1, e2⟩ := o.rows r hr
  exact cO.row (fun z hz => eY (by have := e2 z hz; omega) (by have := e2 z hz; omega)) (by omega)) (by rw [ay]; omega)).mono (by omega) (by omega)
 have ft : cO 100 6 (.tup (q.dE.map cQ)) := (cO.yJ (n := 3) (d := 2) (c := 6) (fun y hy => by
  obtain ⟨t, ht, rfl⟩ := cb.mp hy
  obtain ⟨⟨a1, a2⟩, ⟨a3, a4⟩, a5, a6⟩ := o.dE t ht
  exact (cO.tup (bR.cons (cO.int (eY (v := t.1) (by omega) (by omega))) (bR.cons (cO.int (eY (v := t.2.1) (by omega) (by omega))) (bR.cons (cO.int (eY (v := t.2.2) (by omega) (by omega))) (bR.nil.mono (bq _) (by omega)))))).mono (by omega) (bq _)) (by rw [ay]; omega)).mono (by omega) (by omega)
 exact (cO.tup (bR.cons fr (bR.cons (qX (v := q.e) (by omega) (by omega)) (bR.cons (qX (v := q.l) (by omega) (by omega)) (bR.cons (qX (v := q.s) (by omega) (by omega)) (bR.cons (qX (v := q.b) (by omega) (by omega)) (bR.cons (qX (v := q.g) (by omega) (by omega)) (bR.cons (qX (v := q.h) (by omega) (by omega)) (bR.cons (cO.bl.mono (bq _) (by omega)) (bR.cons ft (bR.cons (qX (v := q.c) (by omega) (by omega)) aFO))))))))))).fit (by omega) (by omega)
theorem aH2 (x0 : D) : begin h9 [x0] = [some x0] := rfl
theorem aFk {lo hi : Option Int} (tl : Tl w d f) : T (g6 d lo hi w) P = P (.lst (Pc.cutD (a8 f) lo hi)) w := by
 rcases tl.alt with rfl | ⟨q, rfl, hq⟩
 ·have : g6 (.lst (a8 f)) lo hi w = .ok (.lst (Pc.cutD (a8 f) lo hi)) w := rfl
  rw [this, b7]
 ·have : g6 (.ref q) lo hi w = .ok (.lst (Pc.cutD (a8 f) lo hi)) w := by simp only [g6, hq]
  rw [this, b7]
theorem aCf (tl : Tl w d f) (hP : P (.tup (m6 f)) w) : T (K02.dN k [d] w) P := by
 unfold K02.dN K02.kU
 rw [dO, aH2]
 simp only [aFk tl, tl.ix 4 _ ZS, tl.ix 2 _ ZK, D6, ah, bj, zY, ae, ab, reduceCtorEq]
 have e1 : Pc.cutD (a8 f) none (some 4) = [f.r, f.ev, f.lo, f.sl] := rfl
 have e2 : Pc.cutD (a8 f) (some 5) none = [f.ga, f.ho, f.ta, f.ti, f.hs] := rfl
 rw [e1, e2]
 have n1 : ([f.r, f.ev, f.lo, f.sl] : List D).length + (0 + 1) ≤ sizeLine := by rw [sizeLine_eq]; simp
 have n2 : ∀ x : D, ([f.r, f.ev, f.lo, f.sl] ++ [x] : List D).length + ([f.ga, f.ho, f.ta, f.ti, f.hs] : List D).length ≤ sizeLine := fun x => by rw [sizeLine_eq]; simp
 have tt : ∀ (xs : List D) (PP : D → W → Prop), T (iC [D.lst xs] w) PP = PP (.tup xs) w := fun xs PP => by
  have : iC [D.lst xs] w = .ok (.tup xs) w := rfl
  rw [this, b7]
 unfold m6 gD at hP
 split
 ·rename_i hn
  rw [if_pos hn] at hP
  refine ⟨n1, n2 _, ?_⟩
  rw [tt]
  exact hP
 ·rename_i hn
  rw [if_neg hn] at hP
  refine ⟨n1, n2 _, ?_⟩
  rw [tt]
  exact hP
end
end
section
variable (k : K02.bH) {w w' : W} {P : D → W → Prop} {PF : Fl → W → Prop} {f g : Fd} {p n i j : Nat} {d x y : D} {q q2 : Pn} {H H2 : Nat}
theorem QE (o : hU q H) : cO 100 6 (.tup (q.rows.map c7)) := (cO.yJ (n := 6) (d := 2) (c := 4) (fun y hy => by
  obtain ⟨r, hr, rfl⟩ := cb.mp hy
  obtain ⟨e1, e2⟩ := o.rows r hr
  have h6 := o.H6
  exact cO.row (fun z hz => eY (by have := e2 z hz; omega) (by have := e2 z hz; omega)) (by omega)) (by rw [ay]; exact o.n4)).mono (by omega) (by omega)
theorem aAq (o : hU q H) : cO 100 6 (.tup (q.dE.map cQ)) := (cO.yJ (n := 3) (d := 2) (c := 6) (fun y hy => by
  obtain ⟨t, ht, rfl⟩ := cb.mp hy
  obtain ⟨⟨a1, a2⟩, ⟨a3, a4⟩, a5, a6⟩ := o.dE t ht
  have h6 := o.H6
  exact (cO.tup (bR.cons (cO.int (eY (v := t.1) (by omega) (by omega))) (bR.cons (cO.int (eY (v := t.2.1) (by omega) (by omega))) (bR.cons (cO.int (eY (v := t.2.2) (by omega) (by omega))) (bR.nil.mono (bq _) (by omega)))))).mono (by omega) (bq _)) (by rw [ay]; exact o.DV)).mono (by omega) (by omega)
theorem OR (rs : List (List Int)) : eX (.tup (rs.map c7)) := NT fun x hx => by
 obtain ⟨r, _, rfl⟩ := cb.mp hx
 exact XU r
theorem RP (ts : List (Int × Int × Int)) : eX (.tup (ts.map cQ)) := NT fun x hx => by
 obtain ⟨t, _, rfl⟩ := cb.mp hx
 exact XU [t.1, t.2.1, t.2.2]
theorem B3 (o : hU q H) (o2 : hU q2 H2) : ∃ b, (∀ w, tU (bK q) (bK q2) w = some b) ∧ (b = true ↔ bK q = bK q2) := by
 have py : ∀ {q : Pn} {H : Nat}, hU q H → ∃ pr pt, (∀ f, (D.tup (q.rows.map c7)).eP f = some pr) ∧ (∀ f, (D.tup (q.dE.map cQ)).eP f = some pt) ∧ ∀ w, (bK q).py w = some (.tuple [pr, .int q.e, .int q.l, .int q.s, .int q.b, .int q.g, .int q.h, .bool q.t, pt, .int q.c]) := fun {q H} o => by
  obtain ⟨pr, a1, _⟩ := (QE o).ex
  obtain ⟨pt, c1, _⟩ := (aAq o).ex
  refine ⟨pr, pt, a1, c1, fun w => ?_⟩
  have e : bK q = .tup [.tup (q.rows.map c7), .int q.e, .int q.l, .int q.s, .int q.b, .int q.g, .int q.h, .bl q.t, .tup (q.dE.map cQ), .int q.c] := rfl
  rw [e]
  unfold D.py
  rw [D.eP]
  simp only [D.pysR, a1, c1, Option.map_some]
  simp [D.eP]
 obtain ⟨pr, pt, a1, c1, e1⟩ := py o
 obtain ⟨pr2, pt2, a2, c2, e2⟩ := py o2
 obtain ⟨u, pu, fu⟩ := yK o
 obtain ⟨v, pv, fv⟩ := yK o2
 have eu := Option.some.inj ((pu []).symm.trans (e1 []))
 have ev := Option.some.inj ((pv []).symm.trans (e2 []))
 obtain ⟨r1, r2, r3⟩ := VU _ _ (OR q.rows) (OR q2.rows) (a1 fun _ => none) (a2 fun _ => none)
 obtain ⟨t1, t2, t3⟩ := VU _ _ (RP q.dE) (RP q2.dE) (c1 fun _ => none) (c2 fun _ => none)
 refine ⟨PyData.eqv u v, fun w => ?_, ?_⟩
 ·unfold tU xF
  rw [pu, pv]
  simp only [fu.shaped, fv.shaped, and_self, ae]
 ·rw [eu, ev]
  simp only [PyData.eqv, PyData.eqvAll, ak]
  rw [OC pr r1 pr2 r2, r3, OC pt t1 pt2 t2, t3]
  simp only [beq_iff_eq, and_true]
  have e : ∀ q : Pn, bK q = .tup [.tup (q.rows.map c7), .int q.e, .int q.l, .int q.s, .int q.b, .int q.g, .int q.h, .bl q.t, .tup (q.dE.map cQ), .int q.c] := fun _ => rfl
  rw [e q, e q2]
  simp only [D.tup.injEq, List.cons.injEq, D.int.injEq, D.bl.injEq, and_true]
def jY (w : W) (p : Nat) (q : Pn) : Prop := ∃ f, w[p]? = some (.ins k.aF (cS f)) ∧ Tells f q
theorem jY.ext (h : jY k w p q) (x : fX w w') : jY k w' p q := by
 obtain ⟨f, h1, h2⟩ := h
 exact ⟨f, by rw [x.at_ p (aj.mp h1).1]; exact h1, h2⟩
theorem aHG (x y : D) : begin oR [x, y] = [some x, some y] := rfl
theorem isQ {y : D} {fs : List (Str × D)} (h : w[j]? = some (.ins k.aF fs)) : fS (kcQ k.aF) [.ref j, .con k.aF] w = .ok (.bl true) w := by
 simp only [fS, TN, h, kcQ, ae]
theorem ZM (h : gK y = true) : ∃ t, TN y w = some (.b t) ∧ t ∈ names7 := by
 cases y <;> first | (simp [gK] at h; done) | exact ⟨_, rfl, by decide⟩
theorem aF7 (h : gK y = true) : fS (kcQ k.aF) [y, .con k.aF] w = .ok (.bl false) w := by
 obtain ⟨t, h1, h2⟩ := ZM (w := w) h
 simp only [fS, h1, kcQ, ae, h2]
theorem NR (hp : jY k w p q) (hq : jY k w j q2) {b : Bool} (hb : ∀ w, tU (bK q) (bK q2) w = some b) : K02.bN k [.ref p, .ref j] w = .ok (.bl b) w := by
 obtain ⟨f, h1, t1⟩ := hp
 obtain ⟨g, h2, t2⟩ := hq
 refine Sx.aER ?_
 unfold K02.bN K02.oQ
 rw [dO, aHG]
 have i1 : BO k.aF ("fields" : Str) (.ref p) w = some p := by
  unfold BO
  simp only [h1, show (cS f).lookup ("fields" : Str) = none from rfl, and_self, ae]
 have i2 : BO k.aF ("fields" : Str) (.ref j) w = some j := by
  unfold BO
  simp only [h2, show (cS g).lookup ("fields" : Str) = none from rfl, and_self, ae]
 simp only [isQ k (y := .non) h2, aEb, i1, i2, zY, ae, ab, reduceCtorEq]
 refine J6 k h1 t1 ?_
 simp only [i2]
 refine J6 k h2 t2 ?_
 simp only [IM, hb w, ah, bj, zY, ae, ab, reduceCtorEq]
theorem wF (h : gK y = true) : K02.bN k [.ref p, y] w = .ok (.bl false) w := by
 refine Sx.aER ?_
 unfold K02.bN K02.oQ
 rw [dO, aHG]
 simp only [aF7 k h, zY, ae, ab, reduceCtorEq]
theorem wW (h : gK y = true) : mP y w = false := by
 cases y <;> first | (simp [gK] at h; done) | rfl
section
variable {b : Bool} (hp : jY k w p q) (hq : jY k w j q2) (hb : ∀ w, tU (bK q) (bK q2) w = some b)
include hp hq hb
theorem aA9 : eqQ k.aF (K02.bN k) (.ref p) (.ref j) w = .ok (.bl b) w := by
 have m := NR k hp hq hb
 obtain ⟨f, h1, t1⟩ := hp
 obtain ⟨g, h2, t2⟩ := hq
 simp only [eqQ, YA, mP, h1, h2, Bool.and_self, ae, eqI, and_self, m]
theorem aAG : neQ k.aF (K02.bN k) (.ref p) (.ref j) w = .ok (.bl (!b)) w := by
 have m := NR k hp hq hb
 obtain ⟨f, h1, t1⟩ := hp
 obtain ⟨g, h2, t2⟩ := hq
 simp only [neQ, YA, mP, h1, h2, Bool.and_self, ae, neI, and_self, m]
 rfl
theorem WS (ne : p ≠ j) : EF k.aF (K02.bN k) (.ref p) (.ref j) w = .ok (.bl b) w := by
 have m := NR k hp hq hb
 obtain ⟨f, h1, t1⟩ := hp
 obtain ⟨g, h2, t2⟩ := hq
 have : X8 (.ref p) (.ref j) = false := by simp [X8, ne]
 simp only [EF, mP, h1, h2, this, ax, ab, eqI, and_self, ae, m]
end
section
variable (hp : jY k w p q) (h : gK y = true)
include hp h
theorem aE5 : eqQ k.aF (K02.bN k) (.ref p) y w = .ok (.bl false) w := by
 have m := wF k (w := w) (p := p) h
 have n := wW (w := w) h
 obtain ⟨f, h1, t1⟩ := hp
 have i1 : mP (.ref p) w = true := by simp only [mP, h1]
 simp only [eqQ, YA, i1, n, Bool.and_false, ax, ab, ae, eqL, h1, h, and_self, m]
theorem aFM : eqQ k.aF (K02.bN k) y (.ref p) w = .ok (.bl false) w := by
 have m := wF k (w := w) (p := p) h
 have n := wW (w := w) h
 obtain ⟨f, h1, t1⟩ := hp
 have i1 : mP (.ref p) w = true := by simp only [mP, h1]
 simp only [eqQ, YA, i1, n, Bool.false_and, ax, ab, ae, eqR, h1, h, and_self, m]
theorem aGi : neQ k.aF (K02.bN k) (.ref p) y w = .ok (.bl true) w := by
 have m := wF k (w := w) (p := p) h
 have n := wW (w := w) h
 obtain ⟨f, h1, t1⟩ := hp
 have i1 : mP (.ref p) w = true := by simp only [mP, h1]
 simp only [neQ, YA, i1, n, Bool.and_false, ax, ab, ae, neL, h1, h, and_self, m]
 rfl
theorem aGA : neQ k.aF (K02.bN k) y (.ref p) w = .ok (.bl true) w := by
 have m := wF k (w := w) (p := p) h
 have n := wW (w := w) h
 obtain ⟨f, h1, t1⟩ := hp
 have i1 : mP (.ref p) w = true := by simp only [mP, h1]
 simp only [neQ, YA, i1, n, Bool.false_and, ax, ab, ae, neR, h1, h, and_self, m]
 rfl
theorem aD9 : EF k.aF (K02.bN k) (.ref p) y w = .ok (.bl false) w := by
 have m := wF k (w := w) (p := p) h
 have n := wW (w := w) h
 obtain ⟨f, h1, t1⟩ := hp
 have i1 : mP (.ref p) w = true := by simp only [mP, h1]
 simp only [EF, i1, n, eqL, h1, h, and_self, ae, m]
theorem aCU : EF k.aF (K02.bN k) y (.ref p) w = .ok (.bl false) w := by
 have m := wF k (w := w) (p := p) h
 have n := wW (w := w) h
 obtain ⟨f, h1, t1⟩ := hp
 have i1 : mP (.ref p) w = true := by simp only [mP, h1]
 simp only [EF, i1, n, eqR, h1, h, and_self, ae, m]
end
theorem aHQ (x y z : D) : begin oC [x, y, z] = [some x, some y, some z, none] := rfl
theorem aGG (b : Bool) : (D.lst [.bl b, .bl b, .bl b, .bl b, .bl b, .bl b]).py w = some (.list [.bool b, .bool b, .bool b, .bool b, .bool b, .bool b]) := rfl
theorem aDM (b : Bool) : Fit (.list [.bool b, .bool b, .bool b, .bool b, .bool b, .bool b]) := by
 cases b <;> exact ⟨by decide +kernel, by decide +kernel, by decide +kernel⟩
theorem XG {b : Bool} {x y : D} (e1 : ∀ w', w' = w → eqQ k.aF (K02.bN k) x y w' = .ok (.bl b) w') (e2 : eqQ k.aF (K02.bN k) y x w = .ok (.bl b) w) (e3 : neQ k.aF (K02.bN k) x y w = .ok (.bl (!b)) w) (e4 : neQ k.aF (K02.bN k) y x w = .ok (.bl (!b)) w)
  (e5 : EF k.aF (K02.bN k) y x w = .ok (.bl b) w) (e6 : EF k.aF (K02.bN k) x y w = .ok (.bl b) w) (hP : P (.bl true) w) : T (K02.c9 k [x, y, .bl b] w) P := by
 have e1 := e1 w rfl
 have i1 : inQ k.aF (K02.bN k) x (.lst [y]) w = .ok (.bl b) w := by
  simp only [inQ, IL, e5, Res.BG]
  cases b <;> rfl
 have i2 : inQ k.aF (K02.bN k) y (.tup [x, x]) w = .ok (.bl b) w := by
  simp only [inQ, IL, e6, Res.BG]
  cases b <;> rfl
 have ml : ∀ P : D → W → Prop, T (mulM (.lst [.bl b]) (.int 6) w) P = P (.lst [.bl b, .bl b, .bl b, .bl b, .bl b, .bl b]) w := fun P => by unfold T; rfl
 unfold K02.c9 K02.rT
 rw [dO, aHQ, bD]
 simp only [e1, e2, e3, e4, i1, i2, Bool.not_not, zY, ae, ab, reduceCtorEq]
 simp only [ml, VP (aGG b) (aDM b), zY, ae, ab, reduceCtorEq]
 have ok : PyData.strOk (PyData.shown (.list [.bool b, .bool b, .bool b, .bool b, .bool b, .bool b])) = true := by cases b <;> decide +kernel
 simp only [IM, BF ok ok, decide_true, ah, bj, zY, ae, ab, reduceCtorEq]
 exact hP
theorem GG {b : Bool} (hp : jY k w p q) (hq : jY k w j q2) (ne : p ≠ j) (hb : ∀ w, tU (bK q) (bK q2) w = some b) (hb2 : ∀ w, tU (bK q2) (bK q) w = some b) (hP : P (.bl true) w) : T (K02.c9 k [.ref p, .ref j, .bl b] w) P :=
 XG k (fun w' e => by subst e; exact aA9 k hp hq hb) (aA9 k hq hp hb2) (aAG k hp hq hb) (aAG k hq hp hb2) (WS k hq hp hb2 (Ne.symm ne)) (WS k hp hq hb ne) hP
theorem aAB (hp : jY k w p q) (h : gK y = true) (hP : P (.bl true) w) : T (K02.c9 k [.ref p, y, .bl false] w) P :=
 XG k (fun w' e => by subst e; exact aE5 k hp h) (aFM k hp h) (aGi k hp h) (aGA k hp h) (aCU k hp h) (aD9 k hp h) hP
theorem XS (o : hU q H) (o2 : hU q2 H2) : ∃ b, (∀ w, tU (bK q) (bK q2) w = some b) ∧ (∀ w, tU (bK q2) (bK q) w = some b) ∧ (b = true ↔ bK q = bK q2) := by
 obtain ⟨b, h1, h2⟩ := B3 o o2
 obtain ⟨c, h3, h4⟩ := B3 o2 o
 have : c = b := by
  rw [Bool.eq_iff_iff, h4, h2]
  exact eq_comm
 subst this
 exact ⟨c, h1, h3, h2⟩
end
section
variable (k : K02.bH) {w w' : W} {P : D → W → Prop} {PF : Fl → W → Prop} {f g : Fd} {p n i j : Nat} {d x y : D} {q q2 : Pn} {H H2 : Nat}
theorem NS (t : Tells f q) : f.be = .non ∨ f.be = .int q.b := by
 have h := t.be
 unfold gD at h
 cases e : f.be <;> rw [e] at h <;> first | exact .inl rfl | (simp only [D.isNon, ax, ab] at h; exact .inr h)
theorem aHH (o : hU q H) (t : Tells f q) : Gd f := by
 have g := aCV o
 have ba := NS t
 have tb := t.be
 refine ⟨fun d hd => ?_, by rw [t.r]; exact g.r, by rw [t.ev]; exact g.ev, by rw [t.lo]; exact g.lo, by rw [t.sl]; exact g.sl, by rw [tb]; exact g.be, by rw [t.ga]; exact g.ga, by rw [t.ho]; exact g.ho, by rw [t.ta]; exact g.ta, by rw [t.r, t.ti]; exact g.ti, by rw [t.hs]; exact g.hs⟩
 have go := g.ok
 simp only [a8, bu, cj, cz] at hd
 have h4 := o.b
 rcases hd with rfl | rfl | rfl | rfl | rfl | rfl | rfl | rfl | rfl | rfl
 ·rw [t.r]; exact go _ (by simp [a8, fdOf])
 ·rw [t.ev]; exact go _ (by simp [a8, fdOf])
 ·rw [t.lo]; exact go _ (by simp [a8, fdOf])
 ·rw [t.sl]; exact go _ (by simp [a8, fdOf])
 ·rcases ba with e | e
  ·rw [e]; rfl
  ·rw [e]; exact i5 (by omega)
 ·rw [t.ga]; exact go _ (by simp [a8, fdOf])
 ·rw [t.ho]; exact go _ (by simp [a8, fdOf])
 ·rw [t.ta]; exact go _ (by simp [a8, fdOf])
 ·rw [t.ti]; exact go _ (by simp [a8, fdOf])
 ·rw [t.hs]; exact go _ (by simp [a8, fdOf])
def BP (r : List Int) (h : Nat) : List Int := r.set h (r.getD h 0 % 12 + 1)
def pQ (q : Pn) (a h : Nat) : List (List Int) := q.rows.set a (BP (q.rows.getD a []) h)
def tJ (q : Pn) : List (Int × Int × Int) := if q.dE = [] then [(0, 9, 9)] else q.dE.tail
def qN (q : Pn) (a h : Nat) : Nat → Pn
 | 0 => { q with rows := pQ q a h }
 | 1 => { q with e := q.e % 5 + 1 }
 | 2 => { q with l := (q.l + 1) % 4 }
 | 3 => { q with s := q.s % 4 + 1 }
 | 4 => { q with b := (q.b + 1) % 4 }
 | 5 => { q with g := (q.g + 1) % 4 }
 | 6 => { q with h := (q.h + 1) % 21 }
 | 7 => { q with t := !q.t }
 | 8 => { q with dE := tJ q }
 | 9 => { q with c := (q.c + 1) % 5 }
 | _ => q
def S9 (q : Pn) (a h : Nat) : List D := [.tup ((pQ q a h).map c7), .int (q.e % 5 + 1), .int ((q.l + 1) % 4), .int (q.s % 4 + 1), .int ((q.b + 1) % 4), .int ((q.g + 1) % 4), .int ((q.h + 1) % 21), .bl (!q.t), .tup ((tJ q).map cQ), .int ((q.c + 1) % 5)]
def fN (f : Fd) (q : Pn) (a h j : Nat) : Fd := T3 f j ((S9 q a h).getD j .non)
def fM (f : Fd) (q : Pn) (a h j : Nat) : Fd := if j = 2 then T3 (fN f q a h 2) 4 (.int q.b) else fN f q a h j
theorem aDx {r : List Int} {h : Nat} (hr : r.length = H ∧ ∀ x ∈ r, 1 ≤ x ∧ x ≤ 12) (hh : h < H) : (BP r h).length = H ∧ (∀ x ∈ BP r h, 1 ≤ x ∧ x ≤ 12) ∧ BP r h ≠ r := by
 have lh : h < r.length := by omega
 have ev : r.getD h 0 = r[h] := by rw [dq, bz lh]; rfl
 have bv := hr.2 r[h] (List.getElem_mem lh)
 refine ⟨by unfold BP; rw [de]; exact hr.1, fun x hx => ?_, fun e => ?_⟩
 ·unfold BP at hx
  rcases List.mem_or_eq_of_mem_set hx with h1 | h1
  ·exact hr.2 x h1
  ·rw [h1, ev]
   omega
 ·have e2 : (BP r h)[h]? = r[h]? := by rw [e]
  unfold BP at e2
  rw [bh lh, bz lh, ev] at e2
  have e2 := Option.some.inj e2
  omega
theorem aBl (o : hU q H) {a h : Nat} (ha : a < q.rows.length) (hh : h < H) : (pQ q a h).length = q.rows.length ∧ (∀ r ∈ pQ q a h, r.length = H ∧ ∀ x ∈ r, 1 ≤ x ∧ x ≤ 12) ∧ pQ q a h ≠ q.rows := by
 have ev : q.rows.getD a [] = q.rows[a] := by rw [dq, bz ha]; rfl
 have rn := aDx (o.rows q.rows[a] (List.getElem_mem ha)) hh
 refine ⟨by unfold pQ; rw [de], fun r hr => ?_, fun e => ?_⟩
 ·unfold pQ at hr
  rcases List.mem_or_eq_of_mem_set hr with h1 | h1
  ·exact o.rows r h1
  ·rw [h1, ev]
   exact ⟨rn.1, rn.2.1⟩
 ·have e2 : (pQ q a h)[a]? = q.rows[a]? := by rw [e]
  unfold pQ at e2
  rw [bh ha, bz ha, ev] at e2
  exact rn.2.2 (Option.some.inj e2)
theorem Z5 {x : Int × Int} {xs : List (Int × Int)} (h : iM (x :: xs) = true) : iM xs = true := by
 cases xs with
 | nil => rfl
 | cons y ys =>
  unfold iM at h
  simp only [ak] at h
  exact h.2
theorem aAh (o : hU q H) : (tJ q).length ≤ 6 ∧ (∀ t ∈ tJ q, (0 ≤ t.1 ∧ t.1 < (H : Int)) ∧ (0 ≤ t.2.1 ∧ t.2.1 ≤ 9) ∧ (1 ≤ t.2.2 ∧ t.2.2 ≤ 11)) ∧ iM ((tJ q).map fun t => (t.1, t.2.1)) = true ∧ tJ q ≠ q.dE := by
 have H1 := o.H1
 have t6 := o.DV
 unfold tJ
 by_cases c : q.dE = []
 ·rw [if_pos c, c]
  refine ⟨by simp, fun t ht => ?_, rfl, by simp⟩
  rw [da.mp ht]
  simp
  omega
 ·rw [if_neg c]
  obtain ⟨t0, ts, e⟩ := dt c
  have r := o.rise
  rw [e] at r t6 ⊢
  rw [List.tail_cons]
  rw [ck] at t6
  refine ⟨by omega, fun t ht => o.dE t (by rw [e]; exact br _ ht), Z5 r, fun h => ?_⟩
  have := congrArg List.length h
  rw [ck] at this
  omega
theorem gU (h : q.rows ≠ q2.rows ∨ q.e ≠ q2.e ∨ q.l ≠ q2.l ∨ q.s ≠ q2.s ∨ q.b ≠ q2.b ∨ q.g ≠ q2.g ∨ q.h ≠ q2.h ∨ q.t ≠ q2.t ∨ q.dE ≠ q2.dE ∨ q.c ≠ q2.c) : bK q ≠ bK q2 := fun e => by
 have ef : ∀ q : Pn, bK q = .tup [.tup (q.rows.map c7), .int q.e, .int q.l, .int q.s, .int q.b, .int q.g, .int q.h, .bl q.t, .tup (q.dE.map cQ), .int q.c] := fun _ => rfl
 rw [ef q, ef q2] at e
 simp only [D.tup.injEq, List.cons.injEq, D.int.injEq, D.bl.injEq, and_true] at e
 obtain ⟨e0, e1, e2, e3, e4, e5, e6, e7, e8, e9⟩ := e
 have r0 : q.rows = q2.rows := map_inj (fun a b h => by
  have h : D.tup (a.map D.int) = .tup (b.map D.int) := h
  exact map_inj (fun x y h => by simpa using h) (D.tup.inj h)) e0
 have t0 : q.dE = q2.dE := map_inj (fun a b h => by
  have h : D.tup [.int a.1, .int a.2.1, .int a.2.2] = .tup [.int b.1, .int b.2.1, .int b.2.2] := h
  simp only [D.tup.injEq, List.cons.injEq, D.int.injEq, and_true] at h
  exact Prod.ext h.1 (Prod.ext h.2.1 h.2.2)) e8
 rcases h with h | h | h | h | h | h | h | h | h | h
 ·exact h r0
 ·exact h e1
 ·exact h e2
 ·exact h e3
 ·exact h e4
 ·exact h e5
 ·exact h e6
 ·exact h e7
 ·exact h t0
 ·exact h e9
theorem NJ (o : hU q H) (t : Tells f q) {a h j : Nat} (ha : a < q.rows.length) (hh : h < H) (hj : j < 10) : ∃ q', hU q' H ∧ Tells (fM f q a h j) q' ∧ bK q' ≠ bK q := by
 obtain ⟨r1, r2, r3⟩ := aBl o ha hh
 obtain ⟨t1, t2, t3, t4⟩ := aAh o
 have ba := NS t
 have bb : f.be = .non ∧ f.lo = .int q.b ∨ f.be = .int q.b := by
  rcases ba with e | e
  ·refine .inl ⟨e, ?_⟩
   have := t.be
   unfold gD at this
   rw [e] at this
   exact this
  ·exact .inr e
 have he := o.e
 have hl := o.l
 have hs := o.s
 have hb := o.b
 have hg := o.g
 have hh' := o.h
 have hc := o.c
 refine ⟨qN q a h j, ?_⟩
 rcases lt10 hj with rfl | rfl | rfl | rfl | rfl | rfl | rfl | rfl | rfl | rfl
 ·exact ⟨{ o with n1 := by show 1 ≤ (pQ q a h).length; rw [r1]; exact o.n1, n4 := by show (pQ q a h).length ≤ 4; rw [r1]; exact o.n4, rows := r2 }, { t with r := rfl, be := t.be }, gU (.inl r3)⟩
 ·exact ⟨{ o with e := by show 1 ≤ q.e % 5 + 1 ∧ q.e % 5 + 1 ≤ 5; omega }, { t with ev := rfl, be := t.be }, gU (.inr (.inl (by show q.e % 5 + 1 ≠ q.e; omega)))⟩
 ·exact ⟨{ o with l := by show 0 ≤ (q.l + 1) % 4 ∧ (q.l + 1) % 4 ≤ 3; omega }, { t with lo := rfl, be := rfl }, gU (.inr (.inr (.inl (by show (q.l + 1) % 4 ≠ q.l; omega))))⟩
 ·exact ⟨{ o with s := by show 1 ≤ q.s % 4 + 1 ∧ q.s % 4 + 1 ≤ 4; omega }, { t with sl := rfl, be := t.be }, gU (.inr (.inr (.inr (.inl (by show q.s % 4 + 1 ≠ q.s; omega)))))⟩
 ·exact ⟨{ o with b := by show 0 ≤ (q.b + 1) % 4 ∧ (q.b + 1) % 4 ≤ 3; omega }, { t with be := rfl }, gU (.inr (.inr (.inr (.inr (.inl (by show (q.b + 1) % 4 ≠ q.b; omega))))))⟩
 ·exact ⟨{ o with g := by show 0 ≤ (q.g + 1) % 4 ∧ (q.g + 1) % 4 ≤ 3; omega }, { t with ga := rfl, be := t.be }, gU (.inr (.inr (.inr (.inr (.inr (.inl (by show (q.g + 1) % 4 ≠ q.g; omega)))))))⟩
 ·exact ⟨{ o with h := by show 0 ≤ (q.h + 1) % 21 ∧ (q.h + 1) % 21 ≤ 20; omega }, { t with ho := rfl, be := t.be }, gU (.inr (.inr (.inr (.inr (.inr (.inr (.inl (by show (q.h + 1) % 21 ≠ q.h; omega))))))))⟩
 ·exact ⟨{ o with }, { t with ta := rfl, be := t.be }, gU (.inr (.inr (.inr (.inr (.inr (.inr (.inr (.inl (by show (!q.t) ≠ q.t; cases q.t <;> simp)))))))))⟩
 ·exact ⟨{ o with DV := t1, dE := t2, rise := t3 }, { t with ti := rfl, be := t.be }, gU (.inr (.inr (.inr (.inr (.inr (.inr (.inr (.inr (.inl t4)))))))))⟩
 ·exact ⟨{ o with c := by show 0 ≤ (q.c + 1) % 5 ∧ (q.c + 1) % 5 ≤ 4; omega }, { t with hs := rfl, be := t.be }, gU (.inr (.inr (.inr (.inr (.inr (.inr (.inr (.inr (.inr (by show (q.c + 1) % 5 ≠ q.c; omega))))))))))⟩
end
section
variable (k : K02.bH) {w w' : W} {P : D → W → Prop} {PF : Fl → W → Prop} {f g : Fd} {p n i j : Nat} {d x y : D} {q q2 : Pn} {H H2 : Nat}
theorem aHg (x y : D) : begin iQ [x, y] = [some x, some y, none, none, none, none, none, none, none] := rfl
theorem RA {xs : List D} (j : Nat) : Pc.cutD xs none (some (j : Int)) = xs.take j := by
 simp only [Pc.cutD, HT.sIx]
 have e1 : ¬ ((j : Int) < 0) := by omega
 simp only [e1, ab]
 rw [List.drop_zero]
 by_cases h : j ≤ xs.length
 ·congr 1
  omega
 ·rw [List.take_of_length_le (by omega), List.take_of_length_le (by omega)]
theorem SQ {xs : List D} {a : Nat} (h : a ≤ xs.length) : Pc.cutD xs (some (a : Int)) none = xs.drop a := by
 simp only [Pc.cutD, HT.sIx]
 have e1 : ¬ ((a : Int) < 0) := by omega
 simp only [e1, ab]
 rw [show min (a : Int).toNat xs.length = a by omega]
 exact List.take_of_length_le (by rw [List.length_drop]; exact bq _)
theorem SE {xs : List D} {j : Nat} : g6 (.tup xs) none (some (j : Int)) w = .ok (.tup (xs.take j)) w := by simp only [g6, RA]
theorem HG {xs : List D} {j : Nat} (h : j ≤ xs.length) : g6 (.tup xs) (some (j : Int)) none w = .ok (.tup (xs.drop j)) w := by simp only [g6, SQ h]
theorem aAu {xs : List D} {j : Nat} : g6 (.lst xs) none (some (j : Int)) w = .ok (.lst (xs.take j)) w := by simp only [g6, RA]
theorem aBx {xs : List D} {j : Nat} (h : j ≤ xs.length) : g6 (.lst xs) (some (j : Int)) none w = .ok (.lst (xs.drop j)) w := by simp only [g6, SQ h]
theorem B4 {α : Type} {xs : List α} {j : Nat} {x : α} (h : j < xs.length) : xs.take j ++ [x] ++ xs.drop (j + 1) = xs.set j x := by
 rw [List.set_eq_take_append_cons_drop, if_pos h]
 simp
def Kp (w w' : W) : Prop := w.length ≤ w'.length ∧ ∀ p, p < w.length → p ≠ 0 → p ≠ 1 → w'[p]? = w[p]?
theorem aEe (r : List Int) (w : W) (P : D → W → Prop) : T (cX [c7 r] w) P = P (.int (r.length : Nat)) w := by
 show T (cX [.tup (r.map D.int)] w) P = _
 rw [yI, ay]
theorem aB5 {r : List Int} {j : Nat} : g6 (c7 r) none (some (j : Int)) w = .ok (.tup ((r.take j).map D.int)) w := by simp only [c7, SE, List.map_take]
theorem aCo {r : List Int} {j : Nat} (h : j ≤ r.length) : g6 (c7 r) (some (j : Int)) none w = .ok (.tup ((r.drop j).map D.int)) w := by simp only [c7, HG (show j ≤ (r.map D.int).length by rw [ay]; exact h), List.map_drop]
theorem ixR {r : List Int} {j : Nat} {x : Int} (h : r[j]? = some x) : T (aS (c7 r) (.int (j : Nat)) w) P = P (.int x) w := by
 show T (aS (.tup (r.map D.int)) (.int (j : Nat)) w) P = _
 simp only [g9 (show (r.map D.int)[j]? = some (.int x) by rw [cu, h]; rfl), ah, bj, zY, ae, ab, reduceCtorEq]
theorem oE {a c : Int} (h : 0 < c) : T (gP (.int a) (.int c) w) P = P (.int (a % c)) w := by
 rw [tP]
 simp [h]
def aDj : MS := fW (fU nH (aA (eC (.int 10)) aE)) (aU 8) (cV (dD "list" c8 (aB 2) (aA (aD AA (aD bJ (oM g6 (aB 1) cW (cN (aB 8))) (eV (aA (aD aS (aB 7) (aB 8)) aE))) (oM g6 (aB 1) (cN (aD bJ (aB 8) (eC (.int 1)))) cW)) aE)))
def aDI : MS := aK (aT (QD (bC (aD isM (aD aS (aB 1) (eC (.int 4))) (eC .non))) (aD aS (aB 1) (eC (.int 2))) (aD aS (aB 1) (eC (.int 4)))) (eJ (aD aS (aB 2) (eC (.int 2))) (eC (.int 4)))) (a7 (aB 2))
theorem aHv (a h : Nat) (hj : j < 10) : (S9 q a h)[j]? = some ((S9 q a h).getD j .non) := by
 rw [dq, bz (show j < (S9 q a h).length from hj)]
 rfl
theorem told_set {x : D} (hj : j < 10) : a8 (T3 f j x) = (a8 f).set j x := by
 rcases lt10 hj with rfl | rfl | rfl | rfl | rfl | rfl | rfl | rfl | rfl | rfl <;> rfl
theorem Y9 {b : Nat} (d : cJ w 1 0 b) (h1 : w'[1]? = w[1]?) (h0 : w'[0]? = w[0]?) : cJ w' 1 0 b := by
 obtain ⟨ne, cells, sm, a, e1, e0, x⟩ := d
 exact ⟨ne, cells, sm, a, by rw [h1]; exact e1, by rw [h0]; exact e0, x⟩
theorem aFw {q0 a h : Nat} {s0 s3 s4 s5 s6 s8 : Option D} (hq : w[q0]? = some (.lst [])) (q0l : q0 < w.length) {X : MS}
  (hP : ∀ w' s8, w'.length = w.length + 10 → w'[q0]? = some (.lst ((List.range 10).map fun i => D.ref (w.length + i))) → (∀ j, j < 10 → w'[w.length + j]? = some (.lst (a8 (fN f q a h j)))) → (∀ p, p < w.length → p ≠ q0 → w'[p]? = w[p]?) → T (X [s0, some (.lst (a8 f)), some (.ref q0), s3, s4, s5, s6, some (.lst (S9 q a h)), s8] w') PF) :
  T (aK aDj X [s0, some (.lst (a8 f)), some (.ref q0), s3, s4, s5, s6, some (.lst (S9 q a h)), s8] w) PF := by
 rw [bD]
 unfold aDj
 rw [oY, yF]
 simp only [zY, ae, ab, reduceCtorEq]
 rw [CM (n := 10) (by omega) (by omega)]
 refine uW (it := jM 0 (10 : Int).toNat) (fun j σ w' => (w'.length = w.length + j ∧ w'[q0]? = some (.lst ((List.range j).map fun i => D.ref (w.length + i))) ∧ (∀ i, i < j → w'[w.length + i]? = some (.lst (a8 (fN f q a h i)))) ∧ ∀ p, p < w.length → p ≠ q0 → w'[p]? = w[p]?) ∧ ∃ s8, σ = [s0, some (.lst (a8 f)), some (.ref q0), s3, s4, s5, s6, some (.lst (S9 q a h)), s8]) (fun _ _ _ _ => trivial)
  ⟨⟨rfl, hq, fun i hi => absurd hi (Nat.not_lt_zero _), fun _ _ _ => rfl⟩, _, rfl⟩ (fun j dj σ w2 hj ⟨⟨l2, h2, t2, k2⟩, s8, es⟩ => ?_) fun σ w2 ⟨⟨l2, h2, t2, k2⟩, s8, es⟩ => ?_
 ·subst es
  obtain ⟨hz, rfl⟩ := A8 hj
  have hz : j < 10 := hz
  have e1 : ((j : Nat) : Int) + 1 = ((j + 1 : Nat) : Int) := by omega
  have lj : j + 1 ≤ (a8 f).length := by show j + 1 ≤ 10; omega
  have ao : atI (S9 q a h) ((j : Nat) : Int) = some ((S9 q a h).getD j .non) := g9 (aHv a h hz)
  try simp only [Int.zero_add]
  simp only [tyL h2, aAu, e1, aBx lj, ao, ah, bj, zY, ae, ab, reduceCtorEq]
  refine ⟨xH _ (by simp [a8]; omega), ?_⟩
  have ef : (a8 f).take j ++ [(S9 q a h).getD j .non] ++ (a8 f).drop (j + 1) = a8 (fN f q a h j) := by
   unfold fN
   rw [told_set hz]
   exact B4 (by show j < 10; exact hz)
  rw [X2 (xs := (a8 f).take j ++ [(S9 q a h).getD j .non]) (zs := (a8 f).drop (j + 1)) rfl rfl, ef]
  refine ⟨xH _ (by simp [a8]; omega), ?_⟩
  have h3 : (w2 ++ [MO.lst (a8 (fN f q a h j))])[q0]? = some (.lst ((List.range j).map fun i => D.ref (w.length + i))) := aB0 h2
  simp only [FI h3, zY, ae, ab, reduceCtorEq]
  refine ⟨xH _ (by simp; omega), ⟨by rw [de, cw, l2]; simp; omega, ?_, fun i hi => ?_, fun p hp ne => ?_⟩, _, rfl⟩
  ·rw [bh (by rw [cw]; omega), List.range_succ, du, l2]
   rfl
  ·rw [az (by omega)]
   by_cases c : i < j
   ·exact aB0 (t2 i c)
   ·have : i = j := by omega
    subst this
    rw [← l2]
    exact LL
  ·rw [az (fun e => ne e.symm), av (by omega)]
   exact k2 p hp ne
 ·subst es
  rw [dM]
  exact hP _ _ l2 h2 t2 k2
theorem aFj {q0 L0 a h : Nat} {s0 s3 s4 s5 s6 s7 s8 : Option D} (t : Tells f q) (hq : w[q0]? = some (.lst ((List.range 10).map fun i => D.ref (L0 + i)))) (hL : q0 < L0) (ht : ∀ j, j < 10 → w[L0 + j]? = some (.lst (a8 (fN f q a h j))))
  (hP : ∀ w', w'.length = w.length → w'[q0]? = some (.lst ((List.range 10).map fun i => D.ref (L0 + i))) → (∀ j, j < 10 → w'[L0 + j]? = some (.lst (a8 (fM f q a h j)))) → (∀ p, p < L0 → w'[p]? = w[p]?) → PF (.rt (.ref q0)) w') :
  T (aDI [s0, some (.lst (a8 f)), some (.ref q0), s3, s4, s5, s6, s7, s8] w) PF := by
 unfold aDI
 rw [bD]
 have at4 := ZS (f := f)
 have at2 := ZK (f := f)
 have h2 := ht 2 (by omega)
 have ai : atI ((List.range 10).map fun i => D.ref (L0 + i)) 2 = some (.ref (L0 + 2)) := rfl
 have go : ∀ v, v = D.int q.b → T (setM (.ref (L0 + 2)) (.int 4) v w) (fun _ w3 => PF (.rt (.ref q0)) w3) := fun v ev => by
  subst ev
  have es : setM (.ref (L0 + 2)) (.int 4) (.int q.b) w = .ok () (w.set (L0 + 2) (.lst ((a8 (fN f q a h 2)).set 4 (.int q.b)))) := by
   simp only [setM, h2]
   rfl
  rw [es, b7]
  have l2 := (aj.mp h2).1
  refine hP _ (de ..) (by rw [az (by omega)]; exact hq) (fun j hj => ?_) fun p hp => by rw [az (by omega)]
  unfold fM
  by_cases c : j = 2
  ·subst c
   rw [if_pos rfl, bh l2, told_set (by omega)]
  ·rw [if_neg c, az (by omega)]
   exact ht j hj
 rcases NS t with e | e
 ·have el : f.lo = .int q.b := by
   have := t.be
   unfold gD at this
   rw [e] at this
   exact this
  simp only [at4, at2, e, el, D.isNon, aEP hq, aS, hq, VL, ai, ah, bj, zY, ae, ab, reduceCtorEq]
  exact go _ rfl
 ·simp only [at4, at2, e, D.isNon, aS, hq, VL, ai, ah, bj, zY, ae, ab, reduceCtorEq]
  exact go _ rfl
theorem OS {b : Nat} (o : hU q H) (t : Tells f q) (hd : cJ w 1 0 (b + 2)) (w2 : 2 ≤ w.length)
  (hP : ∀ w' q0 L0 a h, cJ w' 1 0 b → a < q.rows.length → h < H → w'[q0]? = some (.lst ((List.range 10).map fun i => D.ref (L0 + i))) → (∀ j, j < 10 → w'[L0 + j]? = some (.lst (a8 (fM f q a h j)))) → Kp w w' → P (.ref q0) w') :
  T (K02.f9 k [.ref 1, .lst (a8 f)] w) P := by
 have n1 := o.n1
 have n4 := o.n4
 have H1 := o.H1
 have H6 := o.H6
 unfold K02.f9 K02.l7
 rw [dO, aHg, bD]
 simp only [zY, ae, ab, reduceCtorEq]
 obtain ⟨q0, e0⟩ : ∃ q0, q0 = w.length := ⟨_, rfl⟩
 obtain ⟨w1, ew1⟩ : ∃ w1, w1 = w ++ [MO.lst []] := ⟨_, rfl⟩
 have hq1 : w1[q0]? = some (.lst []) := by rw [ew1, e0]; exact LL
 have l1 : w1.length = q0 + 1 := by rw [ew1, e0]; simp
 have d1 : cJ w1 1 0 (b + 2) := Sx.aD6 hd ⟨_, ew1⟩
 rw [← ew1, ← e0, bD]
 have r0 : atI (a8 f) 0 = some f.r := Z8
 simp only [r0, t.r, zY, ae, ab, reduceCtorEq]
 rw [bD]
 obtain ⟨r1, rest, er⟩ := dt (show q.rows ≠ [] from fun e => by rw [e] at n1; simp at n1)
 have hr1 := o.rows r1 (by rw [er]; exact bc ..)
 simp only [aED, FU, yI, ay, zY, ae, ab, reduceCtorEq]
 refine fF (b := b + 1) d1 (by omega) (by omega) fun v w3 v0 v1 d3 k3 => ?_
 obtain ⟨a, rfl⟩ : ∃ a : Nat, v = (a : Int) := ⟨v.toNat, by omega⟩
 have a0 : atI (q.rows.map c7) 0 = some (c7 r1) := g9 (j := 0) (by rw [er]; rfl)
 simp only [a0, ah, bj]
 rw [aEe, hr1.1]
 refine fF (b := b) d3 (by omega) (by omega) fun u w4 u0 u1 d4 k4 => ?_
 obtain ⟨h, rfl⟩ : ∃ h : Nat, u = (h : Int) := ⟨u.toNat, by omega⟩
 have ha : a < q.rows.length := by omega
 have hh : h < H := by omega
 obtain ⟨r, hra⟩ : ∃ r, q.rows[a]? = some r := ⟨_, bz ha⟩
 have hr := o.rows r (cf hra)
 have aa : atI (q.rows.map c7) (a : Int) = some (c7 r) := g9 (by rw [cu, hra]; rfl)
 obtain ⟨x, hx⟩ : ∃ x, r[h]? = some x := ⟨_, bz (by rw [hr.1]; exact hh)⟩
 have e1 : ((h : Nat) : Int) + 1 = ((h + 1 : Nat) : Int) := by omega
 have e2 : ((a : Nat) : Int) + 1 = ((a + 1 : Nat) : Int) := by omega
 have lh : h + 1 ≤ r.length := by rw [hr.1]; omega
 rw [bD]
 simp only [aa, ah, bj, aB5, aCo lh, e1, ixR hx, oE (show (0 : Int) < 12 by omega), zY, ae, ab, reduceCtorEq]
 have evr : q.rows.getD a [] = r := by rw [dq, hra]; rfl
 have evx : r.getD h 0 = x := by rw [dq, hx]; rfl
 have erow : D.tup ((r.take h).map D.int ++ [.int (x % 12 + 1)] ++ (r.drop (h + 1)).map D.int) = c7 (BP (q.rows.getD a []) h) := by
  rw [evr]
  unfold BP c7
  rw [evx, ← B4 (by omega), du, du]
  rfl
 refine ⟨xH _ (by simp; omega), xH _ (by simp; omega), ?_⟩
 rw [erow]
 rw [bD]
 have at1 := aFl (f := f)
 have at2 := ZK (f := f)
 have at3 := aEm (f := f)
 have at4 := ZS (f := f)
 have at5 := aFH (f := f)
 have at6 := aFF (f := f)
 have at7 := aFQ (f := f)
 have at8 := aGf (f := f)
 have at9 := aGK (f := f)
 simp only [SE, HG (show a + 1 ≤ (q.rows.map c7).length by rw [ay]; omega), e2, at1, at2, at3, t.ev, t.lo, t.sl, oE (show (0 : Int) < 5 by omega), oE (show (0 : Int) < 4 by omega), ah, bj, zY, ae, ab, reduceCtorEq]
 refine ⟨xH _ (by simp; omega), xH _ (by simp; omega), ?_⟩
 have erows : List.take a (q.rows.map c7) ++ [c7 (BP (q.rows.getD a []) h)] ++ List.drop (a + 1) (q.rows.map c7) = (pQ q a h).map c7 := by
  unfold pQ
  rw [← B4 ha, du, du, List.map_take, List.map_drop]
  rfl
 rw [erows]
 obtain ⟨BR, eBR⟩ : ∃ BR : MS, BR = aK aDj aDI := ⟨_, rfl⟩
 have rest : ∀ s8, T (BR [some (.ref 1), some (.lst (a8 f)), some (.ref q0), some (.tup (q.rows.map c7)), some (.int (a : Nat)), some (.int (h : Nat)), some (c7 (BP (q.rows.getD a []) h)), some (.lst (S9 q a h)), s8] w4) fun f w1 => match f with
  | .nx s => P .non w1
  | .rt d => P d w1
  | x => False := fun s8 => by
  have hq4 : w4[q0]? = some (.lst []) := by rw [k4.2 q0 (by omega) (by omega), k3.2 q0 (by omega) (by omega)]; exact hq1
  have l4 : w4.length = q0 + 1 := by rw [k4.1, k3.1, l1]
  rw [eBR]
  refine aFw hq4 (by omega) fun w5 s8 l5 h5 t5 k5 => ?_
  refine aFj t h5 (by omega) t5 fun w6 l6 h6 t6 k6 => ?_
  refine hP w6 q0 w4.length a h ?_ ha hh h6 t6 ⟨by omega, fun p hp p0 p1 => ?_⟩
  ·exact Y9 d4 (by rw [k6 1 (by omega), k5 1 (by omega) (by omega)]) (by rw [k6 0 (by omega), k5 0 (by omega) (by omega)])
  ·rw [k6 p (by omega), k5 p (by omega) (by omega), k4.2 p p1 p0, k3.2 p p1 p0, ew1, av hp]
 show T (aK _ (aK _ (aK aDj aDI)) _ _) _
 rw [← eBR]
 have el : f.be = .non → q.l = q.b := fun e => by
  have h1 := t.be
  unfold gD at h1
  rw [e] at h1
  have h1 : f.lo = .int q.b := h1
  rw [t.lo] at h1
  exact D.int.inj h1
 have last : ∀ (xs : List D) (s8 : Option D), xs ++ [.bl (!q.t), .tup ((tJ q).map cQ), .int ((q.c + 1) % 5)] = S9 q a h → T (aK (aT (aD bJ (aB 7) (eV (aA (A6 notM (aD aS (aB 1) (eC (.int 7)))) (aA (QD (bC (aD pT (aD aS (aB 1) (eC (.int 8))) (bM aE))) (oM g6 (aD aS (aB 1) (eC (.int 8))) (cN (eC (.int 1))) cW) (bM (aA (bM (aA (eC (.int 0)) (aA (eC (.int 9)) (aA (eC (.int 9)) aE)))) aE))) (aA (aD gP (aD bJ (aD aS (aB 1) (eC (.int 9))) (eC (.int 1))) (eC (.int 5))) aE))))) (aU 7)) BR
   [some (.ref 1), some (.lst (a8 f)), some (.ref q0), some (.tup (q.rows.map c7)), some (.int (a : Nat)), some (.int (h : Nat)), some (c7 (BP (q.rows.getD a []) h)), some (.lst xs), s8] w4) fun f w1 => match f with
  | .nx s => P .non w1
  | .rt d => P d w1
  | x => False := fun xs s8 ex => by
  have lx : xs.length + 3 = 10 := by
   have := congrArg List.length ex
   rw [cw] at this
   exact this
  rw [bD]
  by_cases c : q.dE = []
  ·simp only [at7, at8, at9, t.ta, t.ti, t.hs, c, List.map_nil, UG, CG, List.isEmpty_nil, oE (show (0 : Int) < 5 by omega), ah, bj, zY, ae, ab, reduceCtorEq]
   refine ⟨xH _ (by omega), ?_⟩
   have e2 : tJ q = [(0, 9, 9)] := by unfold tJ; rw [if_pos c]
   rw [e2] at ex
   have ex : xs ++ [.bl (!q.t), .tup [.tup [.int 0, .int 9, .int 9]], .int ((q.c + 1) % 5)] = S9 q a h := ex
   rw [ex]
   exact rest s8
  ·obtain ⟨t0, ts, e⟩ := dt c
   have sd : g6 (.tup (cQ t0 :: ts.map cQ)) (some (1 : Int)) none w4 = .ok (.tup (ts.map cQ)) w4 := HG (j := 1) (by simp)
   have e2 : tJ q = ts := by unfold tJ; rw [if_neg c, e]; rfl
   simp only [at7, at8, at9, t.ta, t.ti, t.hs, e, cg, UG, CG, List.isEmpty_cons, sd, oE (show (0 : Int) < 5 by omega), ah, bj, zY, ae, ab, reduceCtorEq]
   refine ⟨xH _ (by omega), ?_⟩
   rw [e2] at ex
   rw [ex]
   exact rest s8
 rcases NS t with eb | eb
 ·have ll := el eb
  rw [bD]
  simp only [at2, at4, at5, at6, eb, t.lo, t.ga, t.ho, D.isNon, oE (show (0 : Int) < 4 by omega), oE (show (0 : Int) < 21 by omega), ah, bj, zY, ae, ab, reduceCtorEq]
  first | refine ⟨xH _ (by simp), ?_⟩ | skip
  refine last _ _ ?_
  unfold S9
  rw [ll]
  rfl
 ·rw [bD]
  simp only [at2, at4, at5, at6, eb, t.lo, t.ga, t.ho, D.isNon, oE (show (0 : Int) < 4 by omega), oE (show (0 : Int) < 21 by omega), ah, bj, zY, ae, ab, reduceCtorEq]
  first | refine ⟨xH _ (by simp), ?_⟩ | skip
  refine last _ _ ?_
  unfold S9
  rfl
end
section
variable (k : K02.bH) {w w' : W} {P : D → W → Prop} {PF : Fl → W → Prop} {f g : Fd} {p n i j : Nat} {d x y : D} {q q2 : Pn} {H H2 : Nat}
theorem aDB : T (fS iB [.gY [], .ty "tuple"] w) P = P (.bl true) w := by unfold T; rfl
theorem aCY : T (cX [.gY []] w) P = P (.int 0) w := by unfold T; rfl
theorem aGQ {PI : lB → W → Prop} : T (iterM (.gY []) w) PI = PI ⟨[], always⟩ w := by unfold T; rfl
theorem aDm : g6 (.gY []) none (some (-1)) w = .ok (.gY []) w := rfl
theorem aDC : g6 (.gY []) (some 1) none w = .ok (.gY []) w := rfl
theorem aGy {PI : lB → W → Prop} : T (zsM [.gY [], .gY []] w) PI = PI ⟨[], always⟩ w := by unfold T; rfl
theorem all_nil : T (allM [.lst []] w) P = P (.bl true) w := by unfold T; rfl
theorem aEg (x y : D) : begin Lb.jO [x, y] = [some x, some y, none, none] := rfl
theorem aBg {h : Int} (hP : P (.bl true) w) : T (Lb.iD (lk k) [.gY [], .int h] w) P := by
 unfold Lb.iD Lb.lK
 rw [dO, aEg, bD]
 simp only [aDB, aCY, aGQ, zY, ae, ab, reduceCtorEq]
 have cn : ∀ (vs : List Nat) (g : MG) (t : MT) (e : ME) (σ : Sg) (w : W) (P : List D → W → Prop), P [] w → T (k0 ⟨[], always⟩ vs g t e [] σ w) P := fun vs g t e σ w P h => mK (it := ⟨[], always⟩) ([] : List D) id id rfl trivial (fun _ hy => nomatch hy) h
 rw [if_neg (by decide)]
 refine cn _ _ _ _ _ _ _ ?_
 simp only [all_nil, bf, aDm, aDC, aGy, zY, ae, ab, reduceCtorEq]
 refine cn _ _ _ _ _ _ _ ?_
 rw [all_nil]
 exact hP
theorem Z2 {h : Int} (hP : P (.bl true) w) : T (K02.cK k [.str "ties", .gY [], .int h] w) P := by
 rw [W5]
 have hz : Lb.dW.lookup ("ties" : Str) = some none := rfl
 have he : tU (.str ("ties" : Str)) (.str ("takes" : Str)) w = some false := by rw [EU (by decide +kernel) (by decide +kernel)]; decide +kernel
 simp only [Lb.cK, Lb.iI, qG, WN hz, NG he, Option.isSome_none, dO, bD, dM, wX, KL, BU, xI, CN, G3, QT, BN, yH, CV, wK, BX, vY, T_C, T_V, KQ, YX, LG, YR, YN, yM, tA, K9, LB, K1, JU, C0, B1, wV, uS, J7, ZV, JR, KY, qY, CK, LH, n9, mO, BC, xN, tP, qV, K2, YO, ZH, ZU, UE, D6, J8, pD, rH, J0, B9, CL, B7, b7, dm, dn, List.set_cons_zero, List.set_cons_succ, ck, dc, aM, true_and, and_true, CJ, CZ, yF, Y6, wC, wN, oY, sO, sU, KP, K6, K3, tZ, JZ, tW, ae, ax, ab, bf, cc, Bool.true_eq_false, ite_true, ite_false, reduceCtorEq]
 exact aBg k hP
def aCu (f : Fd) : Prop := ∀ r ∈ items f, ∀ (w : W) (P : D → W → Prop), P (.bl true) w → T (K02.cK k [.str r.1, r.2, .int (gM f.r)] w) P
theorem aBj {q i : Nat} {z : Str} (ha : aCu k f) (hr : fD f.r = true) (hx : (items f)[i]? = some (z, d)) {Q : Bool → W → Prop} (hQ : Q true w) :
  T (cU (aJ (cK k) 3 aM (aA (aB 13) (aA (aB 14) (aA (aQ cX (aA (aD aS (aB 1) (eC (.int 0))) aE)) aE)))) (M7 f p q (some (.str z)) (some d)) w) Q := by
 obtain ⟨r0, rest, er, -⟩ := BE hr
 have ew : gM f.r = r0.length := by rw [er]; rfl
 have af := ha _ (cf hx)
 simp only [ew] at af
 simp only [M7, er, yI, at0, ah, bj, zY, ae, ab, reduceCtorEq]
 refine af _ _ ?_
 simp only [zY, ae, ab, reduceCtorEq]
 exact hQ
theorem aAs (ha : aCu k f) (hr : fD f.r = true) (hP : ∀ s13 s14, PF (.nx (M7 f p w.length s13 s14)) (wL w f)) : T (O0 k (M7 f p w.length none none) (wI w f)) PF := by
 have hq : (wI w f)[w.length]? = some (.dK (YZ f)) := by unfold wI; rw [bw (bq _)]; simp
 unfold O0
 have v12 : T (aB 12 (M7 f p w.length none none) (wI w f)) = fun PP => PP (.ref w.length) (wI w f) := by
  funext PP
  unfold T
  rfl
 rw [oY, HE, v12]
 simp only [W3 hq, xsI]
 refine Lb.uW (it := ⟨(items f).map fun p => D.tup [.str p.1, p.2], always⟩) (fun i σ w' => w' = wL w f ∧ ∃ s13 s14, σ = M7 f p w.length s13 s14) (fun _ _ _ _ => trivial) ⟨rfl, _, _, rfl⟩ (fun i x σ w' hx hI => ?_) (fun σ w' hI => ?_)
 ·obtain ⟨rfl, s13, s14, rfl⟩ := hI
  rw [cu] at hx
  obtain ⟨⟨z, d⟩, h1, rfl⟩ := au.mp hx
  simp only [M7, zY, ae, ab, reduceCtorEq]
  unfold aBK
  rw [xI, qY]
  refine aBj k ha hr h1 ?_
  simp only [bf, zY, ae, ab, reduceCtorEq]
  exact ⟨rfl, _, _, rfl⟩
 ·obtain ⟨rfl, s13, s14, rfl⟩ := hI
  exact hP _ _
theorem aAo {w0 : W} (ha : aCu k f) (hr : fD f.r = true) (or : i9 6 f.r = true) (hp : w0[p]? = some (.ins k.aF [])) (hP : ∀ w', w0.length ≤ w'.length → (∀ i, i < w0.length → i ≠ p → w'[i]? = w0[i]?) → w'[p]? = some (.ins k.aF (cS f)) → P .non w') :
  T (eO k [.ref p, f.r, f.ev, f.lo, f.sl, f.be, f.ga, f.ho, f.ta, f.ti, f.hs] w0) P := by
 unfold eO
 rw [WJ, dO, aIB, bD]
 unfold aCx
 rw [xI, qY]
 simp only [XQ, zY, ae, ab, reduceCtorEq]
 refine YL (n := 4) (lk k) (by omega) or ?_
 rw [hr]
 simp only [bf, zY, ae, ab, reduceCtorEq]
 rw [aA5, bD]
 refine aAs k ha hr fun s13 s14 => ?_
 rw [dM]
 have lp : p < w0.length := (aj.mp hp).1
 have l4 : (wL w0 f).length = w0.length + 2 := by unfold wL wI; rw [de, cw]; rfl
 have hp4 : (wL w0 f)[p]? = some (.ins k.aF []) := by
  unfold wL wI
  rw [az (by omega), av (by omega)]
  exact hp
 refine XR k hp4 fun s => ?_
 refine hP _ (by rw [de]; omega) (fun i hi ne => ?_) (bh (by omega))
 rw [az (fun e => ne e.symm)]
 unfold wL wI
 rw [az (by omega), av hi]
def fO (r lo sl : D) : Fd := ⟨r, .int 1, lo, sl, .non, .int 1, .int 0, .bl true, .gY [], .int 0⟩
def kY (r lo sl : D) : D := .tup [r, .int 1, lo, sl, lo, .int 1, .int 0, .bl true, .tup [], .int 0]
theorem NH (g : Gd f) {lo sl : D} (ol : i9 6 lo = true) (wl : aN 0 3 lo = true) (os : i9 6 sl = true) (ws : aN 1 4 sl = true) : aCu k (fO f.r lo sl) := fun r hr w P hP => by
 have af : ∀ (z : Str) (d : D), z ∈ (["every", "lost", "slow", "bears", "gap", "hold", "takes", "ties", "hosts"] : List Str) → i9 6 d = true → hD (gM f.r) z d = true → T (K02.cK k [.str z, d, .int (gM f.r)] w) P := fun z d hz hd hf => X9 k hz hd (by rw [hf]; exact hP)
 have hr : r ∈ [(("every" : Str), D.int 1), ("lost", lo), ("slow", sl), ("bears", lo), ("gap", .int 1), ("hold", .int 0), ("takes", .bl true), ("ties", .gY []), ("hosts", .int 0)] := hr
 show T (K02.cK k [.str r.1, r.2, .int (gM f.r)] w) P
 simp only [bu, cj, cz] at hr
 rcases hr with rfl | rfl | rfl | rfl | rfl | rfl | rfl | rfl | rfl
 ·exact af _ _ (by simp) rfl rfl
 ·exact af _ _ (by simp) ol wl
 ·exact af _ _ (by simp) os ws
 ·exact af _ _ (by simp) ol wl
 ·exact af _ _ (by simp) rfl rfl
 ·exact af _ _ (by simp) rfl rfl
 ·exact af _ _ (by simp) rfl rfl
 ·exact Z2 k hP
 ·exact af _ _ (by simp) rfl rfl
theorem UJ {r lo sl : D} (fw : Nat → Option PyData) : D.eP fw (.tup (m6 (fO r lo sl))) = D.eP fw (kY r lo sl) := by
 have e : m6 (fO r lo sl) = [r, .int 1, lo, sl, lo, .int 1, .int 0, .bl true, .gY [], .int 0] := rfl
 rw [e]
 unfold kY
 simp only [D.eP, D.pysR]
theorem aIz : cO 0 6 (.tup []) := (cO.tup bR.nil).mono (bq _) (by omega)
theorem NW {r lo sl : D} (fr : cO 100 6 r) (fl : cO 0 6 lo) (fs : cO 0 6 sl) : cO 200 7 (kY r lo sl) :=
 (cO.tup (bR.cons fr (bR.cons (qX (v := 1) (by omega) (by omega)) (bR.cons fl (bR.cons fs (bR.cons fl (bR.cons (qX (v := 1) (by omega) (by omega)) (bR.cons (qX (v := 0) (by omega) (by omega)) (bR.cons (cO.bl.mono (bq _) (by omega)) (bR.cons aIz (bR.cons (qX (v := 0) (by omega) (by omega)) aFO))))))))))).mono (by omega) (bq _)
theorem aEq {fw : Nat → Option PyData} {a b c a' b' c' : D} (h1 : D.eP fw a = D.eP fw a') (h2 : D.eP fw b = D.eP fw b') (h3 : D.eP fw c = D.eP fw c') : D.eP fw (.lst [a, b, c]) = D.eP fw (.lst [a', b', c']) := by
 simp only [D.eP, D.pysR, h1, h2, h3]
theorem aHz {j : Nat} {ds : List D} (h : w[j]? = some (.lst ds)) : (D.ref j).py w = D.eP (IE 7 w) (.lst ds) := by
 simp only [D.py, D.eP, IE, h]
theorem aDf : tU (.tup [.int 1, .int 1, .int 1, .int 1, .int 0, .int 12, .int 1000]) (.tup [.int 1, .int 1, .int 1, .int 1, .int 0, .int 12, .int 1000]) w = some true :=
 aCX (n := 6) (by decide +kernel) (by omega)
theorem aHt (x : D) : begin fI [x] = [some x, none, none, none] := rfl
theorem FO (ha : aCu k f) (hr : fD f.r = true) (or : i9 6 f.r = true) {m : List D → List D} (hm : ∀ p, m [.ref p] = [.ref p, f.r, f.ev, f.lo, f.sl, f.be, f.ga, f.ho, f.ta, f.ti, f.hs]) (hP : ∀ w', fX w w' → w'[w.length]? = some (.ins k.aF (cS f)) → P (.ref w.length) w') : T (vL (eO k) k.aF m w) P := by
 rw [YF, hm]
 have hp : (w ++ [MO.ins k.aF []])[w.length]? = some (.ins k.aF []) := LL
 refine aAo k ha hr or hp fun w' l h1 h2 => ⟨rfl, ?_⟩
 rw [cw, List.length_singleton] at l
 refine hP w' ⟨by omega, fun i hi => ?_⟩ h2
 rw [h1 i (by rw [cw]; omega) (by omega), av hi]
theorem aHP (g : Gd f) (o : hU q H) (t : Tells f q) (hP : ∀ w', fX w w' → P (.bl true) w') : T (K02.dZ k [.lst (a8 f)] w) P := by
 have hl := o.l
 have hs := o.s
 have ol : i9 6 f.lo = true := by rw [t.lo]; exact i5 (by omega)
 have os : i9 6 f.sl = true := by rw [t.sl]; exact i5 (by omega)
 have or : i9 6 f.r = true := g.ok _ (by simp [a8])
 have a0 := NH k g (lo := .int 1) (sl := .int 1) rfl rfl rfl rfl
 have a1 := NH k g (lo := f.lo) (sl := .int 1) ol g.lo rfl rfl
 have a2 := NH k g (lo := .int 1) (sl := f.sl) rfl rfl os g.sl
 have at0 := Z8 (f := f)
 have at2 := ZK (f := f)
 have at3 := aEm (f := f)
 unfold K02.dZ K02.gX
 rw [dO, aHt, bD]
 simp only [at0, ah, bj, zY, ae, ab, reduceCtorEq]
 rw [bD]
 simp only [uS, at2, at3, ah, bj, zY, ae, ab, reduceCtorEq]
 refine FO k a0 g.r or (fun p => rfl) fun w1 x1 h1 => ?_
 try simp only [zY, ae, ab, reduceCtorEq]
 refine rM k h1 ?_
 refine FO k a1 g.r or (fun p => rfl) fun w2 x2 h2 => ?_
 try simp only [zY, ae, ab, reduceCtorEq]
 refine rM k h2 ?_
 refine FO k a2 g.r or (fun p => rfl) fun w3 x3 h3 => ?_
 try simp only [zY, ae, ab, reduceCtorEq]
 refine rM k h3 ?_
 try simp only [zY, ae, ab, reduceCtorEq]
 rw [bD]
 simp only [at2, ah, bj, zY, ae, ab, reduceCtorEq]
 obtain ⟨j, ej⟩ : ∃ j, j = w3.length := ⟨_, rfl⟩
 have hq : (w3 ++ [MO.lst [kY f.r (.int 1) (.int 1), kY f.r f.lo (.int 1)]])[j]? = some (.lst [kY f.r (.int 1) (.int 1), kY f.r f.lo (.int 1)]) := by rw [ej]; exact LL
 have x4 : fX w3 (w3 ++ [MO.lst [kY f.r (.int 1) (.int 1), kY f.r f.lo (.int 1)]]) := fX.refl.app _
 have hl3 : w3.length ≤ j := by omega
 show T (aK _ _ [_, _, _, some (.ref w3.length)] (w3 ++ [MO.lst [kY f.r (.int 1) (.int 1), kY f.r f.lo (.int 1)]])) _
 rw [← ej]
 generalize w3 ++ [MO.lst [kY f.r (.int 1) (.int 1), kY f.r f.lo (.int 1)]] = w4 at hq x4
 rw [bD]
 simp only [at3, tyL hq, FI hq, ah, bj, zY, ae, ab, reduceCtorEq]
 refine ⟨by rw [sizeLine_eq]; simp, ?_⟩
 show T (qZ [_] (w4.set j (.lst [kY f.r (.int 1) (.int 1), kY f.r f.lo (.int 1), kY f.r (.int 1) f.sl]))) _
 have x5 : fX w3 (w4.set j (.lst [kY f.r (.int 1) (.int 1), kY f.r f.lo (.int 1), kY f.r (.int 1) f.sl])) := x4.set hl3 _
 have hq5 : (w4.set j (.lst [kY f.r (.int 1) (.int 1), kY f.r f.lo (.int 1), kY f.r (.int 1) f.sl]))[j]? = some (.lst [kY f.r (.int 1) (.int 1), kY f.r f.lo (.int 1), kY f.r (.int 1) f.sl]) := bh (aj.mp hq).1
 generalize w4.set j (.lst [kY f.r (.int 1) (.int 1), kY f.r f.lo (.int 1), kY f.r (.int 1) f.sl]) = w5 at x5 hq5
 have fr : cO 100 6 f.r := by rw [t.r]; exact QE o
 have fl : cO 0 6 f.lo := by rw [t.lo]; exact qX (by omega) (by omega)
 have fs : cO 0 6 f.sl := by rw [t.sl]; exact qX (by omega) (by omega)
 have one : cO 0 6 (.int 1) := qX (by omega) (by omega)
 have fa := cO.lst (bR.cons (NW fr one one) (bR.cons (NW fr fl one) (bR.cons (NW fr one fs) (bR.nil.mono (bq _) (by omega)))))
 obtain ⟨u, pu, fu⟩ := fa.ex
 have ft : Fit u := ⟨fu.1, by omega, by omega⟩
 have p1 : (D.lst [.tup (m6 (fO f.r (.int 1) (.int 1))), .tup (m6 (fO f.r f.lo (.int 1))), .tup (m6 (fO f.r (.int 1) f.sl))]).py w5 = some u := by
  unfold D.py
  rw [aEq (UJ _) (UJ _) (UJ _)]
  exact pu _
 have p2 : (D.ref j).py w5 = some u := by rw [aHz hq5]; exact pu _
 have ok : PyData.strOk u.shown = true := C8 u fu.1
 simp only [Lb.VP p1 ft, Lb.VP p2 ft, IM, BF ok ok, aDf, decide_true, ah, bj, zY, ae, ab, reduceCtorEq]
 exact hP _ (((x1.trans x2).trans x3).trans x5)
end
section
variable (k : K02.bH) {w w' : W} {P : D → W → Prop} {PF : Fl → W → Prop} {f g : Fd} {p n i j : Nat} {d x y : D} {q q2 : Pn} {H H2 : Nat}
theorem aGs (x : D) : begin YG [x] = [some x, none, none, none, none, none, none, none, none, none] := rfl
theorem aFy (x : D) : begin lJ [x] = [some x] := rfl
theorem aBs {m : MF} {C : Addr} {fs : List (Str × D)} (hp : w[p]? = some (.ins C fs)) (h : T (m [.ref p] w) fun d w1 => ∃ n : Int, d = .int n ∧ 0 ≤ n ∧ n < 2 ^ 62 ∧ P (.int n) w1) : T (uC C m [.ref p] w) P := by
 simp only [uC, hp, ae]
 rw [bE]
 refine h.mono fun d w1 _ ⟨n, e, n0, n1, h1⟩ => ?_
 subst e
 simp only [n0, n1, and_self, ae]
 rw [b7]
 exact h1
theorem aHp (hp : w[p]? = some (.ins k.aF (cS f))) (o : hU q H) (t : Tells f q) (hP : P (.int (H : Nat)) w) : T (uC k.aF (K02.dQ k) [.ref p] w) P := by
 refine aBs hp ?_
 have n1 := o.n1
 have H6 := o.H6
 obtain ⟨r1, rest, er⟩ := dt (show q.rows ≠ [] from fun e => by rw [e] at n1; simp at n1)
 have hr1 := o.rows r1 (by rw [er]; exact bc ..)
 have a0 : atI (q.rows.map c7) 0 = some (c7 r1) := g9 (j := 0) (by rw [er]; rfl)
 unfold K02.dQ K02.pH
 rw [dO, aFy]
 simp only [W4 k hp (z := "ranks") (d := f.r) rfl, t.r, a0, ah, bj, zY, ae, ab, reduceCtorEq]
 rw [aEe, hr1.1]
 exact ⟨_, rfl, by omega, by omega, hP⟩
theorem vZ {α : Type} {h : α → D} {c : Nat} : ∀ {xs : List α}, (∀ x ∈ xs, EX (h x) ≤ c) → wtDs (xs.map h) ≤ xs.length * (c + 1)
 | [], _ => by simp [wtDs]
 | x :: xs, hh => by
  have h1 := hh x (bc ..)
  have h2 := vZ (xs := xs) fun y hy => hh y (br _ hy)
  simp only [cg, wtDs, ck, Nat.add_mul, Nat.one_mul] at h2 ⊢
  omega
theorem rZ {i : Int} (h : i.natAbs ≤ 1000) : II (n + 1) 0 (.int i) = true := by
 simp only [II, aq]
 omega
theorem aCh (o : hU q H) {r : List Int} (hr : r ∈ q.rows) : II 2 0 (c7 r) = true ∧ EX (c7 r) ≤ 6 := by
 have h1 := o.rows r hr
 have H6 := o.H6
 refine ⟨?_, ?_⟩
 ·unfold c7
  simp only [II, ak, bg, aq, ay]
  refine ⟨fun x hx => ?_, by omega⟩
  obtain ⟨y, hy, rfl⟩ := cb.mp hx
  have := h1.2 y hy
  exact rZ (n := 0) (by omega)
 ·unfold c7
  have := vZ (h := D.int) (c := 0) (xs := r) fun y _ => by simp [EX]
  unfold EX
  omega
theorem aBa (o : hU q H) {t : Int × Int × Int} (ht : t ∈ q.dE) : II 2 0 (cQ t) = true ∧ EX (cQ t) ≤ 6 := by
 have h1 := o.dE t ht
 have H6 := o.H6
 have e : cQ t = .tup [.int t.1, .int t.2.1, .int t.2.2] := rfl
 rw [e]
 refine ⟨?_, by simp [EX, wtDs]⟩
 simp only [II, ak, List.all_cons, List.all_nil, Bool.and_true, aq, ck, dc]
 omega
theorem KJ (o : hU q H) : II 4 0 (bK q) = true ∧ EX (bK q) ≤ 1000 := by
 have n4 := o.n4
 have n6 := o.DV
 have he := o.e
 have hl := o.l
 have hs := o.s
 have hb := o.b
 have hg := o.g
 have hh := o.h
 have hc := o.c
 have r1 : II 3 0 (.tup (q.rows.map c7)) = true := by
  unfold II
  simp only [ak, bg, aq, ay]
  refine ⟨fun x hx => ?_, by omega⟩
  obtain ⟨y, hy, rfl⟩ := cb.mp hx
  exact (aCh o hy).1
 have t1 : II 3 0 (.tup (q.dE.map cQ)) = true := by
  unfold II
  simp only [ak, bg, aq, ay]
  refine ⟨fun x hx => ?_, by omega⟩
  obtain ⟨y, hy, rfl⟩ := cb.mp hx
  exact (aBa o hy).1
 have r2 := vZ (h := c7) (c := 6) (xs := q.rows) fun y hy => (aCh o hy).2
 have t2 := vZ (h := cQ) (c := 6) (xs := q.dE) fun y hy => (aBa o hy).2
 have e : bK q = .tup [.tup (q.rows.map c7), .int q.e, .int q.l, .int q.s, .int q.b, .int q.g, .int q.h, .bl q.t, .tup (q.dE.map cQ), .int q.c] := rfl
 rw [e]
 refine ⟨?_, ?_⟩
 ·have th : ∀ xs : List D, (∀ x ∈ xs, II 3 0 x = true) → xs.length ≤ 40 → II 4 0 (.tup xs) = true := fun xs hx hl => by
   unfold II
   simp only [ak, bg, aq]
   exact ⟨hx, by omega⟩
  refine th _ (fun x hx => ?_) (by simp)
  simp only [bu, cj, cz] at hx
  rcases hx with rfl | rfl | rfl | rfl | rfl | rfl | rfl | rfl | rfl | rfl
  ·exact r1
  ·exact rZ (n := 2) (by omega)
  ·exact rZ (n := 2) (by omega)
  ·exact rZ (n := 2) (by omega)
  ·exact rZ (n := 2) (by omega)
  ·exact rZ (n := 2) (by omega)
  ·exact rZ (n := 2) (by omega)
  ·rfl
  ·exact t1
  ·exact rZ (n := 2) (by omega)
 ·simp only [EX, wtDs]
  omega
theorem ON (o : hU q H) (t : Tells f q) : ∃ z, PyData.strOk z = true ∧ ∀ (w : W) (P : D → W → Prop), T (n7 [.tup (m6 f)] w) P = P (.str z) w := by
 have e : D.tup (m6 f) = bK q := by unfold bK; rw [ER t]
 rw [e]
 exact R6 (KJ o).1 (by omega) (by omega) (di (KJ o).2 (by omega))
theorem shown_int (i : Int) (h : i.natAbs ≤ 1000) : ∃ z, PyData.strOk z = true ∧ ∀ (w : W) (P : D → W → Prop), T (n7 [.int i] w) P = P (.str z) w :=
 R6 (n := 1) (l := 0) (rZ (n := 0) h) (by omega) (by omega) (by simp [EX])
theorem jY.of (h : w[p]? = some (.ins k.aF (cS f))) (t : Tells f q) : jY k w p q := ⟨f, h, t⟩
theorem eq_self (o : hU q H) : ∀ w, tU (bK q) (bK q) w = some true := fun w => by
 obtain ⟨b, h1, h2⟩ := B3 o o
 rw [h1 w, h2.mpr rfl]
theorem nW {m : MO} (h : w[i]? = some m) : i < w.length := (aj.mp h).1
def UN : MS := (dX (fE (bC (aD sL (aJ (kT k) 1 aM (aA (aB 6) aE)) (eC .non))) (bT (cU (aJ (c9 k) 3 aM (aA (aJ (dU k) 1 aM (aA (aB 6) aE)) (aA (aB 4) (aA (eC (.bl false)) aE))))))) (a7 (eC (.bl false))) aX)
def aCA : MS := (dX (bT (cU (aJ (c9 k) 3 aM (aA (aB 4) (aA (aB 7) (aA (eC (.bl false)) aE)))))) (a7 (eC (.bl false))) aX)
def aGz : MS := (dX (fE (bT (cU (aJ (dZ k) 1 aM (aA (aB 3) aE)))) (bC (aD pT (aQ n7 (aA (aJ (dI k) 1 aM (aA (aB 4) aE)) aE)) (aQ n7 (aA (aJ (dN k) 1 aM (aA (aB 3) aE)) aE))))) (a7 (eC (.bl false))) aX)
def LV : MS := (fW (eQ (eV (aA (eC .non) (aA (eC (.bl true)) (aA (eC (.int 0)) (aA (eC (.str ("" : Str))) (aA (aQ (GX zD k.aF (lI k)) (aA (aB 4) aE)) (aA (aQ (GX qZ k.aF (nN k)) (aA (aB 4) aE)) (aA (aJ (dI k) 1 aM (aA (aB 4) aE)) (aA (aB 3) (aA E2 (aA (bM aE) aE)))))))))))) (aU 7) (aCA k))
def N3 : MS := (fW (eQ (aJ (f9 k) 2 aM (aA (aB 1) (aA (aB 3) aE)))) (aU 6) (UN k))
def VX : MS := (dX (fE (bT (cU (aJ (c9 k) 3 aM (aA (aB 4) (aA (aB 5) (aA (eC (.bl true)) aE)))))) (bC (aD pT (aQ n7 (aA (aQ (uC k.aF (dQ k)) (aA (aB 4) aE)) aE)) (aQ n7 (aA (aQ cX (aA (aD aS (aD aS (aB 3) (eC (.int 0))) (eC (.int 0))) aE)) aE))))) (a7 (eC (.bl false))) aX)
def aEQ : MS := (aK (MC 4 5 (aA (aJ (dU k) 1 aM (aA (aB 3) aE)) (aA (aJ (dU k) 1 aM (aA (aQ HI (aA (aB 3) aE)) aE)) aE)))
 (aK (VX k) (aK (N3 k) (aK (LV k) (aGz k)))))
def KR (sc pr : D) (f : Fd) (p j : Nat) (s6 s7 : Option D) : Sg := [some sc, some (.ref 1), some pr, some (.lst (a8 f)), some (.ref p), some (.ref j), s6, s7, none, none]
theorem O6 {sc pr : D} {s6 s7 : Option D} (hp : w[p]? = some (.ins k.aF (cS f))) (hj : w[j]? = some (.ins k.aF (cS f))) (ne : p ≠ j) (o : hU q H) (t : Tells f q) (hP : PF (.nx (KR sc pr f p j s6 s7)) w) : T (VX k (KR sc pr f p j s6 s7) w) PF := by
 have n1 := o.n1
 have H6 := o.H6
 obtain ⟨r1, rest, er⟩ := dt (show q.rows ≠ [] from fun e => by rw [e] at n1; simp at n1)
 have hr1 := o.rows r1 (by rw [er]; exact bc ..)
 have a0 : atI (q.rows.map c7) 0 = some (c7 r1) := g9 (j := 0) (by rw [er]; rfl)
 have at0 := Z8 (f := f)
 obtain ⟨z, zo, hz⟩ := shown_int (H : Int) (by omega)
 unfold VX KR
 simp only [zY, ae, ab, reduceCtorEq]
 refine GG k (jY.of k hp t) (jY.of k hj t) ne (eq_self o) (eq_self o) ?_
 simp only [bf, zY, ae, ab, reduceCtorEq]
 refine aHp k hp o t ?_
 simp only [hz, at0, t.r, a0, ah, bj, zY, ae, ab, reduceCtorEq]
 rw [aEe, hr1.1]
 simp only [hz, UG, BF zo zo, decide_true, bf, ah, bj, zY, ae, ab, reduceCtorEq]
 exact hP
theorem aBR {sc pr : D} {s7 : Option D} {m : Nat} {f2 : Fd} (hp : w[p]? = some (.ins k.aF (cS f))) (o : hU q H) (t : Tells f q) (hm : w[m]? = some (.lst (a8 f2))) (o2 : hU q2 H) (t2 : Tells f2 q2) (ne : bK q2 ≠ bK q) (hP : ∀ w', fX w w' → PF (.nx (KR sc pr f p j (some (.ref m)) s7)) w') : T (UN k (KR sc pr f p j (some (.ref m)) s7) w) PF := by
 have g2 := aHH o2 t2
 unfold UN KR
 simp only [zY, ae, ab, reduceCtorEq]
 refine aDi k (TU hm) g2.ok ?_
 rw [g2.first]
 simp only [aHe, sL, zY, ae, ab, reduceCtorEq]
 refine FZ k (TU hm) g2.ok g2.first fun w1 x1 h1 => ?_
 obtain ⟨b, e1, e2, e3⟩ := XS o2 o
 have eb : b = false := by
  cases b
  ·rfl
  ·exact (ne (e3.mp rfl)).elim
 subst eb
 try simp only [zY, ae, ab, reduceCtorEq]
 refine GG k (jY.of k h1 t2) (jY.of k (x1.at_ p (nW hp) ▸ hp) t) (by have := nW hp; omega) e1 e2 ?_
 simp only [bf, zY, ae, ab, reduceCtorEq]
 exact hP w1 x1
theorem ZC {sc pr : D} {s6 s7 : Option D} {b : Nat} (hp : w[p]? = some (.ins k.aF (cS f))) (p2 : 2 ≤ p) (hd : cJ w 1 0 (b + 2)) (o : hU q H) (t : Tells f q) (hP : ∀ w' s6, cJ w' 1 0 b → w'[p]? = some (.ins k.aF (cS f)) → PF (.nx (KR sc pr f p j s6 s7)) w') : T (N3 k (KR sc pr f p j s6 s7) w) PF := by
 have w2 : 2 ≤ w.length := by have := nW hp; omega
 unfold N3
 rw [oY]
 simp only [KR, zY, ae, ab, reduceCtorEq]
 refine OS k o t hd w2 fun w1 q0 L0 a h d1 ha hh hq hL k1 => ?_
 simp only [aEP hq, zY, ae, ab, reduceCtorEq]
 have hp1 : w1[p]? = some (.ins k.aF (cS f)) := by rw [k1.2 p (nW hp) (by omega) (by omega)]; exact hp
 refine Lb.uW (it := ⟨(List.range 10).map fun i => D.ref (L0 + i), holds q0 (.lst ((List.range 10).map fun i => D.ref (L0 + i)))⟩) (fun i σ w' => fX w1 w' ∧ ∃ s6, σ = KR sc pr f p j s6 s7) (fun i σ w' hI => ?_) ⟨fX.refl, _, rfl⟩ (fun i x σ w' hx hI => ?_) (fun σ w' hI => ?_)
 ·show w'[q0]? = _
  rw [hI.1.at_ q0 (nW hq)]
  exact hq
 ·obtain ⟨x1, s6, rfl⟩ := hI
  have i10 : i < 10 := by
   have := (aj.mp hx).1
   simpa using this
  have ex : x = .ref (L0 + i) := by
   rw [cu, List.getElem?_range i10] at hx
   exact (Option.some.inj hx).symm
  subst ex
  have hm : w'[L0 + i]? = some (.lst (a8 (fM f q a h i))) := by rw [x1.at_ _ (nW (hL i i10))]; exact hL i i10
  have hp2 : w'[p]? = some (.ins k.aF (cS f)) := by rw [x1.at_ p (nW hp1)]; exact hp1
  obtain ⟨q', o', t', ne⟩ := NJ o t ha hh i10
  simp only [KR, zY, ae, ab, reduceCtorEq]
  refine aBR k hp2 o t hm o' t' ne fun w2 x2 => ?_
  exact ⟨x1.trans x2, _, rfl⟩
 ·obtain ⟨x1, s6, rfl⟩ := hI
  exact hP w' s6 (cJ.ext d1 x1) (by rw [x1.at_ p (nW hp1)]; exact hp1)
theorem ZN {sc pr : D} {s6 s7 : Option D} (hp : w[p]? = some (.ins k.aF (cS f))) (o : hU q H) (t : Tells f q) (hP : ∀ w' s7, fX w w' → PF (.nx (KR sc pr f p j s6 s7)) w') : T (LV k (KR sc pr f p j s6 s7) w) PF := by
 unfold LV
 rw [oY]
 simp only [KR, zY, ae, ab, reduceCtorEq]
 refine VS hp (aEJ k hp o t fun w1 x1 => ⟨_, rfl, ?_⟩)
 have hp1 : w1[p]? = some (.ins k.aF (cS f)) := by rw [x1.at_ p (nW hp)]; exact hp
 try simp only [zY, ae, ab, reduceCtorEq]
 refine VS hp1 (O9 k hp1 o t fun w2 x2 => ⟨_, rfl, ?_⟩)
 have hp2 : w2[p]? = some (.ins k.aF (cS f)) := by rw [x2.at_ p (nW hp1)]; exact hp1
 try simp only [zY, ae, ab, reduceCtorEq]
 refine rM k hp2 ?_
 simp only [aC7, zY, ae, ab, reduceCtorEq]
 refine Lb.uW (it := ⟨_, always⟩) (fun i σ w' => w' = w2 ∧ ∃ s7, σ = KR sc pr f p j s6 s7) (fun _ _ _ _ => trivial) ⟨rfl, _, rfl⟩ (fun i x σ w' hx hI => ?_) (fun σ w' hI => ?_)
 ·obtain ⟨rfl, s7, rfl⟩ := hI
  have pl : gK x = true := by
   have := cf hx
   simp only [bu, cj, cz] at this
   rcases this with rfl | rfl | rfl | rfl | rfl | rfl | rfl | rfl | rfl | rfl <;> rfl
  simp only [KR, zY, ae, ab, reduceCtorEq]
  unfold aCA
  simp only [zY, ae, ab, reduceCtorEq]
  refine aAB k (jY.of k hp2 t) pl ?_
  simp only [bf, zY, ae, ab, reduceCtorEq]
  exact ⟨rfl, _, rfl⟩
 ·obtain ⟨rfl, s7, rfl⟩ := hI
  exact hP _ _ (x1.trans x2)
theorem aFG {sc pr : D} {s6 s7 : Option D} (hp : w[p]? = some (.ins k.aF (cS f))) (g : Gd f) (o : hU q H) (t : Tells f q) (hP : ∀ w', fX w w' → PF (.nx (KR sc pr f p j s6 s7)) w') : T (aGz k (KR sc pr f p j s6 s7) w) PF := by
 obtain ⟨z, zo, hz⟩ := ON o t
 unfold aGz KR
 simp only [zY, ae, ab, reduceCtorEq]
 refine aHP k g o t fun w1 x1 => ?_
 have hp1 : w1[p]? = some (.ins k.aF (cS f)) := by rw [x1.at_ p (nW hp)]; exact hp
 simp only [bf, zY, ae, ab, reduceCtorEq]
 refine rM k hp1 ?_
 simp only [hz, zY, ae, ab, reduceCtorEq]
 refine aCf k vK ?_
 simp only [hz, UG, BF zo zo, decide_true, bf, ah, bj, zY, ae, ab, reduceCtorEq]
 exact hP w1 x1
theorem aEd {sc pr : D} {s4 s5 s6 s7 : Option D} {b : Nat} (g : Gd f) (hd : cJ w 1 0 (b + 2)) (hP : ∀ w' p j s6 s7, cJ w' 1 0 b → PF (.nx (KR sc pr f p j s6 s7)) w') : T (aEQ k [some sc, some (.ref 1), some pr, some (.lst (a8 f)), s4, s5, s6, s7, none, none] w) PF := by
 obtain ⟨q, H, o, t⟩ := g.tells
 have w2 : 2 ≤ w.length := by
  obtain ⟨_, cells, sm, a, h1, h2, _⟩ := hd
  have := nW h1
  omega
 unfold aEQ
 rw [bD]
 simp only [aED, zY, ae, ab, reduceCtorEq]
 refine FZ k vK g.ok g.first fun w1 x1 h1 => ?_
 have cl : ∀ P : D → W → Prop, T (HI [.lst (a8 f)] w1) P = P (.lst (a8 f)) w1 := fun P => by unfold T; rfl
 simp only [cl, zY, ae, ab, reduceCtorEq]
 refine FZ k vK g.ok g.first fun w3 x3 h3 => ?_
 have l1 := nW h1
 have h13 : w3[w.length]? = some (.ins k.aF (cS f)) := by rw [x3.at_ _ l1]; exact h1
 try simp only [zY, ae, ab, reduceCtorEq]
 rw [bD]
 refine O6 k (j := w1.length) h13 h3 (by omega) o t ?_
 rw [dM, bD]
 refine ZC k (b := b) h13 w2 (cJ.ext hd (x1.trans x3)) o t fun w4 s6 d4 h4 => ?_
 rw [dM, bD]
 refine ZN k h4 o t fun w5 s7 x5 => ?_
 rw [dM]
 have h5 : w5[w.length]? = some (.ins k.aF (cS f)) := by rw [x5.at_ _ (nW h4)]; exact h4
 refine aFG k h5 g o t fun w6 x6 => ?_
 exact hP w6 _ _ _ _ (cJ.ext d4 (x5.trans x6))
def aAw (fs : List Fd) : List D := fs.map fun f => .lst (a8 f)
theorem good (ns : List Int) (hl : ns.length ≤ 63) (hP : ∀ w', P (.bl true) w') : T (K02.PR k [.pR (ns.map D.int)] []) P := by
 unfold K02.PR K02.aBr
 rw [dO, aGs, bD]
 simp only [aFg, zY, ae, ab, reduceCtorEq]
 refine (aDl hl).mono fun r w0 _ ⟨er, l0, d0⟩ => ?_
 subst er
 try simp only [zY, ae, ab, reduceCtorEq]
 rw [bD]
 simp only [CM (n := 2) (by omega) (by omega), zY, ae, ab, reduceCtorEq]
 have d00 : cJ w0 1 0 (10000 - 1000 * 0) := d0.less (by decide)
 try refine ⟨xH _ (by rw [oL]; decide), ?_⟩
 refine EK (it := jM 0 (2 : Int).toNat) (fun i acc w' => cJ w' 1 0 (10000 - 1000 * i) ∧ ∃ fs : List Fd, acc = aAw fs ∧ fs.length = i ∧ ∀ f ∈ fs, Gd f) (fun _ _ _ _ => trivial) ⟨d00, [], rfl, rfl, fun _ h => nomatch h⟩ (fun i x acc w1 hx hI => ?_) (fun acc w1 hI => ?_)
 ·obtain ⟨d1, fs, rfl, lf, hf⟩ := hI
  have i2 : i < 2 := (aj.mp hx).1
  simp only [eA, zY, ae, ab, reduceCtorEq]
  simp only [FU, zY, ae, ab, reduceCtorEq]
  refine fF (b := 9999 - 1000 * i) (d1.less (by omega)) (by omega) (by omega) fun a w2 a0 a1 d2 k2 => ?_
  simp only [IM, EV, aHY, ah, bj, zY, ae, ab, reduceCtorEq]
  refine aGO k (b := 9600 - 1000 * i) (d2.less (by omega)) (by cases (a == 5) <;> simp) fun f w3 gf d3 => ?_
  try simp only [zY, ae, ab, reduceCtorEq]
  refine ⟨d3.less (by omega), fs ++ [f], by simp [aAw], by simp [lf], fun g hg => ?_⟩
  rcases dh.mp hg with h | h
  ·exact hf g h
  ·rw [da.mp h]
   exact gf
 ·obtain ⟨d1, fs, rfl, lf, hf⟩ := hI
  rw [oL] at lf d1
  obtain ⟨f0, f1, rfl⟩ : ∃ f0 f1, fs = [f0, f1] := by
   match fs, lf with
   | [a, b], _ => exact ⟨a, b, rfl⟩
  have g0 := hf f0 (by simp)
  have g1 := hf f1 (by simp)
  have ep : aAw [f0, f1] = [.lst (a8 f0), .lst (a8 f1)] := rfl
  rw [ep]
  try simp only [zY, ae, ab, reduceCtorEq]
  rw [bD, oY]
  simp only [zY, ae, ab, reduceCtorEq]
  have d5 : cJ w1 1 0 (5000 - 1000 * 0) := d1.less (by decide)
  refine Lb.uW (it := ⟨[.lst (a8 f0), .lst (a8 f1)], always⟩) (fun i σ w' => cJ w' 1 0 (5000 - 1000 * i) ∧ ∃ s3 s4 s5 s6 s7, σ = [some (.pR (ns.map D.int)), some (.ref 1), some (.lst [.lst (a8 f0), .lst (a8 f1)]), s3, s4, s5, s6, s7, none, none]) (fun _ _ _ _ => trivial) ⟨d5, _, _, _, _, _, rfl⟩ (fun i x σ w2 hx hI => ?_) (fun σ w2 hI => ?_)
  ·obtain ⟨d2, s3, s4, s5, s6, s7, rfl⟩ := hI
   have i2 : i < 2 := (aj.mp hx).1
   obtain ⟨f, rfl, gf⟩ : ∃ f, x = .lst (a8 f) ∧ Gd f := by
    have := cf hx
    simp only [bu, cj, cz] at this
    rcases this with rfl | rfl
    ·exact ⟨_, rfl, g0⟩
    ·exact ⟨_, rfl, g1⟩
   simp only [zY, ae, ab, reduceCtorEq]
   refine aEd k (b := 4998 - 1000 * i) gf (d2.less (by omega)) fun w3 p j s6 s7 d3 => ?_
   exact ⟨d3.less (by omega), _, _, _, _, _, rfl⟩
  ·obtain ⟨d2, s3, s4, s5, s6, s7, rfl⟩ := hI
   have a0 : atI [D.lst (a8 f0), .lst (a8 f1)] 0 = some (.lst (a8 f0)) := rfl
   have a1 : atI [D.lst (a8 f0), .lst (a8 f1)] 1 = some (.lst (a8 f1)) := rfl
   obtain ⟨q0, H0, o0, t0⟩ := g0.tells
   obtain ⟨q1, H1, o1, t1⟩ := g1.tells
   obtain ⟨b, e1, e2, e3⟩ := XS o0 o1
   have m0 : D.tup (m6 f0) = bK q0 := by unfold bK; rw [ER t0]
   have m1 : D.tup (m6 f1) = bK q1 := by unfold bK; rw [ER t1]
   try simp only [dM, zY, ae, ab, reduceCtorEq]
   rw [bD]
   simp only [a0, a1, ah, bj, zY, ae, ab, reduceCtorEq]
   refine aCf k vK ?_
   try simp only [a0, a1, ah, bj, zY, ae, ab, reduceCtorEq]
   refine aCf k vK ?_
   rw [m0, m1]
   simp only [IM, e1, a0, a1, ah, bj, zY, ae, ab, reduceCtorEq]
   refine FZ k vK g0.ok g0.first fun w3 x3 h3 => ?_
   try simp only [a1, ah, bj, zY, ae, ab, reduceCtorEq]
   refine FZ k vK g1.ok g1.first fun w4 x4 h4 => ?_
   try simp only [zY, ae, ab, reduceCtorEq]
   have l3 := nW h3
   refine GG k (jY.of k (show w4[w2.length]? = _ by rw [x4.at_ _ l3]; exact h3) t0) (jY.of k h4 t1) (by omega) e1 e2 ?_
   exact hP _
end
theorem aBH (k : K02.bH) (ns : List Int) (h : ns.length ≤ 63) : ∃ w', K02.PR k [.pR (ns.map Pc.D.int)] [] = .ok (.bl true) w' := by
 obtain ⟨a, w, e, p⟩ := (good k (P := fun d _ => d = .bl true) ns h fun _ => rfl).ex
 exact ⟨w, by rw [e, p]⟩
end K02
namespace K02H
open PySem PySem.Spec PyProof.Rows L2 Pc K02
open PySem PySem.W PySem.Calls PyProof.Rows HandSHeadRun in
open PySem PySem.W PySem.Calls PyProof.Rows in
open PySem PySem.W PySem.Calls PyProof.Rows in
open PySem PySem.W PySem.Calls PyProof.Rows in
open PySem PySem.W PySem.Calls PyProof.Rows in
abbrev St (w : World) (K : PySem.W.Frag) (mg : Str → Option Value) (base : Heap) : aP := ⟨PySem.Challenge.pw_onemaster_k02_plans_equal_and_counted, w, K, mg, base, 0, [], defScope (top 40), fun _ => true⟩
theorem facts {w : World} {K : PySem.W.Frag} {h : Heap} {mg : Str → Option Value} (X : K.In h) (G : h.Ns mainGlobals mg) (c : He.SaysX fa fn ts [] ex w h K) :
  ∃ (d : FuncData) (kk : bH), (FunD K ("law" : Str) ("law" : Str) (defArgs (top 40)) (defBody (top 40)) (defScope (top 40)) [] [] (He.ga K "law") d) ∧ ∀ base, ∃ x : Fx (St w K mg base), x.k = kk ∧ x.LA = He.ga K "law" ∧ x.YB = d := by
 obtain ⟨d0, F0⟩ := c.t.d.def_ 0 (d := xY) rfl
 obtain ⟨d1, F1⟩ := c.t.d.def_ 1 (d := yZ) rfl
 obtain ⟨d2, F2⟩ := c.t.d.def_ 2 (d := yT) rfl
 obtain ⟨d3, F3⟩ := c.t.d.def_ 3 (d := uQ) rfl
 obtain ⟨d4, F4⟩ := c.t.d.def_ 4 (d := uG) rfl
 obtain ⟨d5, F5⟩ := c.t.d.def_ 5 (d := u7) rfl
 obtain ⟨d6, F6⟩ := c.t.d.def_ 6 (d := kF) rfl
 obtain ⟨d7, F7⟩ := c.t.d.def_ 7 (d := qW) rfl
 obtain ⟨d8, F8⟩ := c.t.d.def_ 8 (d := BW) rfl
 obtain ⟨d9, F9⟩ := c.t.d.def_ 9 (d := r8) rfl
 obtain ⟨d10, F10⟩ := c.t.d.def_ 10 (d := lW) rfl
 obtain ⟨d11, F11⟩ := c.t.d.def_ 11 (d := l9) rfl
 obtain ⟨d12, F12⟩ := c.t.d.def_ 12 (d := nR) rfl
 obtain ⟨d13, F13⟩ := c.t.d.def_ 13 (d := rW) rfl
 obtain ⟨d14, F14⟩ := c.t.d.def_ 14 (d := qJ) rfl
 obtain ⟨d15, F15⟩ := c.t.d.def_ 15 (d := yV) rfl
 obtain ⟨d16, F16⟩ := c.t.d.def_ 16 (d := vI) rfl
 obtain ⟨d17, F17⟩ := c.t.d.def_ 17 (d := vQ) rfl
 obtain ⟨d18, F18⟩ := c.t.d.def_ 18 (d := E5) rfl
 obtain ⟨d19, F19⟩ := c.t.d.def_ 19 (d := yG) rfl
 obtain ⟨d20, F20⟩ := c.t.d.def_ 20 (d := y6) rfl
 obtain ⟨d21, F21⟩ := c.t.d.def_ 21 (d := tY) rfl
 obtain ⟨d22, F22⟩ := c.t.d.def_ 22 (d := gW) rfl
 obtain ⟨d23, F23⟩ := c.t.d.def_ 23 (d := uI) rfl
 obtain ⟨d24, F24⟩ := c.t.d.def_ 24 (d := lP) rfl
 obtain ⟨d25, F25⟩ := c.t.d.def_ 25 (d := uU) rfl
 obtain ⟨d26, F26⟩ := c.t.d.def_ 26 (d := u4) rfl
 obtain ⟨d27, F27⟩ := c.t.d.def_ 27 (d := aBY) rfl
 refine ⟨d27, { aF := He.ga K "Plan", eS := He.ga K "NUMBERS", eD := kwAt ("Plan", some "__init__") "ties" K }, F27, fun base => ⟨{
  k := { aF := He.ga K "Plan", eS := He.ga K "NUMBERS", eD := kwAt ("Plan", some "__init__") "ties" K },
  LI := He.free_ok X G (c.t.d.fact 0 (f := .free "all") rfl),
  FA := He.free_ok X G (c.t.d.fact 1 (f := .free "bool") rfl),
  W7 := He.free_ok X G (c.t.d.fact 2 (f := .free "int") rfl),
  cF := He.free_ok X G (c.t.d.fact 3 (f := .free "isinstance") rfl),
  iH := He.free_ok X G (c.t.d.fact 4 (f := .free "len") rfl),
  VN := He.free_ok X G (c.t.d.fact 5 (f := .free "list") rfl),
  sI := He.free_ok X G (c.t.d.fact 6 (f := .free "range") rfl),
  qO := He.free_ok X G (c.t.d.fact 7 (f := .free "repr") rfl),
  S0 := He.free_ok X G (c.t.d.fact 8 (f := .free "sorted") rfl),
  WV := He.free_ok X G (c.t.d.fact 9 (f := .free "str") rfl),
  aEN := He.free_ok X G (c.t.d.fact 10 (f := .free "sum") rfl),
  hY := He.free_ok X G (c.t.d.fact 11 (f := .free "tuple") rfl),
  aEE := He.free_ok X G (c.t.d.fact 12 (f := .free "zip") rfl),
  W8 := jJ X G (jX c.more 0 rfl),
  aEG := jJ X G (jX c.more 1 rfl),
  aBp := jJ X G (jX c.more 2 rfl),
  aAZ := jJ X G (jX c.more 3 rfl),
  aCt := jJ X G (jX c.more 4 rfl),
  q9 := jJ X G (jX c.more 5 rfl),
  xT := jJ X G (jX c.more 6 rfl),
  D7 := jJ X G (jX c.more 7 rfl),
  E3 := jJ X G (jX c.more 8 rfl),
  DQ := jJ X G (jX c.more 9 rfl),
  aAt := jJ X G (jX c.more 10 rfl),
  aAQ := jJ X G (jX c.more 11 rfl),
  C4 := ⟨.ref _, .ref _, He.glo_ok X G (c.t.d.fact 35 (f := .glo "NUMBERS") rfl), rfl, fun _ _ => by simp [aI]⟩,
  CC := aCb (c.t.tab 0 rfl) (jX c.more 12 rfl),
  iY := aCP (jX c.more 13 rfl),
  zG := He.glo_ok X G (c.t.d.fact 36 (f := .glo "Plan") rfl),
  aBF := ⟨.ref _, .ref _, He.glo_ok X G (c.t.d.fact 36 (f := .glo "Plan") rfl), rfl, fun _ _ => by simp [aI]⟩,
  bZ := He.cls_ok (c.t.d.fact 37 (f := .cls "Plan") rfl),
  y3 := YT (jX c.more 16 rfl),
  y4 := TJ (jX c.more 17 rfl),
  aCn := RE (jX c.more 18 rfl),
  UR := aF9 (jX c.more 15 rfl),
  aBG := aDu (He.cls_ok (c.t.d.fact 37 (f := .cls "Plan") rfl)) (jX c.more 14 rfl),
  kH := He.noat_ok (c.t.d.fact 43 (f := .noat "Plan" "bears") rfl),
  kJ := He.noat_ok (c.t.d.fact 44 (f := .noat "Plan" "every") rfl),
  pB := He.noat_ok (c.t.d.fact 45 (f := .noat "Plan" "gap") rfl),
  mW := He.noat_ok (c.t.d.fact 46 (f := .noat "Plan" "hold") rfl),
  kR := He.noat_ok (c.t.d.fact 47 (f := .noat "Plan" "hosts") rfl),
  mV := He.noat_ok (c.t.d.fact 48 (f := .noat "Plan" "lost") rfl),
  iU := He.noat_ok (c.t.d.fact 49 (f := .noat "Plan" "ranks") rfl),
  nF := He.noat_ok (c.t.d.fact 50 (f := .noat "Plan" "slow") rfl),
  kI := He.noat_ok (c.t.d.fact 51 (f := .noat "Plan" "takes") rfl),
  m8 := He.noat_ok (c.t.d.fact 52 (f := .noat "Plan" "ties") rfl),
  sZ := He.fAd K xY.at_,
  sS := d0,
  yQ := F0,
  GO := He.meth_ok (c.t.d.fact 39 (f := .meth "Plan" "__len__") rfl),
  pF := He.fAd K yZ.at_,
  sM := d1,
  zB := F1,
  rS := He.glo_ok X G (c.t.d.fact 13 (f := .glo "in_words") rfl),
  pJ := F1.kp,
  sT := He.fAd K yT.at_,
  sP := d2,
  xZ := F2,
  yP := He.meth_ok (c.t.d.fact 41 (f := .meth "Plan" "__str__") rfl),
  pP := He.fAd K uQ.at_,
  pZ := d3,
  uX := F3,
  D4 := He.meth_ok (c.t.d.fact 40 (f := .meth "Plan" "__repr__") rfl),
  mS := He.fAd K uG.at_,
  qE := d4,
  uL := F4,
  DH := He.glo_ok X G (c.t.d.fact 14 (f := .glo "_law_deck") rfl),
  zV := F4.kp,
  m3 := He.fAd K u7.at_,
  pS := d5,
  vG := F5,
  b6 := He.glo_ok X G (c.t.d.fact 15 (f := .glo "_law_draw") rfl),
  bP := F5.kp,
  fL := He.fAd K kF.at_,
  iA := d6,
  kM := F6,
  h8 := He.glo_ok X G (c.t.d.fact 16 (f := .glo "_law_due_fields") rfl),
  gJ := F6.kp,
  mI := He.fAd K qW.at_,
  mH := d7,
  qU := F7,
  qT := He.meth_ok (c.t.d.fact 42 (f := .meth "Plan" "fields") rfl),
  wO := He.fAd K BW.at_,
  wR := d8,
  B2 := F8,
  lY := He.meth_ok (c.t.d.fact 38 (f := .meth "Plan" "__eq__") rfl),
  j9 := He.fAd K r8.at_,
  oJ := d9,
  sW := F9,
  kO := He.glo_ok X G (c.t.d.fact 17 (f := .glo "_law_equal") rfl),
  jA := F9.kp,
  gC := He.fAd K lW.at_,
  i0 := d10,
  mC := F10,
  eE := He.glo_ok X G (c.t.d.fact 18 (f := .glo "_law_is_within") rfl),
  dP := F10.kp,
  gA := He.fAd K l9.at_,
  iP := d11,
  lF := F11,
  rF := He.glo_ok X G (c.t.d.fact 19 (f := .glo "_law_are_cords") rfl),
  qB := F11.kp,
  gQ := He.fAd K nR.at_,
  jK := d12,
  nO := F12,
  tN := He.glo_ok X G (c.t.d.fact 20 (f := .glo "_law_are_rows") rfl),
  rJ := F12.kp,
  kW := He.fAd K rW.at_,
  n8 := d13,
  tI := F13,
  AI := He.glo_ok X G (c.t.d.fact 21 (f := .glo "_law_fault") rfl),
  xQ := F13.kp,
  jB := He.fAd K qJ.at_,
  mG := d14,
  qR := F14,
  gR := He.glo_ok X G (c.t.d.fact 22 (f := .glo "_law_fields") rfl),
  gB := F14.kp,
  oT := He.fAd K yV.at_,
  tG := d15,
  yU := F15,
  GI := He.glo_ok X G (c.t.d.fact 23 (f := .glo "is_whole") rfl),
  DA := F15.kp,
  nE := He.fAd K vI.at_,
  pO := d16,
  uY := F16,
  jV := He.glo_ok X G (c.t.d.fact 24 (f := .glo "is_within") rfl),
  i3 := F16.kp,
  mX := He.fAd K vQ.at_,
  qC := d17,
  vU := F17,
  DX := He.glo_ok X G (c.t.d.fact 25 (f := .glo "are_ranks") rfl),
  zJ := F17.kp,
  q8 := He.fAd K E5.at_,
  BD := d18,
  G4 := F18,
  QI := He.glo_ok X G (c.t.d.fact 26 (f := .glo "is_tie") rfl),
  JX := F18.kp,
  pG := He.fAd K yG.at_,
  sD := d19,
  zC := F19,
  FX := He.glo_ok X G (c.t.d.fact 27 (f := .glo "are_ties") rfl),
  C9 := F19.kp,
  oU := He.fAd K y6.at_,
  r9 := d20,
  yO := F20,
  FJ := He.glo_ok X G (c.t.d.fact 28 (f := .glo "is_field") rfl),
  DI := F20.kp,
  pL := He.fAd K tY.at_,
  iG := d21,
  jZ := F21,
  HS := He.mkr_ok (c.t.d.fact 53 (f := .mkr "Plan") rfl),
  dY := He.fAd K gW.at_,
  fH := d22,
  hR := F22,
  lE := He.glo_ok X G (c.t.d.fact 29 (f := .glo "_law_left_out_right") rfl),
  kE := F22.kp,
  mT := He.fAd K uI.at_,
  pV := d23,
  vD := F23,
  jW := He.glo_ok X G (c.t.d.fact 30 (f := .glo "_law_made") rfl),
  iT := F23.kp,
  gE := He.fAd K lP.at_,
  iR := d24,
  l8 := F24,
  rB := He.glo_ok X G (c.t.d.fact 31 (f := .glo "_law_otherwise") rfl),
  pX := F24.kp,
  nA := He.fAd K uU.at_,
  pN := d25,
  vP := F25,
  pU := He.glo_ok X G (c.t.d.fact 32 (f := .glo "_law_pick") rfl),
  oA := F25.kp,
  mU := He.fAd K u4.at_,
  qD := d26,
  vT := F26,
  D1 := He.glo_ok X G (c.t.d.fact 33 (f := .glo "_law_told") rfl),
  AB := F26.kp,
  LA := He.fAd K aBY.at_,
  YB := d27,
  aEB := F27,
  aEK := He.glo_ok X G (c.t.d.fact 34 (f := .glo "law") rfl),
  aFP := F27.kp,
  aAg := aDs (jX c.more 19 rfl) }, rfl, rfl, rfl⟩⟩
end K02H
set_option maxHeartbeats 0
open PySem PySem.W PySem.Calls PyProof.Rows
theorem PySem.Challenge.cw_onemaster_k02_plans_equal_and_counted_holds : PySem.Challenge.rw_onemaster_k02_plans_equal_and_counted.Holds := by
 refine K02H.early.2 ?_
 ·refine Pc.aCl (l := PySem.Challenge.rw_onemaster_k02_plans_equal_and_counted) (n := 63) (k := 9) (x := "_law_script") rfl (by decide) (by kernel_rfl) ⟨rfl, by decide, by decide⟩ ?F
  intro w mg fa h Y G hmg0
  obtain ⟨K, KX, c⟩ := Y
  have hmg : mg ("law" : PySem.Str) = some (.ref fa) := by
   have e : (HandSHeadRun.topDef (OpenLaw.row PySem.Challenge.rw_onemaster_k02_plans_equal_and_counted).prog 40).name = ("law" : PySem.Str) := by kernel_rfl
   rw [← e]
   exact hmg0
  obtain ⟨d, kk, F, fx⟩ := K02H.facts KX G c
  have hx : fa = He.ga K "law" := by
   obtain ⟨x0, _, e1, _⟩ := fx {}
   have z := x0.aEK
   rw [e1] at z
   have z2 := hmg.symm.trans z
   cases z2
   rfl
  have bd := L2.FunD.bindsA (ps := ["_law_script"]) F fun _ _ _ _ _ _ us hl => match us, hl with | [_], _ => rfl
  refine ⟨K, d, K02.PR kk, KX, fun s v => bd s [v] rfl, fun ns hl => K02.aBH kk ns hl, fun base _ _ => ?_⟩
  obtain ⟨x, e0, e1, e2⟩ := fx base
  have z := K02.aGd x
  rw [e0, e1, e2] at z
  rw [hx]
  exact z
end
