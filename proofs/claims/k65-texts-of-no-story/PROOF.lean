import PyProof.Rows.All
import Wide.All
import OpenK.AllK
import Wide.FinOn
import HandS.ForMost
import HandS.ForExc
import HandS.TupAny
import HandS.Style
import HandS.Flow
import HandS.Deep
import PyProof.NeKinds
import HandS.Defaults
import HandS.WordsDict
import HandS.IsInst
import HandS.Conv
import KE.SortKeyHeap
import HandS.MakeKwOnly
import HandS.More
import HandS.ListItems
import HandS.Zip
import KE.GoesEnumKw
import HandS.Head0
import HandS.Head1
import HandS.Head2
import HandS.HeadEnd
import HandS.HeadHook1
import HandS.HeadHook2
import HandS.HeadHook3
import HandS.HeadHook4
import HandS.NamedTupGet
import PyProof.FactsLen
import HandS.TupMul
import KE.GoesEnum
import HandS.Zip0
import HandS.SetFor
import HandS.Strs
import KE.DataAny
import KE.KDictPairs
import HandS.DictComp
import HandS.NoneIn
import KE.KEqDict
import HandS.TupLe
import KE.KAssignIn
import HandS.Finally
import HandS.SlotsOwn
import PyProof.InstNe
import HandS.Dict
import HandS.Iter
import KE.KDictCopyH
import KE.DataMinMax
import KE.SortData
import PyProof.Rows.RowBridgeK
import HandS.Exc
import HandS.ExcInit
import HandS.ExcField
import HandS.ClsMeth
import HandS.Text
import HandS.TryMany
import HandS.ExcIs
import HandS.RaiseMore
import HandS.DictTup
import PyProof.ExcBaseAll.IndexError
import HandS.ExcBuiltin
import KE.KExcInit
import KE.SortUse
import HandS.SortKw
import HandS.TupLen
import PyProof.Rows.IntBool
import HandS.FStr
import KE.KCallOwn
import PyProof.Walks
import HandS.HotCalls
import HandS.Ends
import PySem.Challenge.RW_onemaster_k65_texts_of_no_story
import KE.KStateDown
import PyProof.Rows.ReprOcc
noncomputable section
set_option linter.all false
def ae := @if_false
def af := @if_true
def ai := @decide_eq_true_eq
def aj := @Option.some.injEq
def ak := @Bool.and_eq_true
def ao := @Nat.le_of_ble_eq_true
def aq := @Option.map_eq_some_iff
def ar := @List.getElem?_eq_some_iff
def au := @List.all_eq_true
def av := @List.length_map
def aw := @List.mem_cons_self
def ay := @List.mem_cons
def az := @Nat.le_refl
def bc := @List.mem_cons_of_mem
def bf := @List.cons_append
def bg := @List.length_cons
def bh := @List.mem_append
def bj := @List.getElem?_append_left
def bo := @List.getElem?_eq_getElem
def bp := @List.mem_singleton
def bq := @Nat.le_trans
def br := @List.not_mem_nil
def bt := @List.map_cons
def bu := @List.getElem?_set_ne
def bw := @List.length_append
def bx := @exists_eq_left'
def bz := @List.nil_append
def cb := @Bool.not_true
def cc := @List.getElem?_set_self
def cg := @List.mem_map
def cj := @List.map_append
def ck := @Bool.not_false
def cq := @List.mem_of_getElem?
def cw := @List.length_nil
def cy := @List.getElem?_append_right
def cz := @List.append_assoc
def da := @List.getElem?_map
def dc := @Bool.false_eq_true
def de := @decide_eq_false
def df := @or_false
def dh := @List.take_of_length_le
def di := @List.exists_cons_of_ne_nil
def dj := @List.length_singleton
def dk := @List.drop_zero
def dn := @List.length_take
def dq := @List.length_drop
def du := @List.append_nil
def dv := @Option.bind_eq_some_iff
def dw := @Nat.mul_le_mul_right
def dy := @List.mem_of_mem_take
def dz := @List.map_nil
def eb := @beq_eq_false_iff_ne
set_option Elab.async false
set_option linter.all false
set_option maxRecDepth 100000
set_option maxHeartbeats 4000000
set_option autoImplicit false
namespace Pc
open PySem PySem.Spec PyProof.Rows L2
inductive D where
 | non | bl (b : Bool) | int (i : Int) | str (x : Str) | ty (n : String) | con (a : Addr)
 | tup (xs : List D) | lst (xs : List D) | qK (xs : List D) | vU (xs : List D) | EZ (ks vs : List D) | ref (i : Nat)
inductive MO where
 | lst (xs : List D) | dK (kvs : List (Key × D)) | dT (kvs : List (List Key × D)) | dF (kvs : List (Key × D)) | dG (kvs : List (List Key × D)) | ins (C : Addr) (fs : List (Str × D))
def MO.fz : MO → Bool
 | .dF _ => true
 | .dG _ => true
 | _ => false
abbrev W := List MO
structure XD where
 cls : Value
 fs : Option (List (Str × D))
inductive Res (α : Type) where
 | ok (a : α) (w : W)
 | zC (x : XD) (w : W)
 | bad
def Res.bind {α β : Type} (r : Res α) (f : α → W → Res β) : Res β := match r with
 | .ok a w => f a w
 | .zC x w => .zC x w
 | .bad => .bad
@[simp] theorem Res.aLY {α β : Type} (a : α) (w : W) (f : α → W → Res β) : (Res.ok a w).bind f = f a w := rfl
@[simp] theorem Res.aKU {α β : Type} (x : XD) (w : W) (f : α → W → Res β) : (Res.zC x w : Res α).bind f = .zC x w := rfl
@[simp] theorem Res.aLi {α β : Type} (f : α → W → Res β) : (Res.bad : Res α).bind f = .bad := rfl
theorem Res.bind_assoc {α β γ : Type} (r : Res α) (f : α → W → Res β) (g : β → W → Res γ) : (r.bind f).bind g = r.bind fun a w => (f a w).bind g := by
 cases r <;> rfl
mutual
def aG (K : PySem.W.Frag) (I : List Addr) (F : Hp) : D → V → Prop
 | .non, v => v = .non
 | .bl b, v => v = .bl b
 | .int i, v => v = .int i
 | .str x, v => v = .str x
 | .ty n, v => v = .ty n
 | .con a, v => v = .ref a
 | .tup xs, v => ∃ a vs, v = .ref a ∧ F a = some (.tup vs) ∧ RepL K I F xs vs
 | .lst xs, v => ∃ a vs, v = .ref a ∧ F a = some (.lst vs) ∧ RepL K I F xs vs
 | .qK xs, v => ∃ a vs, v = .ref a ∧ SqL K F a vs ∧ RepL K I F xs vs
 | .vU xs, v => ∃ a vs, v = .ref a ∧ SqT K F a vs ∧ RepL K I F xs vs
 | .EZ ks xs, v => ∃ a kvs, v = .ref a ∧ Rd F a (.dK kvs) ∧ RepL K I F ks (kvs.map fun p => kV p.1) ∧ RepL K I F xs (kvs.map fun p => p.2)
 | .ref i, v => ∃ a, v = .ref a ∧ I[i]? = some a
def RepL (K : PySem.W.Frag) (I : List Addr) (F : Hp) : List D → List V → Prop
 | [], vs => vs = []
 | d :: ds, vs => ∃ v r, vs = v :: r ∧ aG K I F d v ∧ RepL K I F ds r
end
def aS {κ : Type} (K : PySem.W.Frag) (I : List Addr) (F : Hp) : List (κ × D) → List (κ × V) → Prop
 | [], vs => vs = []
 | (k, d) :: ds, vs => ∃ v r, vs = (k, v) :: r ∧ aG K I F d v ∧ aS K I F ds r
def qL (K : PySem.W.Frag) (I : List Addr) (F : Hp) : MO → HO → Prop
 | .lst xs, u => ∃ vs, u = .lst vs ∧ RepL K I F xs vs
 | .dK kvs, u => ∃ r, u = .dK r ∧ aS K I F kvs r
 | .dT kvs, u => ∃ r, u = .dT r ∧ aS K I F kvs r
 | .dF kvs, u => ∃ o r, u = .frz o (.dK r) ∧ aS K I F kvs r
 | .dG kvs, u => ∃ o r, u = .frz o (.dT r) ∧ aS K I F kvs r
 | .ins C fs, u => ∃ dx r, u = .ins C dx r ∧ aS K I F fs r
structure Rel (K : PySem.W.Frag) (I : List Addr) (F : Hp) (G : Hp) (w : W) (H : Hp) : Prop where
 len : I.length = w.length
 nd : I.Nodup
 ob : ∀ (i : Nat) (a : Addr) (o : MO), I[i]? = some a → w[i]? = some o → ∃ u, H a = some u ∧ qL K I F o u
 fz : ∀ a u, F a = some u → H a = some u
 ap : ∀ (i : Nat) (a : Addr) (o : MO), I[i]? = some a → w[i]? = some o → o.fz = false → F a = none
 gz : ∀ a u, G a = some u → H a = some u
 gf : ∀ a u, G a = some u → F a = none ∧ a ∉ I
 gt : ∀ a xs, ¬ G a = some (.tup xs)
structure Ext (I : List Addr) (F : Hp) (I' : List Addr) (F' : Hp) : Prop where
 i : I <+: I'
 f : ∀ a u, F a = some u → F' a = some u
theorem Ext.refl {I : List Addr} {F : Hp} : Ext I F I F := ⟨List.prefix_refl _, fun _ _ h => h⟩
theorem Ext.trans {I I1 I2 : List Addr} {F F1 F2 : Hp} (a : Ext I F I1 F1) (b : Ext I1 F1 I2 F2) : Ext I F I2 F2 := ⟨a.i.trans b.i, fun x u h => b.f x u (a.f x u h)⟩
theorem Ext.get {I I1 : List Addr} {F F1 : Hp} (e : Ext I F I1 F1) {i : Nat} {a : Addr} (h : I[i]? = some a) : I1[i]? = some a := by
 obtain ⟨t, rfl⟩ := e.i
 have hi : i < I.length := (ar.mp h).1
 rw [bj hi]; exact h
section
variable {K : PySem.W.Frag} {I I1 I2 : List Addr} {F F1 F2 : Hp}
theorem Y5 (e : Ext I F I1 F1) {a : Addr} {u : HO} (h : Rd F a u) : Rd F1 a u := by
 rcases h with h | ⟨o, h⟩
 ·exact .inl (e.f _ _ h)
 ·exact .inr ⟨o, e.f _ _ h⟩
theorem HM (e : Ext I F I1 F1) {a : Addr} {vs : List V} (h : SqT K F a vs) : SqT K F1 a vs := by
 rcases h with h | h
 ·exact .inl (Y5 e h)
 ·exact .inr h
theorem aBg (e : Ext I F I1 F1) {a : Addr} {vs : List V} (h : SqL K F a vs) : SqL K F1 a vs := by
 rcases h with h | h
 ·exact .inl (Y5 e h)
 ·exact .inr h
mutual
theorem aG.ext (e : Ext I F I1 F1) : ∀ (d : D) (v : V), aG K I F d v → aG K I1 F1 d v
 | .non, _, h => h
 | .bl _, _, h => h
 | .int _, _, h => h
 | .str _, _, h => h
 | .ty _, _, h => h
 | .con _, _, h => h
 | .tup xs, v, h => by
  simp only [aG] at h ⊢
  obtain ⟨a, vs, h1, h2, h3⟩ := h
  exact ⟨a, vs, h1, e.f _ _ h2, RepL.ext e xs vs h3⟩
 | .vU xs, v, h => by
  simp only [aG] at h ⊢
  obtain ⟨a, vs, h1, h2, h3⟩ := h
  exact ⟨a, vs, h1, HM e h2, RepL.ext e xs vs h3⟩
 | .lst xs, v, h => by
  simp only [aG] at h ⊢
  obtain ⟨a, vs, h1, h2, h3⟩ := h
  exact ⟨a, vs, h1, e.f _ _ h2, RepL.ext e xs vs h3⟩
 | .qK xs, v, h => by
  simp only [aG] at h ⊢
  obtain ⟨a, vs, h1, h2, h3⟩ := h
  exact ⟨a, vs, h1, aBg e h2, RepL.ext e xs vs h3⟩
 | .EZ ks xs, v, h => by
  simp only [aG] at h ⊢
  obtain ⟨a, kvs, h1, h2, h3, h4⟩ := h
  exact ⟨a, kvs, h1, Y5 e h2, RepL.ext e ks _ h3, RepL.ext e xs _ h4⟩
 | .ref i, v, h => by
  simp only [aG] at h ⊢
  obtain ⟨a, h1, h2⟩ := h
  exact ⟨a, h1, e.get h2⟩
theorem RepL.ext (e : Ext I F I1 F1) : ∀ (ds : List D) (vs : List V), RepL K I F ds vs → RepL K I1 F1 ds vs
 | [], _, h => h
 | d :: ds, vs, h => by
  simp only [RepL] at h ⊢
  obtain ⟨v, r, h1, h2, h3⟩ := h
  exact ⟨v, r, h1, aG.ext e d v h2, RepL.ext e ds r h3⟩
end
theorem aS.ext {κ : Type} (e : Ext I F I1 F1) : ∀ (ds : List (κ × D)) (vs : List (κ × V)), aS K I F ds vs → aS K I1 F1 ds vs
 | [], _, h => h
 | (k, d) :: ds, vs, h => by
  simp only [aS] at h ⊢
  obtain ⟨v, r, h1, h2, h3⟩ := h
  exact ⟨v, r, h1, aG.ext e d v h2, aS.ext e ds r h3⟩
theorem qL.ext (e : Ext I F I1 F1) {o : MO} {u : HO} (h : qL K I F o u) : qL K I1 F1 o u := by
 cases o with
 | lst xs => obtain ⟨vs, h1, h2⟩ := h; exact ⟨vs, h1, RepL.ext e _ _ h2⟩
 | dK xs => obtain ⟨vs, h1, h2⟩ := h; exact ⟨vs, h1, aS.ext e _ _ h2⟩
 | dT xs => obtain ⟨vs, h1, h2⟩ := h; exact ⟨vs, h1, aS.ext e _ _ h2⟩
 | dF xs => obtain ⟨o, vs, h1, h2⟩ := h; exact ⟨o, vs, h1, aS.ext e _ _ h2⟩
 | dG xs => obtain ⟨o, vs, h1, h2⟩ := h; exact ⟨o, vs, h1, aS.ext e _ _ h2⟩
 | ins C xs => obtain ⟨dx, vs, h1, h2⟩ := h; exact ⟨dx, vs, h1, aS.ext e _ _ h2⟩
theorem RepL.length : ∀ {ds : List D} {vs : List V}, RepL K I F ds vs → ds.length = vs.length
 | [], vs, h => by simp only [RepL] at h; subst h; rfl
 | d :: ds, vs, h => by
  simp only [RepL] at h
  obtain ⟨v, r, rfl, _, h3⟩ := h
  simp [RepL.length h3]
theorem RepL.cons {d : D} {ds : List D} {v : V} {vs : List V} (h : aG K I F d v) (t : RepL K I F ds vs) : RepL K I F (d :: ds) (v :: vs) := by
 simp only [RepL]; exact ⟨v, vs, rfl, h, t⟩
theorem RepL.append : ∀ {ds es : List D} {vs us : List V}, RepL K I F ds vs → RepL K I F es us → RepL K I F (ds ++ es) (vs ++ us)
 | [], _, _, _, h, t => by simp only [RepL] at h; subst h; exact t
 | d :: ds, es, vs, us, h, t => by
  simp only [RepL] at h
  obtain ⟨v, r, rfl, h2, h3⟩ := h
  exact RepL.cons h2 (RepL.append h3 t)
theorem RepL.get : ∀ {ds : List D} {vs : List V} {i : Nat} {d : D}, RepL K I F ds vs → ds[i]? = some d → ∃ v, vs[i]? = some v ∧ aG K I F d v
 | [], _, _, _, _, e => by simp at e
 | d :: ds, vs, 0, x, h, e => by
  simp only [RepL] at h
  obtain ⟨v, r, rfl, h2, _⟩ := h
  simp at e; subst e
  exact ⟨v, rfl, h2⟩
 | d :: ds, vs, i + 1, x, h, e => by
  simp only [RepL] at h
  obtain ⟨v, r, rfl, _, h3⟩ := h
  obtain ⟨u, h4, h5⟩ := RepL.get (i := i) h3 (by simpa using e)
  exact ⟨u, by simpa using h4, h5⟩
theorem RepL.set : ∀ {ds : List D} {vs : List V} (i : Nat) {d : D} {v : V}, RepL K I F ds vs → aG K I F d v → RepL K I F (ds.set i d) (vs.set i v)
 | [], vs, _, _, _, h, _ => by simp only [RepL] at h; subst h; simp [RepL]
 | d :: ds, vs, 0, x, u, h, hv => by
  simp only [RepL] at h
  obtain ⟨v, r, rfl, _, h3⟩ := h
  exact RepL.cons hv h3
 | d :: ds, vs, i + 1, x, u, h, hv => by
  simp only [RepL] at h
  obtain ⟨v, r, rfl, h2, h3⟩ := h
  exact RepL.cons h2 (RepL.set i h3 hv)
theorem RepL.take : ∀ {ds : List D} {vs : List V} (n : Nat), RepL K I F ds vs → RepL K I F (ds.take n) (vs.take n)
 | _, _, 0, _ => by simp [RepL]
 | [], vs, n + 1, h => by simp only [RepL] at h; subst h; simp [RepL]
 | d :: ds, vs, n + 1, h => by
  simp only [RepL] at h
  obtain ⟨v, r, rfl, h2, h3⟩ := h
  exact RepL.cons h2 (RepL.take n h3)
theorem RepL.drop : ∀ {ds : List D} {vs : List V} (n : Nat), RepL K I F ds vs → RepL K I F (ds.drop n) (vs.drop n)
 | _, _, 0, h => h
 | [], vs, n + 1, h => by simp only [RepL] at h; subst h; simp [RepL]
 | d :: ds, vs, n + 1, h => by
  simp only [RepL] at h
  obtain ⟨v, r, rfl, h2, h3⟩ := h
  exact RepL.drop n h3
theorem RepL.ints (ns : List Int) : RepL K I F (ns.map D.int) (ns.map V.int) := by
 induction ns with
 | nil => simp [RepL]
 | cons n ns ih => exact RepL.cons (by simp [aG]) ih
end
abbrev Sg := List (Option D)
def dU (K : PySem.W.Frag) (I : List Addr) (F : Hp) (ds : Sg) (s : L2.St) : Prop := ds.length = s.length ∧ ∀ (i : Nat) (d : D), ds[i]? = some (some d) → ∃ v, s[i]? = some (some v) ∧ aG K I F d v
theorem dU.ext {K : PySem.W.Frag} {I I1 : List Addr} {F F1 : Hp} {ds : Sg} {s : L2.St} (h : dU K I F ds s) (e : Ext I F I1 F1) : dU K I1 F1 ds s :=
 ⟨h.1, fun i d q => let ⟨v, h1, h2⟩ := h.2 i d q; ⟨v, h1, aG.ext e d v h2⟩⟩
theorem dU.set {K : PySem.W.Frag} {I : List Addr} {F : Hp} {ds : Sg} {s : L2.St} (h : dU K I F ds s) (i : Nat) {d : D} {v : V} (hv : aG K I F d v) : dU K I F (ds.set i (some d)) (s.set i (some v)) := by
 refine ⟨by simp [h.1], fun j e q => ?_⟩
 by_cases hj : i = j
 ·subst hj
  by_cases hl : i < ds.length
  ·rw [cc hl] at q
   cases q
   exact ⟨v, cc (by rw [← h.1]; exact hl), hv⟩
  ·rw [List.getElem?_eq_none (by simpa using hl)] at q; cases q
 ·rw [bu hj] at q
  rw [bu hj]
  exact h.2 j e q
theorem dU.unset {K : PySem.W.Frag} {I : List Addr} {F : Hp} {ds : Sg} {s : L2.St} (h : dU K I F ds s) (i : Nat) (x : Option V) : dU K I F (ds.set i none) (s.set i x) := by
 refine ⟨by simp [h.1], fun j e q => ?_⟩
 by_cases hj : i = j
 ·subst hj
  by_cases hl : i < ds.length
  ·rw [cc hl] at q; cases q
  ·rw [List.getElem?_eq_none (by simpa using hl)] at q; cases q
 ·rw [bu hj] at q
  rw [bu hj]
  exact h.2 j e q
def A0 (K : PySem.W.Frag) (I : List Addr) (F H : Hp) (x : XD) (c : Value) (d : Option Addr) : Prop :=
 c = x.cls ∧ match x.fs with
  | none => d = none
  | some fs => ∃ a r, d = some a ∧ H a = some (.xd r) ∧ aS K I F fs r
def bC {α : Type} (K : PySem.W.Frag) (I : List Addr) (F G : Hp) (E : XK) (R : List Addr → Hp → Hp → α → W → Prop) : Res α → Prop
 | .ok a w => ∀ I' F' H', Ext I F I' F' → Rel K I' F' G w H' → R I' F' H' a w
 | .zC x w => ∀ I' F' H' c d, Ext I F I' F' → Rel K I' F' G w H' → A0 K I' F' H' x c d → E c d H'
 | .bad => False
section
variable {α β : Type} {K : PySem.W.Frag} {I I1 : List Addr} {F F1 G : Hp} {E : XK} {R R' : List Addr → Hp → Hp → α → W → Prop} {r : Res α}
theorem bC.ext (h : bC K I F G E R r) (e : Ext I F I1 F1) : bC K I1 F1 G E R r := by
 cases r with
 | ok a w => exact fun I' F' H' e' q => h I' F' H' (e.trans e') q
 | zC x w => exact fun I' F' H' c d e' q y => h I' F' H' c d (e.trans e') q y
 | bad => exact h
theorem bC.mono (h : bC K I F G E R r) (k : ∀ I' F' H' a w, r = .ok a w → Ext I F I' F' → Rel K I' F' G w H' → R I' F' H' a w → R' I' F' H' a w) : bC K I F G E R' r := by
 cases r with
 | ok a w => exact fun I' F' H' e' q => k I' F' H' a w rfl e' q (h I' F' H' e' q)
 | zC x w => exact h
 | bad => exact h
theorem bC.bind {f : α → W → Res β} {R2 : List Addr → Hp → Hp → β → W → Prop} (h : bC K I F G E R2 (r.bind f)) : bC K I F G E (fun I' F' _ a w => bC K I' F' G E R2 (f a w)) r := by
 cases r with
 | ok a w => exact fun I' F' H' e' q => bC.ext (K := K) (R := R2) h e'
 | zC x w => exact h
 | bad => exact h
end
def RV (K : PySem.W.Frag) (Q : VK) : List Addr → Hp → Hp → D → W → Prop := fun I' F' H' d _ => ∀ v, aG K I' F' d v → Q v H'
structure aR where
 P : Program
 w : World
 K : PySem.W.Frag
 mg : Str → Option Value
 base : Heap
 k : Nat
 N : List Str
 sc : Scope
 fn : Str → Bool
structure Ctx (S : aR) (X : Cx) : Prop where
 P : X.prog = S.P
 w : X.w = S.w
 K : X.K = S.K
 mg : X.mg = S.mg
 base : X.base = S.base
 N : X.N = S.N
 sc : X.env.scope = S.sc
 fn : ∀ x, S.fn x = true → X.fn x = true
 calm : X.calm = true
 room : Room S.k X.A
 gds : X.A.guards = some []
 nd : X.N.Nodup
structure vV (X : Cx) (E : XK) : Prop where
 tk : Takes X (fun cls d _ H => E cls d H)
 own : PassesOwn (model X.prog X.w) X.A X.env X.xe
abbrev ME := Sg → W → Res D
abbrev MT := Sg → W → Res Bool
abbrev MA := Sg → W → Res (List D)
inductive Fl where
 | nx (s : Sg) | rt (d : D) | bk (s : Sg) | ct (s : Sg)
abbrev MS := Sg → W → Res Fl
def RL (K : PySem.W.Frag) (Q : List V → Hp → Prop) : List Addr → Hp → Hp → List D → W → Prop := fun I' F' H' ds _ => ∀ vs, RepL K I' F' ds vs → Q vs H'
def RB (Q : Bool → Hp → Prop) : List Addr → Hp → Hp → Bool → W → Prop := fun _ _ H' b _ => Q b H'
def RFl (K : PySem.W.Frag) (Z : Ends) : List Addr → Hp → Hp → Fl → W → Prop := fun I' F' H' f _ => match f with
 | .nx s => ∀ s', dU K I' F' s s' → Z.nx s' H'
 | .rt d => ∀ v, aG K I' F' d v → Z.rt v H'
 | .bk s => ∀ s', dU K I' F' s s' → Z.bk s' H'
 | .ct s => ∀ s', dU K I' F' s s' → Z.ct s' H'
def y9 (K : PySem.W.Frag) (E : XK) (m : ME) : TE := fun σ H Q => ∃ I F G ds w, Rel K I F G w H ∧ dU K I F ds σ ∧ bC K I F G E (RV K Q) (m ds w)
def aCw (K : PySem.W.Frag) (E : XK) (m : MT) : TT := fun σ H Q => ∃ I F G ds w, Rel K I F G w H ∧ dU K I F ds σ ∧ bC K I F G E (RB Q) (m ds w)
def aI6 (K : PySem.W.Frag) (E : XK) (m : MA) : TA := fun σ H Q => ∃ I F G ds w, Rel K I F G w H ∧ dU K I F ds σ ∧ bC K I F G E (RL K Q) (m ds w)
def TN (K : PySem.W.Frag) (E : XK) (m : MS) : TS := fun Z σ H => ∃ I F G ds w, Rel K I F G w H ∧ dU K I F ds σ ∧ bC K I F G E (RFl K Z) (m ds w)
def JE (S : aR) (e : Expr) (m : ME) : Prop := ∀ X E, Ctx S X → vV X E → PE X e (y9 X.K E m)
def JT (S : aR) (e : Expr) (m : MT) : Prop := ∀ X E, Ctx S X → vV X E → PT X e (aCw X.K E m)
def JW (S : aR) (e : Expr) (m : MT) : Prop := ∀ X E, Ctx S X → vV X E → PW X e (aCw X.K E m)
def JA (S : aR) (es : List Expr) (m : MA) : Prop := ∀ X E, Ctx S X → vV X E → PA X es (aI6 X.K E m)
def JS (S : aR) (st : Stmt) (m : MS) : Prop := ∀ X E, Ctx S X → vV X E → PS X st (TN X.K E m)
def sH (S : aR) (st : List Stmt) (m : MS) : Prop := ∀ X E, Ctx S X → vV X E → PSs X st (TN X.K E m)
section
variable {X : Cx} {e : Expr} {es : List Expr} {st : Stmt} {sts : List Stmt}
theorem cC {t t' : TE} (h : PE X e t) (k : ∀ σ H Q, t' σ H Q → t σ H Q) : PE X e t' := ⟨fun pins s σ H Q I q => h.run pins s σ H Q I (k σ H Q q)⟩
theorem HI {t t' : TT} (h : PT X e t) (k : ∀ σ H Q, t' σ H Q → t σ H Q) : PT X e t' := ⟨fun pins s σ H Q I q => h.run pins s σ H Q I (k σ H Q q)⟩
theorem aAt {t t' : TT} (h : PW X e t) (k : ∀ σ H Q, t' σ H Q → t σ H Q) : PW X e t' := ⟨fun wh pins s σ H Q I q => h.run wh pins s σ H Q I (k σ H Q q)⟩
theorem HQ {t t' : TA} (h : PA X es t) (k : ∀ σ H Q, t' σ H Q → t σ H Q) : PA X es t' := ⟨fun pos pins s σ H Q I q => h.run pos pins s σ H Q I (k σ H Q q)⟩
theorem mK {t t' : TS} (h : PS X st t) (k : ∀ D σ H, t' D σ H → t D σ H) : PS X st t' := ⟨fun pins s σ H D I q => h.run pins s σ H D I (k D σ H q)⟩
theorem BR {t t' : TS} (h : PSs X sts t) (k : ∀ D σ H, t' D σ H → t D σ H) : PSs X sts t' := ⟨fun pins s σ H D I q => h.run pins s σ H D I (k D σ H q)⟩
end
def aB (i : Nat) : ME := fun σ w => match σ[i]? with
 | some (some d) => .ok d w
 | _ => .bad
def eC (d : D) : ME := fun _ w => .ok d w
section
variable {S : aR} {pos : Pos}
theorem aIC (i : Nat) {x : Str} (hN : S.N[i]? = some x) (hv : Vis S.sc x) (hd : (x == ("__debug__" : Str)) = false := by decide) (hcd : (x == ("__classdict__" : Str)) = false := by decide) : JE S (.Name x pos) (aB i) := by
 intro X E c xo
 refine cC (pe_var (i := i) (by rw [c.N]; exact hN) (by rw [c.sc]; exact hv) hd hcd) fun σ H Q h => ?_
 obtain ⟨I, F, G, ds, w, rel, rs, p⟩ := h
 unfold aB at p
 split at p
 ·rename_i d hi
  obtain ⟨v, hv, hr⟩ := rs.2 i d hi
  exact ⟨v, hv, p I F H .refl rel v hr⟩
 ·exact p.elim
theorem aFY {e : Expr} {d : D} {v : V} (h : ∀ X, PE X e (tC v)) (hr : ∀ K I F, aG K I F d v) : JE S e (eC d) := by
 intro X E c xo
 refine cC (h X) fun σ H Q h => ?_
 obtain ⟨I, F, G, ds, w, rel, rs, p⟩ := h
 exact p I F H .refl rel v (hr _ _ _)
theorem aN {i : Int} {j : Nat} : JE S (.Constant (.int i) j pos) (eC (.int i)) := aFY (fun _ => pe_int) fun _ _ _ => by simp [aG]
theorem xU {b : Bool} {j : Nat} : JE S (.Constant (.bool b) j pos) (eC (.bl b)) := aFY (fun _ => pe_bl) fun _ _ _ => by simp [aG]
theorem e9 {j : Nat} : JE S (.Constant .none j pos) (eC .non) := aFY (fun _ => pe_non) fun _ _ _ => by simp [aG]
theorem aK {x : Str} {j : Nat} : JE S (.Constant (.str x) j pos) (eC (.str x)) := aFY (fun _ => pe_str) fun _ _ _ => by simp [aG]
theorem aGQ {x : Str} {d : D} {v : V} {u : Value} (hg : S.sc.names.lookup x = some .globalImplicit) (hm : S.mg x = some u) (r : RelV v u) (hr : ∀ I F, aG S.K I F d v) (hd : (x == ("__debug__" : Str)) = false := by decide) : JE S (.Name x pos) (eC d) := by
 intro X E c xo
 refine cC (pe_glob (x := x) (v := v) (u := u) (by show X.env.scope.names.lookup x = _; rw [c.sc]; exact hg) (by rw [c.mg]; exact hm) r hd) fun σ H Q h => ?_
 obtain ⟨I, F, G, ds, w, rel, rs, p⟩ := h
 exact p I F H .refl rel v (by rw [c.K]; exact hr _ _)
end
def aE (f : D → D → W → Res D) (a b : ME) : ME := fun σ w => (a σ w).bind fun x w1 => (b σ w1).bind fun y w2 => f x y w2
def AZ (f : D → W → Res D) (a : ME) : ME := fun σ w => (a σ w).bind fun x w1 => f x w1
def YE (K : PySem.W.Frag) (E : XK) (f : D → D → W → Res D) : R2 := fun x y H Q => ∃ I F G d e w, Rel K I F G w H ∧ aG K I F d x ∧ aG K I F e y ∧ bC K I F G E (RV K Q) (f d e w)
def aMt (K : PySem.W.Frag) (E : XK) (f : D → W → Res D) : V → Hp → VK → Prop := fun x H Q => ∃ I F G d w, Rel K I F G w H ∧ aG K I F d x ∧ bC K I F G E (RV K Q) (f d w)
def O2 (S : aR) (o : Value → Value → Sem Value) (f : D → D → W → Res D) : Prop := ∀ X E, Ctx S X → vV X E → OpR X o (YE X.K E f)
def O1 (S : aR) (o : Value → Sem Value) (f : D → W → Res D) : Prop := ∀ X E, Ctx S X → vV X E → UnR X o (aMt X.K E f)
section
variable {S : aR} {pos : Pos} {a b : Expr} {ma mb : ME}
theorem B3 {K : PySem.W.Frag} {E : XK} {f : D → D → W → Res D} {σ : L2.St} {H : Hp} {Q : VK} (h : y9 K E (aE f ma mb) σ H Q) : tOp (YE K E f) (y9 K E ma) (y9 K E mb) σ H Q := by
 obtain ⟨I, F, G, ds, w, rel, rs, p⟩ := h
 refine ⟨I, F, G, ds, w, rel, rs, (bC.bind p).mono fun I1 F1 H1 x w1 _ e1 rel1 p1 v rv => ?_⟩
 refine ⟨I1, F1, G, ds, w1, rel1, rs.ext e1, (bC.bind p1).mono fun I2 F2 H2 y w2 _ e2 rel2 p2 u ru => ?_⟩
 exact ⟨I2, F2, G, x, y, w2, rel2, aG.ext e2 _ _ rv, ru, p2⟩
theorem aT {op : Operator} {f : D → D → W → Res D} (ho : O2 S (binaryOp op) f) (ha : JE S a ma) (hb : JE S b mb) : JE S (.BinOp a op b pos) (aE f ma mb) := fun X E c xo =>
 cC (pe_op (ho X E c xo) (ha X E c xo) (hb X E c xo)) fun _ _ _ h => B3 h
theorem pZ {op : CmpOp} {f : D → D → W → Res D} (ho : O2 S (compareOp op) f) (ha : JE S a ma) (hb : JE S b mb) (hm : behindInMarks op b = false := by first | exact nobehind _ (by decide) (by decide) | rfl) : JE S (.Compare a [op] [b] pos) (aE f ma mb) := fun X E c xo =>
 cC (pe_cmpR (ho X E c xo) (ha X E c xo) (hb X E c xo) hm) fun _ _ _ h => B3 h
theorem aHH {op : UnaryOp} {f : D → W → Res D} (ho : O1 S (unaryOp op) f) (ha : JE S a ma) : JE S (.UnaryOp op a pos) (AZ f ma) := fun X E c xo =>
 cC (pe_un (ho X E c xo) (ha X E c xo)) fun σ H Q h => by
  obtain ⟨I, F, G, ds, w, rel, rs, p⟩ := h
  refine ⟨I, F, G, ds, w, rel, rs, (bC.bind p).mono fun I1 F1 H1 x w1 _ e1 rel1 p1 v rv => ?_⟩
  exact ⟨I1, F1, G, x, w1, rel1, rv, p1⟩
def aKG (d : D) (w : W) : Res Bool := match d with
 | .bl b => .ok b w
 | _ => .bad
def aV (m : ME) : MT := fun σ w => (m σ w).bind aKG
theorem bY {op : CmpOp} {f : D → D → W → Res D} (ho : O2 S (compareOp op) f) (ha : JE S a ma) (hb : JE S b mb) (hm : behindInMarks op b = false := by first | exact nobehind _ (by decide) (by decide) | rfl) : JT S (.Compare a [op] [b] pos) (aV (aE f ma mb)) := fun X E c xo =>
 HI (pt_cmpR (ho X E c xo) (ha X E c xo) (hb X E c xo) hm) fun σ H Q h => by
  obtain ⟨I, F, G, ds, w, rel, rs, p⟩ := h
  show tOp _ _ _ σ H fun x H' => ∃ k, x = .bl k ∧ Q k H'
  refine B3 ⟨I, F, G, ds, w, rel, rs, (bC.bind p).mono fun I1 F1 H1 x w1 _ e1 rel1 p1 v rv => ?_⟩
  cases x <;> first | exact p1.elim | skip
  simp only [aG] at rv
  exact ⟨_, rv, p1 I1 F1 H1 .refl rel1⟩
end
mutual
def D.e8 (f : Nat → Option PyData) : D → Option PyData
 | .non => some .none
 | .bl b => some (.bool b)
 | .int i => some (.int i)
 | .str x => some (.str x)
 | .ty _ => none
 | .con _ => none
 | .tup xs => (D.pysR f xs).map .tuple
 | .lst xs => (D.pysR f xs).map .list
 | .qK xs => (D.pysR f xs).map .list
 | .vU xs => (D.pysR f xs).map .tuple
 | .EZ _ _ => none
 | .ref i => f i
def D.pysR (f : Nat → Option PyData) : List D → Option (List PyData)
 | [] => some []
 | d :: ds => match D.e8 f d, D.pysR f ds with
  | some p, some ps => some (p :: ps)
  | _, _ => none
end
def MW : Nat → W → Nat → Option PyData
 | 0, _, _ => none
 | n + 1, w, i => match w[i]? with
  | some (.lst xs) => (D.pysR (MW n w) xs).map .list
  | _ => none
def D.py (w : W) (d : D) : Option PyData := d.e8 (MW 8 w)
section
variable {K : PySem.W.Frag} {I : List Addr} {F G H : Hp} {w : W}
theorem Rel.sqL (rel : Rel K I F G w H) {a : Addr} {vs : List V} (h : SqL K F a vs) : SqL K H a vs := by
 rcases h with (h | ⟨o, h⟩) | h
 ·exact .inl (.inl (rel.fz _ _ h))
 ·exact .inl (.inr ⟨o, rel.fz _ _ h⟩)
 ·exact .inr h
theorem Rel.VB (rel : Rel K I F G w H) {a : Addr} {vs : List V} (h : SqT K F a vs) : SqT K H a vs := by
 rcases h with (h | ⟨o, h⟩) | h
 ·exact .inl (.inl (rel.fz _ _ h))
 ·exact .inl (.inr ⟨o, rel.fz _ _ h⟩)
 ·exact .inr h
mutual
theorem aEN (rel : Rel K I F G w H) {f : Nat → Option PyData} (hf : ∀ i a p, I[i]? = some a → f i = some p → Dp K H (.ref a) p) : ∀ (d : D) (v : V) (p : PyData), aG K I F d v → d.e8 f = some p → Dp K H v p
 | .non, v, p, h, e => by simp only [aG] at h; simp only [D.e8, aj] at e; subst h; subst e; exact .non
 | .bl b, v, p, h, e => by simp only [aG] at h; simp only [D.e8, aj] at e; subst h; subst e; exact .bl b
 | .int i, v, p, h, e => by simp only [aG] at h; simp only [D.e8, aj] at e; subst h; subst e; exact .int i
 | .str x, v, p, h, e => by simp only [aG] at h; simp only [D.e8, aj] at e; subst h; subst e; exact .str x
 | .ty _, v, p, h, e => by simp [D.e8] at e
 | .con _, v, p, h, e => by simp [D.e8] at e
 | .EZ _ _, v, p, h, e => by simp [D.e8] at e
 | .tup xs, v, p, h, e => by
  simp only [aG] at h
  obtain ⟨a, vs, rfl, h2, h3⟩ := h
  simp only [D.e8, aq] at e
  obtain ⟨ps, e1, rfl⟩ := e
  exact .tup (.of (rel.fz _ _ h2)) (dp_pysR rel hf xs vs ps h3 e1)
 | .vU xs, v, p, h, e => by
  simp only [aG] at h
  obtain ⟨a, vs, rfl, h2, h3⟩ := h
  simp only [D.e8, aq] at e
  obtain ⟨ps, e1, rfl⟩ := e
  exact .tup (rel.VB h2) (dp_pysR rel hf xs vs ps h3 e1)
 | .lst xs, v, p, h, e => by
  simp only [aG] at h
  obtain ⟨a, vs, rfl, h2, h3⟩ := h
  simp only [D.e8, aq] at e
  obtain ⟨ps, e1, rfl⟩ := e
  exact .lst (.of (rel.fz _ _ h2)) (dp_pysR rel hf xs vs ps h3 e1)
 | .qK xs, v, p, h, e => by
  simp only [aG] at h
  obtain ⟨a, vs, rfl, h2, h3⟩ := h
  simp only [D.e8, aq] at e
  obtain ⟨ps, e1, rfl⟩ := e
  exact .lst (rel.sqL h2) (dp_pysR rel hf xs vs ps h3 e1)
 | .ref i, v, p, h, e => by
  simp only [aG] at h
  obtain ⟨a, rfl, h2⟩ := h
  simp only [D.e8] at e
  exact hf i a p h2 e
theorem dp_pysR (rel : Rel K I F G w H) {f : Nat → Option PyData} (hf : ∀ i a p, I[i]? = some a → f i = some p → Dp K H (.ref a) p) : ∀ (ds : List D) (vs : List V) (ps : List PyData), RepL K I F ds vs → D.pysR f ds = some ps → DpAll K H vs ps
 | [], vs, ps, h, e => by simp only [RepL] at h; simp only [D.pysR, aj] at e; subst h; subst e; exact .nil
 | d :: ds, vs, ps, h, e => by
  simp only [RepL] at h
  obtain ⟨v, r, rfl, h2, h3⟩ := h
  simp only [D.pysR] at e
  split at e
  ·rename_i p ps' e1 e2
   cases e
   exact .cons (aEN rel hf d v p h2 e1) (dp_pysR rel hf ds r ps' h3 e2)
  ·cases e
end
theorem aHm (rel : Rel K I F G w H) : ∀ (n : Nat) (i : Nat) (a : Addr) (p : PyData), I[i]? = some a → MW n w i = some p → Dp K H (.ref a) p
 | 0, i, a, p, _, e => by simp [MW] at e
 | n + 1, i, a, p, h, e => by
  simp only [MW] at e
  split at e
  ·rename_i xs hw
   simp only [aq] at e
   obtain ⟨ps, e1, rfl⟩ := e
   obtain ⟨u, hu, ho⟩ := rel.ob i a _ h hw
   obtain ⟨vs, rfl, h3⟩ := ho
   exact .lst (.of hu) (dp_pysR rel (fun i a p => aHm rel n i a p) xs vs ps h3 e1)
  ·cases e
theorem E7 (rel : Rel K I F G w H) {d : D} {v : V} {p : PyData} (h : aG K I F d v) (e : d.py w = some p) : Dp K H v p :=
 aEN rel (fun i a p => aHm rel 8 i a p) d v p h e
end
def a9 (x y : D) (w : W) : Res D := match x, y with
 | .int a, .int b => .ok (.int (a + b)) w
 | .str a, .str b => if a.length + b.length ≤ sizeLine then .ok (.str (a ++ b)) w else .bad
 | .tup a, .tup b => if a.length + b.length ≤ sizeLine then .ok (.tup (a ++ b)) w else .bad
 | .lst a, .lst b => if a.length + b.length ≤ sizeLine then .ok (.lst (a ++ b)) w else .bad
 | _, _ => .bad
def nK (x y : D) (w : W) : Res D := match x, y with
 | .int a, .int b => .ok (.int (a - b)) w
 | _, _ => .bad
def LK (a b : Int) : Bool := (decide (-(2 ^ 64) < a) && decide (a < 2 ^ 64)) || (decide (-(2 ^ 64) < b) && decide (b < 2 ^ 64))
def mulM (x y : D) (w : W) : Res D := match x, y with
 | .int a, .int b => if LK a b then .ok (.int (a * b)) w else .bad
 | .lst a, .int k => if -(2 ^ 63) ≤ k ∧ k < 2 ^ 63 ∧ a.length * k.toNat ≤ sizeLine then .ok (.lst (List.replicate k.toNat a).flatten) w else .bad
 | _, _ => .bad
def zD (x y : D) (w : W) : Res D := match x, y with
 | .int a, .int b => if 0 < b ∧ b < 1073741824 then .ok (.int (a / b)) w else .bad
 | _, _ => .bad
def lH (x y : D) (w : W) : Res D := match x, y with
 | .int a, .int b => if 0 < b then .ok (.int (a % b)) w else .bad
 | _, _ => .bad
def IU (x y : D) (w : W) : Res D := match x, y with
 | .int a, .int b => if 0 ≤ b ∧ b ≤ 1000000 ∧ a.natAbs < 2 ^ 64 then .ok (.int (a ^ b.toNat)) w else .bad
 | _, _ => .bad
def DF (x : D) (w : W) : Res D := match x with
 | .int a => .ok (.int (-a)) w
 | _ => .bad
def y8 (x y : D) (w : W) : Option Bool := match x.py w, y.py w with
 | some p, some q => if SeqAt.shaped p = true ∧ SeqAt.shaped q = true then some (PyData.eqv p q) else none
 | _, _ => none
def aIl (x y : D) (w : W) : Res D := match y8 x y w with
 | some b => .ok (.bl b) w
 | none => .bad
def aH5 (x y : D) (w : W) : Res D := match y8 x y w with
 | some b => .ok (.bl (!b)) w
 | none => .bad
def aCY : D → D → Option Bool
 | .tup xs, .tup [] => some xs.isEmpty
 | .lst xs, .lst [] => some xs.isEmpty
 | _, _ => none
def DX (x y : D) (w : W) : Option Bool := match y8 x y w with
 | some b => some b
 | none => aCY x y
def eG (x y : D) (w : W) : Res D := match DX x y w with
 | some b => .ok (.bl b) w
 | none => .bad
def oX (x y : D) (w : W) : Res D := match DX x y w with
 | some b => .ok (.bl (!b)) w
 | none => .bad
def UE (x y : D) (w : W) : Res D := match x, y with
 | .int a, .int b => .ok (.bl (decide (a ≤ b))) w
 | _, _ => .bad
def gtM (x y : D) (w : W) : Res D := match x, y with
 | .int a, .int b => .ok (.bl (decide (b < a))) w
 | _, _ => .bad
def geM (x y : D) (w : W) : Res D := match x, y with
 | .int a, .int b => .ok (.bl (decide (b ≤ a))) w
 | _, _ => .bad
def D.isNon : D → Bool
 | .non => true
 | _ => false
def isM (x y : D) (w : W) : Res D := match x, y with
 | x, .non => .ok (.bl x.isNon) w
 | .bl a, .bl b => .ok (.bl (decide (a = b))) w
 | _, _ => .bad
def DP (x y : D) (w : W) : Res D := match x, y with
 | x, .non => .ok (.bl (!x.isNon)) w
 | .bl a, .bl b => .ok (.bl (!decide (a = b))) w
 | _, _ => .bad
def D.items (w : W) : D → Option (List D)
 | .tup xs => some xs
 | .lst xs => some xs
 | .qK xs => some xs
 | .vU xs => some xs
 | .ref i => match w[i]? with
  | some (.lst xs) => some xs
  | _ => none
 | _ => none
section
variable {S : aR}
theorem gU {o : Value → Value → Sem Value} {f : D → D → W → Res D}
  (h : ∀ (X : Cx) (E : XK), Ctx S X → vV X E → ∀ (I : List Addr) (F G : Hp) (d e : D) (w : W) (H : Hp) (x y : V) (Q : VK), Rel X.K I F G w H → aG X.K I F d x → aG X.K I F e y → bC X.K I F G E (RV X.K Q) (f d e w) →
   ∃ r : R2, OpR X o r ∧ r x y H Q) : O2 S o f := fun X E c xo pins s σ H x y v u Q I rx ry ⟨J, F, G, d, e, w, rel, rd, re, p⟩ => by
 obtain ⟨r, ho, hr⟩ := h X E c xo J F G d e w H x y Q rel rd re p
 exact ho pins s σ H x y v u Q I rx ry hr
theorem ET {o : Value → Value → Sem Value} {f : D → D → W → Res D} {C : Int → Int → Prop} {g : Int → Int → V} {gd : Int → Int → D} (ho : ∀ X : Cx, OpR X o (rI C g))
  (hg : ∀ K I F a b, aG K I F (gd a b) (g a b)) (hf : ∀ d e w r, f d e w = r → r = .bad ∨ ∃ a b, d = .int a ∧ e = .int b ∧ C a b ∧ r = .ok (gd a b) w) : O2 S o f :=
 gU fun X E c xo I F G d e w H x y Q rel rd re p => by
  rcases hf d e w _ rfl with h | ⟨a, b, rfl, rfl, hc, h⟩
  ·rw [h] at p; exact p.elim
  ·rw [h] at p
   simp only [aG] at rd re
   exact ⟨_, ho X, a, b, rd, re, hc, p I F H .refl rel _ (hg _ _ _ _ _)⟩
theorem aCM {o : Value → Value → Sem Value} {X : Cx} {g : Int → Int → V} (h : OpR X o (rI0 g)) : OpR X o (rI (fun _ _ => True) g) := fun pins s σ H x y v u Q I rx ry ⟨i, j, e1, e2, _, q⟩ => h pins s σ H x y v u Q I rx ry ⟨i, j, e1, e2, q⟩
theorem aCG : O2 S (binaryOp .Sub) nK := ET (gd := fun a b => .int (a - b)) (fun _ => aCM op_sub) (fun _ _ _ _ _ => by simp [aG]) fun d e w r h => by
 subst h; cases d <;> cases e <;> simp [nK]
theorem OL : O2 S (compareOp .LtE) UE := ET (gd := fun a b => .bl (decide (a ≤ b))) (fun _ => aCM op_le) (fun _ _ _ _ _ => by simp [aG]) fun d e w r h => by
 subst h; cases d <;> cases e <;> simp [UE]
theorem aKJ : O2 S (compareOp .GtE) geM := ET (gd := fun a b => .bl (decide (b ≤ a))) (fun _ => aCM op_ge) (fun _ _ _ _ _ => by simp [aG]) fun d e w r h => by
 subst h; cases d <;> cases e <;> simp [geM]
theorem aAz : O2 S (binaryOp .FloorDiv) zD := ET (gd := fun a b => .int (a / b)) (fun _ => op_fdiv) (fun _ _ _ _ _ => by simp [aG]) fun d e w r h => by
 subst h; cases d <;> cases e <;> simp only [zD, true_or, reduceCtorEq, false_and, and_false, exists_const, df]
 rename_i a b
 by_cases hc : 0 < b ∧ b < 1073741824
 ·rw [if_pos hc]; exact .inr ⟨a, b, rfl, rfl, hc, rfl⟩
 ·rw [if_neg hc]; exact .inl rfl
theorem AN : O2 S (binaryOp .Mod) lH := ET (gd := fun a b => .int (a % b)) (fun _ => op_mod) (fun _ _ _ _ _ => by simp [aG]) fun d e w r h => by
 subst h; cases d <;> cases e <;> simp only [lH, true_or, reduceCtorEq, false_and, and_false, exists_const, df]
 rename_i a b
 by_cases hc : 0 < b
 ·rw [if_pos hc]; exact .inr ⟨a, b, rfl, rfl, hc, rfl⟩
 ·rw [if_neg hc]; exact .inl rfl
theorem aEa : O2 S (binaryOp .Pow) IU := ET (gd := fun a b => .int (a ^ b.toNat)) (fun _ => op_pow) (fun _ _ _ _ _ => by simp [aG]) fun d e w r h => by
 subst h; cases d <;> cases e <;> simp only [IU, true_or, reduceCtorEq, false_and, and_false, exists_const, df]
 rename_i a b
 by_cases hc : 0 ≤ b ∧ b ≤ 1000000 ∧ a.natAbs < 2 ^ 64
 ·rw [if_pos hc]; exact .inr ⟨a, b, rfl, rfl, hc, rfl⟩
 ·rw [if_neg hc]; exact .inl rfl
theorem iY {K : PySem.W.Frag} {I : List Addr} {F G H : Hp} {E : XK} {w : W} {ds : List D} {vs : List V} {Q : VK} (rel : Rel K I F G w H) (r : RepL K I F ds vs) (p : bC K I F G E (RV K Q) (.ok (.lst ds) w)) : ∀ q, H q = none → Q (.ref q) (upd H q (.lst vs)) := fun q hq => by
 have hF : F q = none := by
  cases h : F q with
  | none => rfl
  | some u => rw [rel.fz _ _ h] at hq; cases hq
 have e : Ext I F I (upd F q (.lst vs)) := ⟨List.prefix_refl _, fun a u h => by rw [upd_ne (ne_of_none h hF)]; exact h⟩
 refine p I (upd F q (.lst vs)) (upd H q (.lst vs)) e ⟨rel.len, rel.nd, fun i a o h1 h2 => ?_, fun a u h => ?_, fun i a o h h0 hf => ?_, fun a u h => ?_, fun a u h => ?_, rel.gt⟩ _ ?_
 ·obtain ⟨u, h3, h4⟩ := rel.ob i a o h1 h2
  exact ⟨u, by rw [upd_ne (ne_of_none h3 hq)]; exact h3, qL.ext e h4⟩
 ·by_cases ha : a = q
  ·subst ha; rw [upd_same] at h ⊢; exact h
  ·rw [upd_ne ha] at h ⊢; exact rel.fz a u h
 ·obtain ⟨u, h3, _⟩ := rel.ob i a o h h0
  rw [upd_ne (ne_of_none h3 hq)]; exact rel.ap i a o h h0 hf
 ·rw [upd_ne (ne_of_none (rel.gz a u h) hq)]; exact rel.gz a u h
 ·rw [upd_ne (ne_of_none (rel.gz a u h) hq)]; exact rel.gf a u h
 ·simp only [aG]
  exact ⟨q, vs, rfl, upd_same, RepL.ext e _ _ r⟩
theorem yG {K : PySem.W.Frag} {I : List Addr} {F G H : Hp} {E : XK} {w : W} {ds : List D} {vs : List V} {Q : VK} (rel : Rel K I F G w H) (r : RepL K I F ds vs) (p : bC K I F G E (RV K Q) (.ok (.tup ds) w)) : ∀ q, H q = none → Q (.ref q) (upd H q (.tup vs)) := fun q hq => by
 have hF : F q = none := by
  cases h : F q with
  | none => rfl
  | some u => rw [rel.fz _ _ h] at hq; cases hq
 have e : Ext I F I (upd F q (.tup vs)) := ⟨List.prefix_refl _, fun a u h => by rw [upd_ne (ne_of_none h hF)]; exact h⟩
 refine p I (upd F q (.tup vs)) (upd H q (.tup vs)) e ⟨rel.len, rel.nd, fun i a o h1 h2 => ?_, fun a u h => ?_, fun i a o h h0 hf => ?_, fun a u h => ?_, fun a u h => ?_, rel.gt⟩ _ ?_
 ·obtain ⟨u, h3, h4⟩ := rel.ob i a o h1 h2
  exact ⟨u, by rw [upd_ne (ne_of_none h3 hq)]; exact h3, qL.ext e h4⟩
 ·by_cases ha : a = q
  ·subst ha; rw [upd_same] at h ⊢; exact h
  ·rw [upd_ne ha] at h ⊢; exact rel.fz a u h
 ·obtain ⟨u, h3, _⟩ := rel.ob i a o h h0
  rw [upd_ne (ne_of_none h3 hq)]; exact rel.ap i a o h h0 hf
 ·rw [upd_ne (ne_of_none (rel.gz a u h) hq)]; exact rel.gz a u h
 ·rw [upd_ne (ne_of_none (rel.gz a u h) hq)]; exact rel.gf a u h
 ·simp only [aG]
  exact ⟨q, vs, rfl, upd_same, RepL.ext e _ _ r⟩
theorem RepL.eq_nil {K : PySem.W.Frag} {I : List Addr} {F : Hp} {ds : List D} (r : RepL K I F ds []) : ds = [] := by
 have := r.length
 exact List.eq_nil_of_length_eq_zero (by simpa using this)
theorem bG : O2 S (binaryOp .Add) a9 := gU fun X E c xo I F G d e w H x y Q rel rd re p => by
 cases d <;> cases e <;> first | exact p.elim | skip
 ·simp only [aG] at rd re
  exact ⟨_, op_add, _, _, rd, re, p I F H .refl rel _ (by simp [aG])⟩
 ·rename_i a b
  simp only [aG] at rd re
  simp only [a9] at p
  split at p
  ·rename_i hl
   exact ⟨_, op_add_str, _, _, rd, re, hl, p I F H .refl rel _ (by simp [aG])⟩
  ·exact p.elim
 ·rename_i a b
  simp only [aG] at rd re
  obtain ⟨q, vs, rfl, h1, h2⟩ := rd
  obtain ⟨q', vs', rfl, h1', h2'⟩ := re
  simp only [a9] at p
  split at p
  ·rename_i hl
   refine ⟨_, op_catA, q, q', vs, vs', rfl, rfl, .of (rel.fz _ _ h1), .of (rel.fz _ _ h1'), by rw [← h2.length, ← h2'.length]; exact hl, fun hn => ?_, fun _ hn => ?_, fun _ _ => ?_⟩
   ·subst hn
    obtain rfl := h2.eq_nil
    exact p I F H .refl rel _ (by simp only [aG, bz]; exact ⟨_, _, rfl, h1', h2'⟩)
   ·subst hn
    obtain rfl := h2'.eq_nil
    exact p I F H .refl rel _ (by simp only [aG, du]; exact ⟨_, _, rfl, h1, h2⟩)
   ·exact yG rel (h2.append h2') p
  ·exact p.elim
 ·rename_i a b
  simp only [aG] at rd re
  obtain ⟨q, vs, rfl, h1, h2⟩ := rd
  obtain ⟨q', vs', rfl, h1', h2'⟩ := re
  simp only [a9] at p
  split at p
  ·rename_i hl
   exact ⟨_, op_cat, q, q', vs, vs', rfl, rfl, rel.fz _ _ h1, rel.fz _ _ h1', by rw [← h2.length, ← h2'.length]; exact hl, iY rel (h2.append h2') p⟩
  ·exact p.elim
theorem RepL.rep {K : PySem.W.Frag} {I : List Addr} {F : Hp} {ds : List D} {vs : List V} (r : RepL K I F ds vs) : ∀ n : Nat, RepL K I F (List.replicate n ds).flatten (List.replicate n vs).flatten
 | 0 => by simp [RepL]
 | n + 1 => by
  rw [List.replicate_succ, List.replicate_succ, List.flatten_cons, List.flatten_cons]
  exact r.append (r.rep n)
theorem AI : O2 S (binaryOp .Mult) mulM := gU fun X E c xo I F G d e w H x y Q rel rd re p => by
 cases d <;> cases e <;> first | exact p.elim | skip
 ·rename_i a b
  simp only [aG] at rd re
  simp only [mulM] at p
  split at p
  ·rename_i hl
   refine ⟨_, op_mul, _, _, rd, re, ?_, p I F H .refl rel _ (by simp [aG])⟩
   simpa [LK, CMul] using hl
  ·exact p.elim
 ·rename_i a b
  simp only [aG] at rd re
  obtain ⟨q, vs, rfl, h1, h2⟩ := rd
  simp only [mulM] at p
  split at p
  ·rename_i hl
   exact ⟨_, op_rep, q, b, vs, rfl, re, rel.fz _ _ h1, hl.1, hl.2.1, by rw [← h2.length]; exact hl.2.2, iY rel (h2.rep _) p⟩
  ·exact p.elim
theorem aJW : O2 S (compareOp .Eq) aIl := gU fun X E c xo I F G d e w H x y Q rel rd re p => by
 unfold aIl y8 at p
 split at p
 ·rename_i b hb
  split at hb
  ·rename_i p1 q1 e1 e2
   split at hb
   ·rename_i hs
    cases hb
    exact ⟨_, op_eqD c.room.units, p1, q1, E7 rel rd e1, E7 rel re e2, hs.1, hs.2, p I F H .refl rel _ (by simp [aG])⟩
   ·cases hb
  ·cases hb
 ·exact p.elim
theorem aJO : O2 S (compareOp .NotEq) aH5 := gU fun X E c xo I F G d e w H x y Q rel rd re p => by
 unfold aH5 y8 at p
 split at p
 ·rename_i b hb
  split at hb
  ·rename_i p1 q1 e1 e2
   split at hb
   ·rename_i hs
    cases hb
    exact ⟨_, op_neD c.room.units, p1, q1, E7 rel rd e1, E7 rel re e2, hs.1, hs.2, p I F H .refl rel _ (by simp [aG])⟩
   ·cases hb
  ·cases hb
 ·exact p.elim
theorem O0 {K : PySem.W.Frag} {I : List Addr} {F : Hp} {d : D} {v : V} (h : aG K I F d v) : decide (v = .non) = d.isNon := by
 cases d <;> simp only [aG] at h
 case non => subst h; rfl
 case bl => subst h; rfl
 case int => subst h; rfl
 case str => subst h; rfl
 case ty => subst h; rfl
 case con => subst h; rfl
 case tup => obtain ⟨a, vs, rfl, _⟩ := h; rfl
 case lst => obtain ⟨a, vs, rfl, _⟩ := h; rfl
 case qK => obtain ⟨a, vs, rfl, _⟩ := h; rfl
 case vU => obtain ⟨a, vs, rfl, _⟩ := h; rfl
 case EZ => obtain ⟨a, vs, rfl, _⟩ := h; rfl
 case ref => obtain ⟨a, rfl, _⟩ := h; rfl
theorem aGS {x : D} {w : W} : isM x .non w = .ok (.bl x.isNon) w := by cases x <;> rfl
theorem Y2 {x : D} {w : W} : DP x .non w = .ok (.bl (!x.isNon)) w := by cases x <;> rfl
theorem LR {n : Nat} {xs : List D} (h : n = xs.length) : ((List.range (min n 0)).all (fun _ => true) && n == 0) = xs.isEmpty := by
 subst h
 cases xs <;> simp
theorem G9 {X : Cx} {pins : List (Addr × Obj)} {σ : L2.St} {H : Hp} {s : Shared} (J : Inv X pins σ H s) {a : Addr} {vs : List V} (h : H a = some (.tup vs)) : ∃ its : Array Value, s.heap.IsTuple a its ∧ its.size = vs.length := by
 obtain ⟨its, rv, ht, _⟩ := J.tuple (show SqT X.K H a vs from .of h)
 refine ⟨its.toArray, ht, ?_⟩
 rw [List.size_toArray]
 exact (Vals.length rv).symm
theorem HR {X : Cx} {pins : List (Addr × Obj)} {σ : L2.St} {H : Hp} {s : Shared} (J : Inv X pins σ H s) {a : Addr} {vs : List V} (h : H a = some (.lst vs)) : ∃ its : Array Value, s.heap.IsList a its ∧ its.size = vs.length := by
 obtain ⟨its, rv, ⟨o, n, ho, hc, _, hd⟩, _⟩ := J.list (show SqL X.K H a vs from .of h)
 refine ⟨its.toArray, ⟨o, ho, hc, n, hd⟩, ?_⟩
 rw [List.size_toArray]
 exact (Vals.length rv).symm
theorem gT : O2 S (compareOp .Eq) eG := fun X E c xo pins s σ H x y v u Q J rx ry ⟨I, F, G, d, e, w, rel, rd, re, p⟩ => by
 unfold eG DX at p
 cases h0 : y8 d e w with
 | some b =>
  rw [h0] at p
  exact aJW X E c xo pins s σ H x y v u Q J rx ry ⟨I, F, G, d, e, w, rel, rd, re, by unfold aIl; rw [h0]; exact p⟩
 | none =>
  rw [h0] at p
  simp only at p
  have hu : X.A.units < cLine := by have := c.room.units; omega
  unfold aCY at p
  split at p
  ·rename_i b hb
   split at hb
   ·rename_i xs
    cases hb
    simp only [aG, RepL] at rd re
    obtain ⟨a, vs, rfl, h2, h3⟩ := rd
    obtain ⟨b, us, rfl, h4, rfl⟩ := re
    obtain rfl : v = Value.ref a := rx
    obtain rfl : u = Value.ref b := ry
    obtain ⟨i1, t1, l1⟩ := G9 J (rel.fz _ _ h2)
    obtain ⟨i2, t2, l2⟩ := G9 J (rel.fz _ _ h4)
    have z : i2.size = 0 := l2
    refine SeqAt.eq_tupleAt (e := fun _ => true) t1 t2 hu (fun j h1 h2 => absurd h2 (by omega)) ?_
    rw [z, LR (l1.trans h3.length.symm)]
    exact ⟨.bl xs.isEmpty, H, J, rfl, p I F H .refl rel _ (by simp [aG])⟩
   ·rename_i xs
    cases hb
    simp only [aG, RepL] at rd re
    obtain ⟨a, vs, rfl, h2, h3⟩ := rd
    obtain ⟨b, us, rfl, h4, rfl⟩ := re
    obtain rfl : v = Value.ref a := rx
    obtain rfl : u = Value.ref b := ry
    obtain ⟨i1, t1, l1⟩ := HR J (rel.fz _ _ h2)
    obtain ⟨i2, t2, l2⟩ := HR J (rel.fz _ _ h4)
    have z : i2.size = 0 := l2
    have lx : i1.size = xs.length := l1.trans h3.length.symm
    cases xs with
    | nil =>
     refine SeqAt.eq_listAt (e := fun _ => true) t1 t2 (lx.trans z.symm) hu (fun j h1 h2 => absurd h2 (by omega)) ?_
     have : (List.range i1.size).all (fun _ => true) = true := by simp
     rw [this]
     exact ⟨.bl true, H, J, rfl, p I F H .refl rel _ (by simp [aG])⟩
    | cons x xs =>
     refine SeqAt.eq_list_lengthsAt t1 t2 (by rw [lx, z]; rfl) hu ?_
     exact ⟨.bl false, H, J, rfl, p I F H .refl rel _ (by simp [aG])⟩
   ·cases hb
  ·exact p.elim
theorem vC : O2 S (compareOp .NotEq) oX := fun X E c xo pins s σ H x y v u Q J rx ry ⟨I, F, G, d, e, w, rel, rd, re, p⟩ => by
 unfold oX DX at p
 cases h0 : y8 d e w with
 | some b =>
  rw [h0] at p
  exact aJO X E c xo pins s σ H x y v u Q J rx ry ⟨I, F, G, d, e, w, rel, rd, re, by unfold aH5; rw [h0]; exact p⟩
 | none =>
  rw [h0] at p
  simp only at p
  have hu : X.A.units < cLine := by have := c.room.units; omega
  unfold aCY at p
  split at p
  ·rename_i b hb
   split at hb
   ·rename_i xs
    cases hb
    simp only [aG, RepL] at rd re
    obtain ⟨a, vs, rfl, h2, h3⟩ := rd
    obtain ⟨b, us, rfl, h4, rfl⟩ := re
    obtain rfl : v = Value.ref a := rx
    obtain rfl : u = Value.ref b := ry
    obtain ⟨i1, t1, l1⟩ := G9 J (rel.fz _ _ h2)
    obtain ⟨i2, t2, l2⟩ := G9 J (rel.fz _ _ h4)
    have z : i2.size = 0 := l2
    refine SeqAt.RcNeAt.tuples (e := fun _ => true) t1 t2 hu (fun j h1 h2 => absurd h2 (by omega)) _ _ _ _ ?_
    rw [z, LR (l1.trans h3.length.symm)]
    exact ⟨.bl (!xs.isEmpty), H, J, rfl, p I F H .refl rel _ (by simp [aG])⟩
   ·rename_i xs
    cases hb
    simp only [aG, RepL] at rd re
    obtain ⟨a, vs, rfl, h2, h3⟩ := rd
    obtain ⟨b, us, rfl, h4, rfl⟩ := re
    obtain rfl : v = Value.ref a := rx
    obtain rfl : u = Value.ref b := ry
    obtain ⟨i1, t1, l1⟩ := HR J (rel.fz _ _ h2)
    obtain ⟨i2, t2, l2⟩ := HR J (rel.fz _ _ h4)
    have z : i2.size = 0 := l2
    have lx : i1.size = xs.length := l1.trans h3.length.symm
    cases xs with
    | nil =>
     refine SeqAt.RcNeAt.lists (e := fun _ => true) t1 t2 (lx.trans z.symm) hu (fun j h1 h2 => absurd h2 (by omega)) _ _ _ _ ?_
     have : (List.range i1.size).all (fun _ => true) = true := by simp
     rw [this]
     exact ⟨.bl false, H, J, rfl, p I F H .refl rel _ (by simp [aG])⟩
    | cons x xs =>
     refine SeqAt.RcNeAt.lists_lengths t1 t2 (by rw [lx, z]; rfl) hu _ _ _ _ ?_
     exact ⟨.bl true, H, J, rfl, p I F H .refl rel _ (by simp [aG])⟩
   ·cases hb
  ·exact p.elim
theorem aHx : O2 S (compareOp .Is) isM := gU fun X E c xo I F G d e w H x y Q rel rd re p => by
 cases e
 case non =>
  simp only [aGS] at p
  simp only [aG] at re
  exact ⟨_, op_isN, re, p I F H .refl rel _ (by simp [aG, O0 rd])⟩
 case bl b =>
  cases d <;> first | exact p.elim | skip
  simp only [aG] at rd re
  exact ⟨_, op_isBl, _, _, rd, re, p I F H .refl rel _ (by simp [aG])⟩
 all_goals (cases d <;> exact p.elim)
theorem aD8 : O2 S (compareOp .IsNot) DP := gU fun X E c xo I F G d e w H x y Q rel rd re p => by
 cases e
 case non =>
  simp only [Y2] at p
  simp only [aG] at re
  exact ⟨_, op_notN, re, p I F H .refl rel _ (by simp [aG, O0 rd])⟩
 case bl b =>
  cases d <;> first | exact p.elim | skip
  simp only [aG] at rd re
  exact ⟨_, op_notBl, _, _, rd, re, p I F H .refl rel _ (by simp [aG])⟩
 all_goals (cases d <;> exact p.elim)
theorem aDi : O1 S (unaryOp .USub) DF := fun X E c xo pins s σ H x v Q I rx ⟨J, F, G, d, w, rel, rd, p⟩ => by
 cases d <;> first | exact p.elim | skip
 simp only [aG] at rd
 exact un_neg pins s σ H x v Q I rx ⟨_, rd, p J F H .refl rel _ (by simp [aG])⟩
end
def pB (d : D) (w : W) : Option Bool := match d with
 | .non => some false
 | .bl b => some b
 | .int i => some (i != 0)
 | .str x => if x.length ≤ sizeLine then some ((x.length : Int) != 0) else none
 | .tup xs => some (!xs.isEmpty)
 | .lst xs => some (!xs.isEmpty)
 | .qK xs => some (!xs.isEmpty)
 | .vU xs => some (!xs.isEmpty)
 | .ref i => (match w[i]? with
  | some (.lst xs) => some (!xs.isEmpty)
  | some (.dK kvs) => some (!kvs.isEmpty)
  | _ => none)
 | _ => none
theorem RepL.isEmpty {K : PySem.W.Frag} {I : List Addr} {F : Hp} {ds : List D} {vs : List V} (r : RepL K I F ds vs) : vs.isEmpty = ds.isEmpty := by
 cases ds with
 | nil => simp only [RepL] at r; subst r; rfl
 | cons d ds => simp only [RepL] at r; obtain ⟨v, t, rfl, _⟩ := r; rfl
theorem aS.isEmpty {κ : Type} {K : PySem.W.Frag} {I : List Addr} {F : Hp} {ds : List (κ × D)} {vs : List (κ × V)} (r : aS K I F ds vs) : vs.isEmpty = ds.isEmpty := by
 cases ds with
 | nil => simp only [aS] at r; subst r; rfl
 | cons d ds => obtain ⟨k, d⟩ := d; simp only [aS] at r; obtain ⟨v, t, rfl, _⟩ := r; rfl
theorem aFT {K : PySem.W.Frag} {I : List Addr} {F G H : Hp} {w : W} (rel : Rel K I F G w H) {d : D} {v : V} (h : aG K I F d v) {b : Bool} (e : pB d w = some b) : TruV K v H b := by
 cases d <;> simp only [aG] at h
 case non => subst h; simp only [pB, aj] at e; exact e.symm
 case bl => subst h; simp only [pB, aj] at e; exact e.symm
 case int => subst h; simp only [pB, aj] at e; exact e.symm
 case str x =>
  subst h
  simp only [pB] at e
  split at e
  ·rename_i hl
   cases e; exact ⟨hl, rfl⟩
  ·cases e
 case ty => cases e
 case con => cases e
 case EZ => cases e
 case tup xs =>
  obtain ⟨a, vs, rfl, h1, h2⟩ := h
  simp only [pB, aj] at e
  exact .inr (.inl ⟨vs, .of (rel.fz _ _ h1), by rw [h2.isEmpty]; exact e.symm⟩)
 case vU xs =>
  obtain ⟨a, vs, rfl, h1, h2⟩ := h
  simp only [pB, aj] at e
  exact .inr (.inl ⟨vs, rel.VB h1, by rw [h2.isEmpty]; exact e.symm⟩)
 case lst xs =>
  obtain ⟨a, vs, rfl, h1, h2⟩ := h
  simp only [pB, aj] at e
  exact .inl ⟨vs, .of (rel.fz _ _ h1), by rw [h2.isEmpty]; exact e.symm⟩
 case qK xs =>
  obtain ⟨a, vs, rfl, h1, h2⟩ := h
  simp only [pB, aj] at e
  exact .inl ⟨vs, rel.sqL h1, by rw [h2.isEmpty]; exact e.symm⟩
 case ref i =>
  obtain ⟨a, rfl, h1⟩ := h
  simp only [pB] at e
  split at e
  ·rename_i xs hw
   cases e
   obtain ⟨u, hu, vs, rfl, h2⟩ := rel.ob i a _ h1 hw
   exact .inl ⟨vs, .of hu, by rw [h2.isEmpty]⟩
  ·rename_i kvs hw
   cases e
   obtain ⟨u, hu, vs, rfl, h2⟩ := rel.ob i a _ h1 hw
   exact .inr (.inr ⟨vs, hu, by rw [h2.isEmpty]⟩)
  ·cases e
def gE (d : D) (w : W) : Res Bool := match pB d w with
 | some b => .ok b w
 | none => .bad
def dS (m : ME) : MT := fun σ w => (m σ w).bind gE
def fU (a b : MT) : MT := fun σ w => (a σ w).bind fun c w1 => if c = true then b σ w1 else .ok false w1
def iB (a b : MT) : MT := fun σ w => (a σ w).bind fun c w1 => if c = true then .ok true w1 else b σ w1
def cS (a : MT) : MT := fun σ w => (a σ w).bind fun c w1 => .ok (!c) w1
def iZ (a b : ME) : ME := fun σ w => (a σ w).bind fun x w1 => (gE x w1).bind fun c _ => if c = true then b σ w1 else .ok x w1
def eOr (a b : ME) : ME := fun σ w => (a σ w).bind fun x w1 => (gE x w1).bind fun c _ => if c = true then .ok x w1 else b σ w1
def notM (x : D) (w : W) : Res D := (gE x w).bind fun c _ => .ok (.bl (!c)) w
def sQ (t : MT) (a b : ME) : ME := fun σ w => (t σ w).bind fun c w1 => if c = true then a σ w1 else b σ w1
section
variable {S : aR} {pos : Pos} {a b c : Expr} {ma mb : ME} {ta tb : MT} {rest : List Expr}
theorem cF {α : Type} {K : PySem.W.Frag} {E : XK} {m : ME} {f : Sg → D → W → Res α} {I : List Addr} {F G H : Hp} {ds : Sg} {w : W} {σ : L2.St} {R : List Addr → Hp → Hp → α → W → Prop} (rel : Rel K I F G w H) (rs : dU K I F ds σ)
  (p : bC K I F G E R ((m ds w).bind (f ds))) {Q : VK} (k : ∀ I1 F1 H1 x w1 v, Ext I F I1 F1 → Rel K I1 F1 G w1 H1 → dU K I1 F1 ds σ → aG K I1 F1 x v → bC K I1 F1 G E R (f ds x w1) → Q v H1) : y9 K E m σ H Q :=
 ⟨I, F, G, ds, w, rel, rs, (bC.bind p).mono fun I1 F1 H1 x w1 _ e1 rel1 p1 v rv => k I1 F1 H1 x w1 v e1 rel1 (rs.ext e1) rv p1⟩
theorem tF {α : Type} {K : PySem.W.Frag} {E : XK} {m : MT} {f : Sg → Bool → W → Res α} {I : List Addr} {F G H : Hp} {ds : Sg} {w : W} {σ : L2.St} {R : List Addr → Hp → Hp → α → W → Prop} (rel : Rel K I F G w H) (rs : dU K I F ds σ)
  (p : bC K I F G E R ((m ds w).bind (f ds))) {Q : Bool → Hp → Prop} (k : ∀ I1 F1 H1 c w1, Ext I F I1 F1 → Rel K I1 F1 G w1 H1 → dU K I1 F1 ds σ → bC K I1 F1 G E R (f ds c w1) → Q c H1) : aCw K E m σ H Q :=
 ⟨I, F, G, ds, w, rel, rs, (bC.bind p).mono fun I1 F1 H1 x w1 _ e1 rel1 p1 => k I1 F1 H1 x w1 e1 rel1 (rs.ext e1) p1⟩
theorem gO {α : Type} {K : PySem.W.Frag} {E : XK} {m : MA} {f : Sg → List D → W → Res α} {I : List Addr} {F G H : Hp} {ds : Sg} {w : W} {σ : L2.St} {R : List Addr → Hp → Hp → α → W → Prop} (rel : Rel K I F G w H) (rs : dU K I F ds σ)
  (p : bC K I F G E R ((m ds w).bind (f ds))) {Q : List V → Hp → Prop} (k : ∀ I1 F1 H1 xs w1 vs, Ext I F I1 F1 → Rel K I1 F1 G w1 H1 → dU K I1 F1 ds σ → RepL K I1 F1 xs vs → bC K I1 F1 G E R (f ds xs w1) → Q vs H1) : aI6 K E m σ H Q :=
 ⟨I, F, G, ds, w, rel, rs, (bC.bind p).mono fun I1 F1 H1 x w1 _ e1 rel1 p1 v rv => k I1 F1 H1 x w1 v e1 rel1 (rs.ext e1) rv p1⟩
theorem bC.nM {K : PySem.W.Frag} {I : List Addr} {F G H : Hp} {E : XK} {Q : VK} {d : D} {w : W} (p : bC K I F G E (RV K Q) (.ok d w)) (rel : Rel K I F G w H) {v : V} (h : aG K I F d v) : Q v H := p I F H .refl rel v h
theorem bC.okB {K : PySem.W.Frag} {I : List Addr} {F G H : Hp} {E : XK} {Q : Bool → Hp → Prop} {b : Bool} {w : W} (p : bC K I F G E (RB Q) (.ok b w)) (rel : Rel K I F G w H) : Q b H := p I F H .refl rel
theorem bC.truth {α : Type} {K : PySem.W.Frag} {I : List Addr} {F G H : Hp} {E : XK} {R : List Addr → Hp → Hp → α → W → Prop} {d : D} {w : W} {v : V} {f : Bool → W → Res α} (p : bC K I F G E R ((gE d w).bind f)) (rel : Rel K I F G w H) (h : aG K I F d v) :
  ∃ b, TruV K v H b ∧ bC K I F G E R (f b w) := by
 unfold gE at p
 split at p
 ·rename_i b e
  exact ⟨b, aFT rel h e, p⟩
 ·exact p.elim
theorem eV (ha : JE S a ma) (he : ∀ (env : Env) (whole : Sem Value), isTrue a env whole = (do let v ← whole; standAt a.pos; holding [v] (truthy v)) := by intro _ _; rfl) : JT S a (dS ma) := fun X E cx xo =>
 HI (pt_truth (ha X E cx xo) (he X.env)) fun σ H Q ⟨I, F, G, ds, w, rel, rs, p⟩ => cF (f := fun _ => gE) rel rs p fun I1 F1 H1 x w1 v e1 rel1 rs1 rv p1 => by
  have p2 : bC X.K I1 F1 G E (RB Q) ((gE x w1).bind fun b w => .ok b w) := by
   cases h : gE x w1 <;> rw [h] at p1 <;> exact p1
  obtain ⟨b, hb, p3⟩ := p2.truth rel1 rv
  exact ⟨b, hb, p3.okB rel1⟩
theorem GR (h : JW S a ta) : JT S a ta := fun X E cx xo => (h X E cx xo).pt
theorem A4 (ha : JT S a ta) : JW S (.BoolOp .And [a] pos) ta := fun X E cx xo => pw_and1 (ha X E cx xo)
theorem zW (ha : JT S a ta) : JW S (.BoolOp .Or [a] pos) ta := fun X E cx xo => pw_or1 (ha X E cx xo)
theorem EC (ha : JT S a ta) (hb : JW S (.BoolOp .And (b :: rest) pos) tb) : JW S (.BoolOp .And (a :: b :: rest) pos) (fU ta tb) := fun X E cx xo =>
 aAt (pw_and (ha X E cx xo) (hb X E cx xo)) fun σ H Q ⟨I, F, G, ds, w, rel, rs, p⟩ => tF (f := fun ds c w1 => if c = true then tb ds w1 else .ok false w1) rel rs p fun I1 F1 H1 c w1 e1 rel1 rs1 p1 => by
  cases c with
  | true => exact ⟨I1, F1, G, ds, w1, rel1, rs1, p1⟩
  | false => exact p1.okB rel1
theorem zB (ha : JT S a ta) (hb : JW S (.BoolOp .Or (b :: rest) pos) tb) : JW S (.BoolOp .Or (a :: b :: rest) pos) (iB ta tb) := fun X E cx xo =>
 aAt (pw_or (ha X E cx xo) (hb X E cx xo)) fun σ H Q ⟨I, F, G, ds, w, rel, rs, p⟩ => tF (f := fun ds c w1 => if c = true then .ok true w1 else tb ds w1) rel rs p fun I1 F1 H1 c w1 e1 rel1 rs1 p1 => by
  cases c with
  | true => exact p1.okB rel1
  | false => exact ⟨I1, F1, G, ds, w1, rel1, rs1, p1⟩
theorem kW (ha : JT S a ta) : JT S (.UnaryOp .Not a pos) (cS ta) := fun X E cx xo =>
 HI (pt_not (ha X E cx xo)) fun σ H Q ⟨I, F, G, ds, w, rel, rs, p⟩ => tF (f := fun _ c w1 => .ok (!c) w1) rel rs p fun I1 F1 H1 c w1 e1 rel1 rs1 p1 => p1.okB rel1
theorem xY {op : BoolOp} (h : JE S a ma) : JE S (.BoolOp op [a] pos) ma := fun X E cx xo => pe_one (h X E cx xo)
theorem rR (ha : JE S a ma) (hb : JE S (.BoolOp .And (b :: rest) pos) mb) : JE S (.BoolOp .And (a :: b :: rest) pos) (iZ ma mb) := fun X E cx xo =>
 cC (pe_andT (ha X E cx xo) (hb X E cx xo)) fun σ H Q ⟨I, F, G, ds, w, rel, rs, p⟩ => cF (f := fun ds x w1 => (gE x w1).bind fun c _ => if c = true then mb ds w1 else .ok x w1) rel rs p fun I1 F1 H1 x w1 v e1 rel1 rs1 rv p1 => by
  obtain ⟨k, hk, p2⟩ := p1.truth rel1 rv
  refine ⟨k, hk, ?_⟩
  cases k with
  | true => exact ⟨I1, F1, G, ds, w1, rel1, rs1, p2⟩
  | false => exact p2.nM rel1 rv
theorem aKt (ha : JE S a ma) (hb : JE S (.BoolOp .Or (b :: rest) pos) mb) : JE S (.BoolOp .Or (a :: b :: rest) pos) (eOr ma mb) := fun X E cx xo =>
 cC (pe_orT (ha X E cx xo) (hb X E cx xo)) fun σ H Q ⟨I, F, G, ds, w, rel, rs, p⟩ => cF (f := fun ds x w1 => (gE x w1).bind fun c _ => if c = true then .ok x w1 else mb ds w1) rel rs p fun I1 F1 H1 x w1 v e1 rel1 rs1 rv p1 => by
  obtain ⟨k, hk, p2⟩ := p1.truth rel1 rv
  refine ⟨k, hk, ?_⟩
  cases k with
  | true => exact p2.nM rel1 rv
  | false => exact ⟨I1, F1, G, ds, w1, rel1, rs1, p2⟩
theorem aH2 (ha : JE S a ma) : JE S (.UnaryOp .Not a pos) (AZ notM ma) := fun X E cx xo =>
 cC (pe_notT (ha X E cx xo)) fun σ H Q ⟨I, F, G, ds, w, rel, rs, p⟩ => cF (f := fun _ => notM) rel rs p fun I1 F1 H1 x w1 v e1 rel1 rs1 rv p1 => by
  obtain ⟨k, hk, p2⟩ := bC.truth p1 rel1 rv
  exact ⟨k, hk, p2.nM rel1 (by simp [aG])⟩
theorem lF (ht : JT S c ta) (ha : JE S a ma) (hb : JE S b mb) : JE S (.IfExp c a b pos) (sQ ta ma mb) := fun X E cx xo =>
 cC (pe_ifExp (ht X E cx xo) (ha X E cx xo) (hb X E cx xo)) fun σ H Q ⟨I, F, G, ds, w, rel, rs, p⟩ => tF (f := fun ds c w1 => if c = true then ma ds w1 else mb ds w1) rel rs p fun I1 F1 H1 c w1 e1 rel1 rs1 p1 => by
  cases c with
  | true => exact ⟨I1, F1, G, ds, w1, rel1, rs1, p1⟩
  | false => exact ⟨I1, F1, G, ds, w1, rel1, rs1, p1⟩
end
def aD : MA := fun _ w => .ok [] w
def aA (a : ME) (r : MA) : MA := fun σ w => (a σ w).bind fun x w1 => (r σ w1).bind fun xs w2 => .ok (x :: xs) w2
def bH (a : MA) : ME := fun σ w => (a σ w).bind fun xs w1 => if xs.length ≤ sizeLine then .ok (.tup xs) w1 else .bad
def dQ (a : MA) : ME := fun σ w => (a σ w).bind fun xs w1 => if xs.length ≤ sizeLine then .ok (.lst xs) w1 else .bad
def eNew (a : MA) : ME := fun σ w => (a σ w).bind fun xs w1 => if xs.length ≤ sizeLine then .ok (.ref w1.length) (w1 ++ [.lst xs]) else .bad
theorem aA5 {K : PySem.W.Frag} {I : List Addr} {F G H : Hp} {E : XK} {w : W} {o : MO} {u : HO} {Q : VK} (rel : Rel K I F G w H) (r : qL K I F o u) (p : bC K I F G E (RV K Q) (.ok (.ref w.length) (w ++ [o]))) : ∀ q, H q = none → Q (.ref q) (upd H q u) := fun q hq => by
 have hF : F q = none := by
  cases h : F q with
  | none => rfl
  | some u => rw [rel.fz _ _ h] at hq; cases hq
 have hI : q ∉ I := fun z => by
  obtain ⟨i, hi⟩ := List.mem_iff_getElem?.mp z
  have hl : i < w.length := by rw [← rel.len]; exact (ar.mp hi).1
  obtain ⟨u, h3, _⟩ := rel.ob i q _ hi (bo hl)
  rw [h3] at hq; cases hq
 have e : Ext I F (I ++ [q]) F := ⟨List.prefix_append _ _, fun _ _ h => h⟩
 refine p (I ++ [q]) F (upd H q u) e ⟨by simp [rel.len], ?_, fun i a o' h1 h2 => ?_, fun a u' h => ?_, fun i a o' h h0 hf => ?_, fun a u' h => ?_, fun a u' h => ?_, rel.gt⟩ _ ?_
 ·rw [List.nodup_append]
  exact ⟨rel.nd, by simp, fun a ha b hb => by simp at hb; subst hb; exact fun z => hI (z ▸ ha)⟩
 ·by_cases hi : i < I.length
  ·rw [bj hi] at h1
   rw [bj (by rw [← rel.len]; exact hi)] at h2
   obtain ⟨u', h3, h4⟩ := rel.ob i a o' h1 h2
   exact ⟨u', by rw [upd_ne (ne_of_none h3 hq)]; exact h3, qL.ext e h4⟩
  ·have hi2 : i = I.length := by
    have := (ar.mp h1).1
    simp at this; omega
   subst hi2
   rw [cy (az _)] at h1
   simp at h1
   rw [rel.len, cy (az _)] at h2
   simp at h2
   subst h1 h2
   exact ⟨u, upd_same, qL.ext e r⟩
 ·rw [upd_ne (ne_of_none h hF)]; exact rel.fz a u' h
 ·by_cases hi : i < I.length
  ·rw [bj hi] at h
   rw [bj (by rw [← rel.len]; exact hi)] at h0
   exact rel.ap i a o' h h0 hf
  ·have hi2 : i = I.length := by
    have := (ar.mp h).1
    simp at this; omega
   subst hi2
   rw [cy (az _)] at h
   simp at h
   subst h; exact hF
 ·rw [upd_ne (ne_of_none (rel.gz a u' h) hq)]; exact rel.gz a u' h
 ·refine ⟨(rel.gf a u' h).1, fun z => ?_⟩
  rcases bh.mp z with z | z
  ·exact (rel.gf a u' h).2 z
  ·simp at z; subst z; rw [rel.gz a u' h] at hq; cases hq
 ·simp only [aG]
  refine ⟨q, rfl, ?_⟩
  rw [← rel.len, cy (az _)]
  simp
section
variable {S : aR} {pos : Pos} {e : Expr} {es : List Expr} {m : ME} {ma : MA}
theorem aF : JA S [] aD := fun X E cx xo => HQ pa_nil fun σ H Q ⟨I, F, G, ds, w, rel, rs, p⟩ => p I F H .refl rel [] (by simp [RepL])
theorem aC (he : JE S e m) (hr : JA S es ma) (hs : ∀ env : Env, starEach (e :: es) env = (false, eval e env) :: starEach es env := by intro _; rfl) : JA S (e :: es) (aA m ma) := fun X E cx xo =>
 HQ (pa_cons (he X E cx xo) (hr X E cx xo) (hs X.env)) fun σ H Q ⟨I, F, G, ds, w, rel, rs, p⟩ =>
  cF (f := fun ds x w1 => (ma ds w1).bind fun xs w2 => .ok (x :: xs) w2) rel rs p fun I1 F1 H1 x w1 v e1 rel1 rs1 rv p1 =>
   gO (f := fun _ xs w2 => .ok (x :: xs) w2) rel1 rs1 p1 fun I2 F2 H2 xs w2 vs e2 rel2 rs2 rvs p2 => p2 I2 F2 H2 .refl rel2 _ (RepL.cons (aG.ext e2 _ _ rv) rvs)
theorem dJ {k : Nat} (h : JA S es ma) : JE S (.Tuple es k pos) (bH ma) := fun X E cx xo =>
 cC (pe_tup (h X E cx xo)) fun σ H Q ⟨I, F, G, ds, w, rel, rs, p⟩ =>
  gO (f := fun _ xs w1 => if xs.length ≤ sizeLine then Res.ok (D.tup xs) w1 else .bad) rel rs p fun I1 F1 H1 xs w1 vs e1 rel1 rs1 rvs p1 => by
   split at p1
   ·rename_i hl
    exact ⟨by rw [← rvs.length]; exact hl, yG rel1 rvs p1⟩
   ·exact p1.elim
theorem cX (h : JA S es ma) : JE S (.List es pos) (dQ ma) := fun X E cx xo =>
 cC (pe_lst (h X E cx xo)) fun σ H Q ⟨I, F, G, ds, w, rel, rs, p⟩ =>
  gO (f := fun _ xs w1 => if xs.length ≤ sizeLine then Res.ok (D.lst xs) w1 else .bad) rel rs p fun I1 F1 H1 xs w1 vs e1 rel1 rs1 rvs p1 => by
   split at p1
   ·rename_i hl
    exact ⟨by rw [← rvs.length]; exact hl, iY rel1 rvs p1⟩
   ·exact p1.elim
theorem RC (h : JA S es ma) : JE S (.List es pos) (eNew ma) := fun X E cx xo =>
 cC (pe_lst (h X E cx xo)) fun σ H Q ⟨I, F, G, ds, w, rel, rs, p⟩ =>
  gO (f := fun _ xs w1 => if xs.length ≤ sizeLine then Res.ok (D.ref w1.length) (w1 ++ [.lst xs]) else .bad) rel rs p fun I1 F1 H1 xs w1 vs e1 rel1 rs1 rvs p1 => by
   split at p1
   ·rename_i hl
    exact ⟨by rw [← rvs.length]; exact hl, aA5 (o := .lst xs) rel1 ⟨vs, rfl, rvs⟩ p1⟩
   ·exact p1.elim
end
def aZ : MS := fun σ w => .ok (.nx σ) w
def aJ (a b : MS) : MS := fun σ w => (a σ w).bind fun f w1 => match f with
 | .nx σ1 => b σ1 w1
 | f => .ok f w1
def aU (e : ME) : MS := fun σ w => (e σ w).bind fun d w1 => .ok (.rt d) w1
def cR (e : ME) : MS := fun σ w => (e σ w).bind fun _ w1 => .ok (.nx σ) w1
def dH (t : MT) (a b : MS) : MS := fun σ w => (t σ w).bind fun c w1 => if c = true then a σ w1 else b σ w1
abbrev MG := D → Sg → W → Res Sg
def aQ (i : Nat) : MG := fun d σ w => .ok (σ.set i (some d)) w
def aO (e : ME) (g : MG) : MS := fun σ w => (e σ w).bind fun d w1 => (g d σ w1).bind fun σ2 w2 => .ok (.nx σ2) w2
def aG3 : MS := fun _ _ => .bad
def RSg (K : PySem.W.Frag) (Q : L2.St → Hp → Prop) : List Addr → Hp → Hp → Sg → W → Prop := fun I' F' H' s _ => ∀ s', dU K I' F' s s' → Q s' H'
def lowG (K : PySem.W.Frag) (E : XK) (g : MG) : TG := fun v σ H Q => ∃ I F G d ds w, Rel K I F G w H ∧ dU K I F ds σ ∧ aG K I F d v ∧ bC K I F G E (RSg K Q) (g d ds w)
def JG (S : aR) (t : Expr) (g : MG) : Prop := ∀ X E, Ctx S X → vV X E → PG X t (lowG X.K E g)
theorem uV {X : Cx} {e : Expr} {t t' : TG} (h : PG X e t) (k : ∀ v σ H Q, t' v σ H Q → t v σ H Q) : PG X e t' := ⟨fun pins s σ H v u Q I r q => h.run pins s σ H v u Q I r (k v σ H Q q)⟩
section
variable {S : aR} {pos pos' : Pos} {e : Expr} {st : Stmt} {sts : List Stmt} {m : ME} {a b : MS} {g : MG} {t : MT}
theorem dC : sH S [] aZ := fun X E cx xo => BR pss_nil fun Z σ H ⟨I, F, G, ds, w, rel, rs, p⟩ => p I F H .refl rel _ rs
theorem VM {K : PySem.W.Frag} {E : XK} {Z : Ends} {σ : L2.St} {H : Hp} (h : TN K E (aJ a b) Z σ H) : TN K E a { Z with nx := TN K E b Z } σ H := by
 obtain ⟨I, F, G, ds, w, rel, rs, p⟩ := h
 refine ⟨I, F, G, ds, w, rel, rs, (bC.bind p).mono fun I1 F1 H1 f w1 _ e1 rel1 p1 => ?_⟩
 cases f with
 | nx s => exact fun s' rs' => ⟨I1, F1, G, s, w1, rel1, rs', p1⟩
 | rt d => exact fun v rv => p1 I1 F1 H1 .refl rel1 v rv
 | bk s => exact fun s' rs' => p1 I1 F1 H1 .refl rel1 s' rs'
 | ct s => exact fun s' rs' => p1 I1 F1 H1 .refl rel1 s' rs'
theorem aL (h1 : JS S st a) (h2 : sH S sts b) : sH S (st :: sts) (aJ a b) := fun X E cx xo =>
 BR (pss_cons (h1 X E cx xo) (h2 X E cx xo)) fun Z σ H h => VM h
theorem aX (h1 : JS S st a) : sH S [st] a := fun X E cx xo => pss_one (h1 X E cx xo)
theorem bP (he : JE S e m) : JS S (.Return (some e) pos) (aU m) := fun X E cx xo =>
 mK (ps_ret (he X E cx xo)) fun Z σ H ⟨I, F, G, ds, w, rel, rs, p⟩ => cF (f := fun _ d w1 => Res.ok (Fl.rt d) w1) rel rs p fun I1 F1 H1 x w1 v e1 rel1 rs1 rv p1 => p1 I1 F1 H1 .refl rel1 v rv
theorem yU (he : JE S e m) (hs : ∀ env : Env, swapsWith e none pos.line env = pure false := by intro _; rfl) : JS S (.Expr e pos) (cR m) := fun X E cx xo =>
 mK (ps_expr (he X E cx xo) (hs X.env)) fun Z σ H ⟨I, F, G, ds, w, rel, rs, p⟩ => cF (f := fun ds _ w1 => Res.ok (Fl.nx ds) w1) rel rs p fun I1 F1 H1 x w1 v e1 rel1 rs1 rv p1 => p1 I1 F1 H1 .refl rel1 σ rs1
theorem hY {x : Expr} {sa sb : List Stmt} (ht : JT S x t) (ha : sH S sa a) (hb : sH S sb b) : JS S (.If x sa sb pos) (dH t a b) := fun X E cx xo =>
 mK (ps_if (ht X E cx xo) (ha X E cx xo) (hb X E cx xo)) fun Z σ H ⟨I, F, G, ds, w, rel, rs, p⟩ => tF (f := fun ds c w1 => if c = true then a ds w1 else b ds w1) rel rs p fun I1 F1 H1 c w1 e1 rel1 rs1 p1 => by
  cases c with
  | true => exact ⟨I1, F1, G, ds, w1, rel1, rs1, p1⟩
  | false => exact ⟨I1, F1, G, ds, w1, rel1, rs1, p1⟩
def Sto (S : aR) (x : Str) : Prop := Loc S.sc x ∧ (S.fn x = true ∨ S.sc.names.lookup x = some .local)
theorem aFK {i : Nat} {x : Str} (hi : S.N[i]? = some x) (hx : Sto S x) : JG S (.Name x pos) (aQ i) := fun X E cx xo =>
 uV (pg_name (i := i) (x := x) cx.nd (by rw [cx.N]; exact hi) (by rw [cx.sc]; exact hx.1) (by rw [cx.sc]; exact hx.2.imp (cx.fn x) id)) fun v σ H Q ⟨I, F, G, d, ds, w, rel, rs, rv, p⟩ => p I F H .refl rel _ (rs.set i rv)
theorem aGt {K : PySem.W.Frag} {E : XK} {Z : Ends} {σ : L2.St} {H : Hp} (h : TN K E (aO m g) Z σ H) : y9 K E m σ H fun v H1 => lowG K E g v σ H1 Z.nx := by
 obtain ⟨I, F, G, ds, w, rel, rs, p⟩ := h
 exact cF (f := fun ds d w1 => (g d ds w1).bind fun σ2 w2 => Res.ok (Fl.nx σ2) w2) rel rs p fun I1 F1 H1 x w1 v e1 rel1 rs1 rv p1 =>
  ⟨I1, F1, G, x, ds, w1, rel1, rs1, rv, (bC.bind p1).mono fun I2 F2 H2 s w2 _ e2 rel2 p2 s' rs2 => p2 I2 F2 H2 .refl rel2 s' rs2⟩
theorem aIo {i : Nat} {x : Str} (hi : S.N[i]? = some x) (hx : Sto S x) (he : JE S e m) (hs : ∀ env : Env, swapsWith e (some (.Name x pos')) pos.line env = pure false := by intro _; rfl) : JS S (.Assign [.Name x pos'] e pos) (aO m (aQ i)) := fun X E cx xo =>
 mK (ps_set (i := i) (x := x) cx.nd (by rw [cx.N]; exact hi) (by rw [cx.sc]; exact hx.1) (he X E cx xo) (hs X.env) (by rw [cx.sc]; exact hx.2.imp (cx.fn x) id)) fun Z σ H ⟨I, F, G, ds, w, rel, rs, p⟩ =>
  cF (f := fun ds d w1 => (aQ i d ds w1).bind fun σ2 w2 => Res.ok (Fl.nx σ2) w2) rel rs p fun I1 F1 H1 x w1 v e1 rel1 rs1 rv p1 => p1 I1 F1 H1 .refl rel1 _ (rs1.set i rv)
theorem EF {tg : Expr} (he : JE S e m) (hg : JG S tg g) (hs : ∀ env : Env, swapsWithSole [tg] e pos.line env = pure false := by intro _; rfl) (hw : ∀ env : Env, swappedStores [tg] e env = pure none := by intro _; rfl)
  (h1 : ∀ env : Env, (assignEach [tg] env).map (·.2) = [assign tg env] := by intro _; rfl) : JS S (.Assign [tg] e pos) (aO m g) := fun X E cx xo =>
 mK (ps_asg (he X E cx xo) (hg X E cx xo) (hs X.env) (hw X.env) (h1 X.env)) fun Z σ H h => aGt h
end
abbrev TZ := List D → Sg → W → Res Sg
def bO : TZ := fun ds σ w => match ds with
 | [] => .ok σ w
 | _ => .bad
def aI (g : MG) (r : TZ) : TZ := fun ds σ w => match ds with
 | d :: ds => (g d σ w).bind fun σ1 w1 => r ds σ1 w1
 | [] => .bad
def bV (n : Nat) (r : TZ) : MG := fun d σ w => match d with
 | .tup xs => if xs.length = n then r xs σ w else .bad
 | .vU xs => if xs.length = n then r xs σ w else .bad
 | _ => .bad
def aKp (K : PySem.W.Frag) (E : XK) (g : TZ) : TGs := fun vs σ H Q => ∃ I F G xs ds w, Rel K I F G w H ∧ dU K I F ds σ ∧ RepL K I F xs vs ∧ bC K I F G E (RSg K Q) (g xs ds w)
def JGs (S : aR) (ts : List Expr) (g : TZ) : Prop := ∀ X E, Ctx S X → vV X E → PGs X ts (aKp X.K E g)
theorem xR {X : Cx} {e : List Expr} {t t' : TGs} (h : PGs X e t) (k : ∀ v σ H Q, t' v σ H Q → t v σ H Q) : PGs X e t' := ⟨fun pins s σ H v u Q I r q => h.run pins s σ H v u Q I r (k v σ H Q q)⟩
section
variable {S : aR} {pos pos' : Pos} {e : Expr} {es : List Expr} {g : MG} {r : TZ}
theorem yN : JGs S [] bO := fun X E cx xo => xR pgs_nil fun vs σ H Q ⟨I, F, G, xs, ds, w, rel, rs, rv, p⟩ => by
 cases xs with
 | nil =>
  simp only [RepL] at rv
  exact ⟨rv, p I F H .refl rel _ rs⟩
 | cons => exact p.elim
theorem eI (h1 : JG S e g) (h2 : JGs S es r) (hs : ∀ env : Env, (assignEach (e :: es) env).map (·.2) = assign e env :: (assignEach es env).map (·.2) := by intro _; rfl) : JGs S (e :: es) (aI g r) := fun X E cx xo =>
 xR (pgs_cons (h1 X E cx xo) (h2 X E cx xo) (hs X.env)) fun vs σ H Q ⟨I, F, G, xs, ds, w, rel, rs, rv, p⟩ => by
  cases xs with
  | nil => exact p.elim
  | cons x xs =>
   simp only [RepL] at rv
   obtain ⟨v, t, rfl, rv1, rvs⟩ := rv
   exact ⟨v, t, rfl, I, F, G, x, ds, w, rel, rs, rv1, (bC.bind p).mono fun I1 F1 H1 s w1 _ e1 rel1 p1 s' rs1 => ⟨I1, F1, G, xs, s, w1, rel1, rs1, RepL.ext e1 _ _ rvs, p1⟩⟩
theorem DS {k n : Nat} (h : JGs S es r) (hn : ∀ env : Env, (assignEach es env).length = n := by intro _; rfl) (hst : ∀ env : Env, (assignEach es env).findIdx? (·.1) = none := by intro _; rfl) : JG S (.Tuple es k pos) (bV n r) := fun X E cx xo =>
 uV (pg_tup cx.calm (h X E cx xo) (hn X.env) (hst X.env)) fun v σ H Q ⟨I, F, G, d, ds, w, rel, rs, rv, p⟩ => by
  cases d <;> first | exact p.elim | skip
  all_goals
   rename_i xs
   simp only [aG] at rv
   obtain ⟨a, vs, rfl, h1, h2⟩ := rv
   simp only [bV] at p
   split at p
   ·rename_i hl
    exact ⟨a, vs, rfl, (by first | exact .of (rel.fz _ _ h1) | exact rel.VB h1), by rw [← h2.length]; exact hl, I, F, G, xs, ds, w, rel, rs, h2, p⟩
   ·exact p.elim
end
mutual
def D.cl (n : Nat) : D → Bool
 | .tup xs => D.cls n xs
 | .lst xs => D.cls n xs
 | .qK xs => D.cls n xs
 | .vU xs => D.cls n xs
 | .EZ ks xs => D.cls n ks && D.cls n xs
 | .ref i => decide (i < n)
 | .non => true
 | .bl _ => true
 | .int _ => true
 | .str _ => true
 | .ty _ => true
 | .con _ => true
def D.cls (n : Nat) : List D → Bool
 | [] => true
 | d :: ds => D.cl n d && D.cls n ds
end
def MO.cl (n : Nat) : MO → Bool
 | .lst xs => D.cls n xs
 | .dK kvs => D.cls n (kvs.map (·.2))
 | .dT kvs => D.cls n (kvs.map (·.2))
 | .dF kvs => D.cls n (kvs.map (·.2))
 | .dG kvs => D.cls n (kvs.map (·.2))
 | .ins _ fs => D.cls n (fs.map (·.2))
section
variable {K : PySem.W.Frag} {I : List Addr} {F : Hp} {n : Nat}
theorem aCE {n i : Nat} {a : Addr} (h : I[i]? = some a) (hi : i < n) : (I.take n)[i]? = some a := by
 rw [List.getElem?_take_of_lt hi]; exact h
mutual
theorem aG.cut : ∀ (d : D) (v : V), aG K I F d v → d.cl n = true → aG K (I.take n) F d v
 | .non, _, h, _ => by simpa only [aG] using h
 | .bl _, _, h, _ => by simpa only [aG] using h
 | .int _, _, h, _ => by simpa only [aG] using h
 | .str _, _, h, _ => by simpa only [aG] using h
 | .ty _, _, h, _ => by simpa only [aG] using h
 | .con _, _, h, _ => by simpa only [aG] using h
 | .tup xs, v, h, c => by
  simp only [aG, D.cl] at h c ⊢
  obtain ⟨a, vs, h1, h2, h3⟩ := h
  exact ⟨a, vs, h1, h2, RepL.cut xs vs h3 c⟩
 | .lst xs, v, h, c => by
  simp only [aG, D.cl] at h c ⊢
  obtain ⟨a, vs, h1, h2, h3⟩ := h
  exact ⟨a, vs, h1, h2, RepL.cut xs vs h3 c⟩
 | .qK xs, v, h, c => by
  simp only [aG, D.cl] at h c ⊢
  obtain ⟨a, vs, h1, h2, h3⟩ := h
  exact ⟨a, vs, h1, h2, RepL.cut xs vs h3 c⟩
 | .vU xs, v, h, c => by
  simp only [aG, D.cl] at h c ⊢
  obtain ⟨a, vs, h1, h2, h3⟩ := h
  exact ⟨a, vs, h1, h2, RepL.cut xs vs h3 c⟩
 | .EZ ks xs, v, h, c => by
  simp only [aG, D.cl, ak] at h c ⊢
  obtain ⟨a, kvs, h1, h2, h3, h4⟩ := h
  exact ⟨a, kvs, h1, h2, RepL.cut ks _ h3 c.1, RepL.cut xs _ h4 c.2⟩
 | .ref i, v, h, c => by
  simp only [aG, D.cl, ai] at h c ⊢
  obtain ⟨a, h1, h2⟩ := h
  exact ⟨a, h1, aCE h2 c⟩
theorem RepL.cut : ∀ (ds : List D) (vs : List V), RepL K I F ds vs → D.cls n ds = true → RepL K (I.take n) F ds vs
 | [], _, h, _ => by simpa only [RepL] using h
 | d :: ds, vs, h, c => by
  simp only [RepL, D.cls, ak] at h c ⊢
  obtain ⟨v, r, h1, h2, h3⟩ := h
  exact ⟨v, r, h1, aG.cut d v h2 c.1, RepL.cut ds r h3 c.2⟩
end
theorem aS.cut {κ : Type} : ∀ (ds : List (κ × D)) (vs : List (κ × V)), aS K I F ds vs → D.cls n (ds.map (·.2)) = true → aS K (I.take n) F ds vs
 | [], _, h, _ => by simpa only [aS] using h
 | (k, d) :: ds, vs, h, c => by
  simp only [aS, bt, D.cls, ak] at h c ⊢
  obtain ⟨v, r, h1, h2, h3⟩ := h
  exact ⟨v, r, h1, aG.cut d v h2 c.1, aS.cut ds r h3 c.2⟩
theorem qL.cut {o : MO} {u : HO} (h : qL K I F o u) (c : o.cl n = true) : qL K (I.take n) F o u := by
 cases o with
 | lst xs => obtain ⟨vs, h1, h2⟩ := h; exact ⟨vs, h1, RepL.cut _ _ h2 c⟩
 | dK xs => obtain ⟨vs, h1, h2⟩ := h; exact ⟨vs, h1, aS.cut _ _ h2 c⟩
 | dT xs => obtain ⟨vs, h1, h2⟩ := h; exact ⟨vs, h1, aS.cut _ _ h2 c⟩
 | dF xs => obtain ⟨o, vs, h1, h2⟩ := h; exact ⟨o, vs, h1, aS.cut _ _ h2 c⟩
 | dG xs => obtain ⟨o, vs, h1, h2⟩ := h; exact ⟨o, vs, h1, aS.cut _ _ h2 c⟩
 | ins C xs => obtain ⟨dx, vs, h1, h2⟩ := h; exact ⟨dx, vs, h1, aS.cut _ _ h2 c⟩
mutual
theorem aG.cl : ∀ (d : D) (v : V), aG K I F d v → I.length ≤ n → d.cl n = true
 | .non, _, _, _ => by simp [D.cl]
 | .bl _, _, _, _ => by simp [D.cl]
 | .int _, _, _, _ => by simp [D.cl]
 | .str _, _, _, _ => by simp [D.cl]
 | .ty _, _, _, _ => by simp [D.cl]
 | .con _, _, _, _ => by simp [D.cl]
 | .tup xs, v, h, l => by
  simp only [aG, D.cl] at h ⊢
  obtain ⟨a, vs, h1, h2, h3⟩ := h
  exact RepL.cl xs vs h3 l
 | .lst xs, v, h, l => by
  simp only [aG, D.cl] at h ⊢
  obtain ⟨a, vs, h1, h2, h3⟩ := h
  exact RepL.cl xs vs h3 l
 | .qK xs, v, h, l => by
  simp only [aG, D.cl] at h ⊢
  obtain ⟨a, vs, h1, h2, h3⟩ := h
  exact RepL.cl xs vs h3 l
 | .vU xs, v, h, l => by
  simp only [aG, D.cl] at h ⊢
  obtain ⟨a, vs, h1, h2, h3⟩ := h
  exact RepL.cl xs vs h3 l
 | .EZ ks xs, v, h, l => by
  simp only [aG, D.cl, ak] at h ⊢
  obtain ⟨a, kvs, h1, h2, h3, h4⟩ := h
  exact ⟨RepL.cl ks _ h3 l, RepL.cl xs _ h4 l⟩
 | .ref i, v, h, l => by
  simp only [aG, D.cl, ai] at h ⊢
  obtain ⟨a, h1, h2⟩ := h
  have := (ar.mp h2).1
  omega
theorem RepL.cl : ∀ (ds : List D) (vs : List V), RepL K I F ds vs → I.length ≤ n → D.cls n ds = true
 | [], _, _, _ => by simp [D.cls]
 | d :: ds, vs, h, l => by
  simp only [RepL, D.cls, ak] at h ⊢
  obtain ⟨v, r, h1, h2, h3⟩ := h
  exact ⟨aG.cl d v h2 l, RepL.cl ds r h3 l⟩
end
theorem aS.cl {κ : Type} : ∀ (ds : List (κ × D)) (vs : List (κ × V)), aS K I F ds vs → I.length ≤ n → D.cls n (ds.map (·.2)) = true
 | [], _, _, _ => by simp [D.cls]
 | (k, d) :: ds, vs, h, l => by
  simp only [aS, bt, D.cls, ak] at h ⊢
  obtain ⟨v, r, h1, h2, h3⟩ := h
  exact ⟨aG.cl d v h2 l, aS.cl ds r h3 l⟩
theorem qL.cl {o : MO} {u : HO} (h : qL K I F o u) (l : I.length ≤ n) : o.cl n = true := by
 cases o with
 | lst xs => obtain ⟨vs, h1, h2⟩ := h; exact RepL.cl _ _ h2 l
 | dK xs => obtain ⟨vs, h1, h2⟩ := h; exact aS.cl _ _ h2 l
 | dT xs => obtain ⟨vs, h1, h2⟩ := h; exact aS.cl _ _ h2 l
 | dF xs => obtain ⟨o, vs, h1, h2⟩ := h; exact aS.cl _ _ h2 l
 | dG xs => obtain ⟨o, vs, h1, h2⟩ := h; exact aS.cl _ _ h2 l
 | ins C xs => obtain ⟨dx, vs, h1, h2⟩ := h; exact aS.cl _ _ h2 l
end
def aJV (w0 w : W) : Prop := w0.length ≤ w.length ∧ ∀ (i : Nat) (o : MO), w[i]? = some o → w0[i]? = some o ∨ o.cl w.length = true
def XD.cl (n : Nat) (x : XD) : Bool := match x.fs with
 | none => true
 | some fs => D.cls n (fs.map (·.2))
def Fits (w0 : W) (r r' : Res D) : Prop := match r with
 | .bad => True
 | .ok d w => ∃ g, r' = .ok d (w ++ g) ∧ (g = [] ∨ (d.cl w.length = true ∧ aJV w0 w))
 | .zC x w => ∃ g, r' = .zC x (w ++ g) ∧ (g = [] ∨ (x.cl w.length = true ∧ aJV w0 w))
theorem Fits.iM {w0 : W} {r : Res D} : Fits w0 r r := by
 cases r with
 | ok d w => exact ⟨[], by simp, .inl rfl⟩
 | zC x w => exact ⟨[], by simp, .inl rfl⟩
 | bad => trivial
theorem Fits.of_eq {w0 : W} {r r' : Res D} (h : r' = r) : Fits w0 r r' := h ▸ Fits.iM
theorem aBq {K : PySem.W.Frag} {I I' : List Addr} {F F' G H H' : Hp} {w0 w g : W} (rel0 : Rel K I F G w0 H) (e : Ext I F I' F') (rel : Rel K I' F' G (w ++ g) H') (s : aJV w0 w) : Ext I F (I'.take w.length) F' ∧ Rel K (I'.take w.length) F' G w H' := by
 have hl : I'.length = w.length + g.length := by rw [rel.len, bw]
 have e2 : Ext I F (I'.take w.length) F' := ⟨by
  obtain ⟨t, rfl⟩ := e.i
  rw [List.take_append, dh (by rw [rel0.len]; exact s.1)]
  exact List.prefix_append _ _, e.f⟩
 refine ⟨e2, ⟨by simp [hl], rel.nd.sublist (List.take_sublist _ _), fun i a o h1 h2 => ?_, rel.fz, fun i a o h h0 hf => rel.ap i a o (List.getElem?_take_of_lt (ar.mp h0).1 ▸ h) (by rw [bj (ar.mp h0).1]; exact h0) hf, rel.gz, fun a u h => ⟨(rel.gf a u h).1, fun z => (rel.gf a u h).2 (dy z)⟩, rel.gt⟩⟩
 have hi : i < w.length := (ar.mp h2).1
 rw [List.getElem?_take_of_lt hi] at h1
 obtain ⟨u, h3, h4⟩ := rel.ob i a o h1 (by rw [bj hi]; exact h2)
 refine ⟨u, h3, ?_⟩
 rcases s.2 i o h2 with q | q
 ·refine qL.cut h4 ?_
  have hi0 : i < w0.length := (ar.mp q).1
  obtain ⟨u0, _, h6⟩ := rel0.ob i _ o (bo (by rw [rel0.len]; exact hi0)) q
  exact h6.cl (by rw [rel0.len]; exact s.1)
 ·exact qL.cut h4 q
theorem A0.cut {K : PySem.W.Frag} {I : List Addr} {F H : Hp} {x : XD} {c : Value} {d : Option Addr} {n : Nat} (h : A0 K (I.take n) F H x c d) (hn : n ≤ I.length) : A0 K I F H x c d := by
 have e : Ext (I.take n) F I F := ⟨List.take_prefix _ _, fun _ _ h => h⟩
 obtain ⟨h1, h2⟩ := h
 refine ⟨h1, ?_⟩
 cases hf : x.fs with
 | none => rw [hf] at h2; exact h2
 | some fs =>
  rw [hf] at h2
  obtain ⟨a, r, q1, q2, q3⟩ := h2
  exact ⟨a, r, q1, q2, aS.ext e _ _ q3⟩
theorem A0.aMV {K : PySem.W.Frag} {I : List Addr} {F H : Hp} {x : XD} {c : Value} {d : Option Addr} {n : Nat} (h : A0 K I F H x c d) (hx : x.cl n = true) : A0 K (I.take n) F H x c d := by
 obtain ⟨h1, h2⟩ := h
 refine ⟨h1, ?_⟩
 unfold XD.cl at hx
 cases hf : x.fs with
 | none => rw [hf] at h2; exact h2
 | some fs =>
  rw [hf] at h2 hx
  obtain ⟨a, r, q1, q2, q3⟩ := h2
  exact ⟨a, r, q1, q2, aS.cut _ _ q3 hx⟩
theorem bC.fits {K : PySem.W.Frag} {I : List Addr} {F G H : Hp} {E : XK} {Q : VK} {w0 : W} {r r' : Res D} (rel0 : Rel K I F G w0 H) (p : bC K I F G E (RV K Q) r) (f : Fits w0 r r') : bC K I F G E (RV K Q) r' := by
 cases r with
 | bad => exact p.elim
 | ok d w =>
  obtain ⟨g, rfl, hg⟩ := f
  rcases hg with rfl | ⟨hd, hs⟩
  ·rw [du]; exact p
  ·intro I' F' H' e rel v rv
   obtain ⟨e2, rel2⟩ := aBq rel0 e rel hs
   exact p _ F' H' e2 rel2 v (aG.cut d v rv hd)
 | zC x w =>
  obtain ⟨g, rfl, hg⟩ := f
  rcases hg with rfl | ⟨hd, hs⟩
  ·rw [du]; exact p
  ·intro I' F' H' c d e rel rx
   obtain ⟨e2, rel2⟩ := aBq rel0 e rel hs
   exact p _ F' H' c d e2 rel2 (A0.aMV rx hd)
abbrev MF := List D → W → Res D
def spM (K : PySem.W.Frag) (m : MF) : Sp := fun vs H Q E => ∃ I F G ds w, Rel K I F G w H ∧ RepL K I F ds vs ∧ bC K I F G E (RV K Q) (m ds w)
structure fZ (P : Program) (w : World) (K : PySem.W.Frag) (mg : Str → Option Value) (base : Heap) (k : Nat) (f : Addr) (fd : FuncData) (ps : List Str) (m : MF) : Prop where
 run : ∀ (A : Around) (outer : List Env) (s : Shared) (H : Hp) (args : Args) (us : List Value) (vs : List V) (Q : VK) (E : XK), Room k A → A.guards = some [] → Env0 P w K mg base A outer s H → BindsTo s fd args (ps.zip us) → Vals vs us →
  vs.length = ps.length → spM K m vs H Q E → codeAny (model P w) A (.call (.ref f) args) (CR (L2.CX P w) outer P w H s Q E) s
theorem fZ.mono {P : Program} {w : World} {K : PySem.W.Frag} {mg : Str → Option Value} {base : Heap} {j k : Nat} {f : Addr} {fd : FuncData} {ps : List Str} {m : MF} (G : fZ P w K mg base j f fd ps m) (h : j ≤ k) : fZ P w K mg base k f fd ps m :=
 ⟨fun A outer s H args us vs Q E hr => G.run A outer s H args us vs Q E (hr.mono h)⟩
def begin (N : List Str) (ds : List D) : Sg := ds.map some ++ List.replicate (N.length - ds.length) none
def bF (mb : MS) (N : List Str) (ds : List D) (w : W) : Res D := (mb (begin N ds) w).bind fun f w1 => match f with
 | .nx _ => .ok .non w1
 | .rt d => .ok d w1
 | _ => .bad
theorem RepL.aDE {K : PySem.W.Frag} {I : List Addr} {F : Hp} {ds : List D} {vs : List V} (r : RepL K I F ds vs) (N : List Str) : dU K I F (begin N ds) (L2.start N vs) := by
 unfold begin L2.start
 refine ⟨by simp [r.length], fun i d h => ?_⟩
 by_cases hi : i < ds.length
 ·rw [bj (by simpa using hi), da] at h
  cases q : ds[i]? with
  | none => rw [q] at h; cases h
  | some x =>
   rw [q] at h; cases h
   obtain ⟨v, h1, h2⟩ := r.get q
   exact ⟨v, by rw [bj (by simpa [← r.length] using hi), da, h1]; rfl, h2⟩
 ·rw [cy (by simpa using hi), List.getElem?_replicate] at h
  split at h <;> cases h
abbrev aR.body (S : aR) (k : Nat) (N : List Str) (sc : Scope) : aR := { S with k := k, N := N, sc := sc, fn := fun _ => true }
theorem fZ.of {S : aR} {x qual : Str} {params : Arguments} {body : List Stmt} {scope : Scope} {dvs : List V} {kws : List (Str × V)} {f : Addr} {fd : FuncData} {N ps : List Str} {k : Nat} {mb : MS} {m : MF}
  (F : FunD S.K x qual params body scope dvs kws f fd) (Sc : FnScope N ps scope) (hb : sH (S.body k N scope) body mb) (hm : ∀ ds w, ds.length = ps.length → Fits w (m ds w) (bF mb N ds w)) : fZ S.P S.w S.K S.mg S.base (k + 1) f fd ps m := by
 refine ⟨fun A outer s H args us vs Q E hr hg e0 hbt r hl hsp => ?_⟩
 obtain ⟨oc, od, dV, kV, doc, pm, an, cdv, ct, osl, rfl, lk, hcd, _, _⟩ := F.ex
 have KX : S.K.In s.heap := e0.mod.kin.keeps fun b o e => (e0.bs b o e).1
 have lim : s.heap.NoLimit := e0.mod.nolimit.keeps fun b o e => (e0.bs b o e).1
 have kinds : ∀ y ∈ ps.zip us, scope.names.lookup y.1 = some .local ∨ (scope.names.lookup y.1 = some .cell ∧ ((cellsFrom (s.heap.objs.size + 1) scope.names []).lookup y.1).isSome = true) := by
  rintro ⟨n, v⟩ hy
  have hn : n ∈ ps := (List.of_mem_zip hy).1
  rcases Sc.par n hn with q | q
  ·exact Or.inl q
  ·exact Or.inr ⟨q, PySem.W.cellsFrom_some _ _ _ (.inl q)⟩
 refine codeAny_call_function hr.depth (KX _ _ lk) rfl Sc.co Sc.gen rfl (PySem.W.codeRec_of KX hcd) (hbt _ _ _ _ ?_)
 refine wpAny_newFunctionEnv_cells Sc.kind kinds fun env he s1 y => ?_
 subst he
 refine ⟨lim.keeps y.toInCall.keep, codeAny_func ?_⟩
 obtain ⟨I, F0, G, ds, w, rel, rl, p⟩ := hsp
 have J : Inv (cxOf (L2.CX S.P S.w) S.P S.w S.K S.mg S.base N qual scope f cdv A outer s H E) [] (start N vs) H s1 := inv_start Sc hr.hd e0 hl r y
 have cx : Ctx (S.body k N scope) (cxOf (L2.CX S.P S.w) S.P S.w S.K S.mg S.base N qual scope f cdv A outer s H E) := ⟨rfl, rfl, rfl, rfl, rfl, rfl, rfl, fun _ _ => rfl, rfl, hr.deeper _, hg, Sc.nd⟩
 have xo : vV (cxOf (L2.CX S.P S.w) S.P S.w S.K S.mg S.base N qual scope f cdv A outer s H E) E := ⟨takes_of rfl rfl rfl rfl, passes_of rfl⟩
 have p' : bC S.K I F0 G E (RV S.K Q) (bF mb N ds w) := p.fits rel (hm ds w (by rw [rl.length]; exact hl))
 have go := (hb _ E cx xo).run [] s1 (start N vs) H { nx := fun _ H' => Q .non H', rt := Q } J ⟨I, F0, G, begin N ds, w, rel, rl.aDE N, (bC.bind p').mono fun I1 F1 H1 fl w1 _ e1 rel1 p1 => ?_⟩
 ·refine wpAny_mono go (fun fl s' hs => ?_) fun e s' hs => hs
  cases fl with
  | ret u =>
   obtain ⟨v, σ', H', J', rv, q⟩ := hs
   exact ⟨v, H', J'.os, J'.bare, J'.base, J'.hok, rv, q⟩
  | next =>
   obtain ⟨σ', H', J', q⟩ := hs
   exact ⟨V.non, H', J'.os, J'.bare, J'.base, J'.hok, rfl, q⟩
  | brk =>
   obtain ⟨_, _, _, q⟩ := hs
   exact q.elim
  | cont =>
   obtain ⟨_, _, _, q⟩ := hs
   exact q.elim
 ·cases fl with
  | nx z => exact fun s' _ => p1.nM rel1 (by simp [aG])
  | rt d => exact fun v rv => p1.nM rel1 rv
  | bk z => exact p1.elim
  | ct z => exact p1.elim
structure dN (K : PySem.W.Frag) (fd : FuncData) (ps : List Str) (n : Nat) (ks : List Str) (gd : List D → List D → List D) : Prop where
 ex : ∃ (g : List Value → List Value → List Value) (gV : List V → List V → List V), KBn K fd ps n ks g gV ∧
  ∀ I F xs vs zs us, RepL K I F xs vs → RepL K I F zs us → RepL K I F (gd xs zs) (gV vs us)
 len : ∀ xs zs, xs.length = n → zs.length = ks.length → (gd xs zs).length = ps.length
def aH (m : MF) (n : Nat) (gd : List D → List D → List D) (ma : MA) : ME := fun σ w => (ma σ w).bind fun xs w1 => if xs.length = n then m (gd xs []) w1 else .bad
def YB (m : MF) (n j : Nat) (gd : List D → List D → List D) (ma mk : MA) : ME := fun σ w => (ma σ w).bind fun xs w1 => (mk σ w1).bind fun zs w2 => if xs.length = n ∧ zs.length = j then m (gd xs zs) w2 else .bad
theorem aLV {X : Cx} {pins : List (Addr × Obj)} {σ : L2.St} {H : Hp} {s : Shared} {Q : VK} {E : XK} {k : Nat} {f : Addr} {fd : FuncData} {ps ks : List Str} {m : MF} {n : Nat} {gd : List D → List D → List D} {I : List Addr} {F G : Hp} {xs zs : List D} {w : W} {us ws : List Value} {vs ys : List V}
  (xo : vV X E) (Gf : fZ X.prog X.w X.K X.mg X.base k f fd ps m) (B : dN X.K fd ps n ks gd) (hr : Room k X.A) (hg : X.A.guards = some []) (J : Inv X pins σ H s) (rel : Rel X.K I F G w H) (rx : RepL X.K I F xs vs) (rz : RepL X.K I F zs ys)
  (r : Vals vs us) (q : Vals ys ws) (h1 : xs.length = n) (h2 : zs.length = ks.length) (p : bC X.K I F G E (RV X.K Q) (m (gd xs zs) w)) : wpAny (model X.prog X.w) X.A (call (.ref f) us (ks.zip ws)) (EP X pins σ Q) X.xe s := by
 obtain ⟨g, gV, kb, rep⟩ := B.ex
 have r2 := kb.rel r q
 have r3 := rep I F xs vs zs ys rx rz
 have hl : (gV vs ys).length = ps.length := by rw [← r3.length]; exact B.len xs zs h1 h2
 refine wpAny_call (codeAny_mono (Gf.run X.A X.stack s H ⟨us, ks.zip ws⟩ (g us ws) (gV vs ys) Q E hr hg J.env0 (kb.to s us ws J.kIn (by rw [← r.length, ← rx.length]; exact h1) (by rw [← q.length, ← rz.length]; exact h2)) r2 hl ⟨I, F, G, _, w, rel, r3, p⟩) fun fl s' hq => ?_)
 cases fl with
 | error e => exact passes_call xo.tk (fun _ _ _ _ h => h) pins σ H s e s' J hq
 | ok fl =>
  cases fl with
  | ret u => exact J.after hq
  | next => exact hq.elim
  | brk => exact hq.elim
  | cont => exact hq.elim
section
variable {S : aR} {k n : Nat} {f : Addr} {fd : FuncData} {ps ks : List Str} {m : MF} {gd : List D → List D → List D} {x : Str} {p pos kpos : Pos} {e : Expr} {es : List Expr} {kws : List Keyword} {ma mk : MA} {me : ME} {nm : Option Str}
theorem aW (hk : k ≤ S.k) (Gf : fZ S.P S.w S.K S.mg S.base k f fd ps m) (B : dN S.K fd ps n [] gd) (hg : S.sc.names.lookup x = some .globalImplicit) (hm : S.mg x = some (.ref f)) (kp : PySem.W.keepIn S.K (.ref f) = true) (ha : JA S (e :: es) ma)
  (hdb : (x == ("__debug__" : Str)) = false := by decide) (he : ∀ env : Env, starEach (e :: es) env = (false, eval e env) :: starEach es env := by intro _; rfl) (hpl : ∀ env : Env, (backTo pos (starEach es env)).any (·.1) = false := by intro _; rfl) :
  JE S (.Call (.Name x p) (e :: es) [] pos) (aH m n gd ma) := fun X E cx xo => by
 refine ⟨fun pins s σ H Q J ⟨I, F, G, ds, w, rel, rs, p⟩ => ?_⟩
 refine wpAny_Call_Name_kw (ld_glob J (by show X.env.scope.names.lookup x = _; rw [cx.sc]; exact hg) (by rw [cx.mg]; exact hm) ?_ hdb)
 refine PySem.W.callWith_K (h₀ := X.base) J.ok.mod.kin (by rw [cx.K]; exact kp) (thn ((ha X E cx xo).run pos pins s σ H _ J (gO (f := fun _ xs w1 => if xs.length = n then m (gd xs []) w1 else .bad) (Q := fun vs H1 => ∃ I1 F1 xs w1, Rel X.K I1 F1 G w1 H1 ∧ RepL X.K I1 F1 xs vs ∧ xs.length = n ∧ bC X.K I1 F1 G E (RV X.K Q) (m (gd xs []) w1)) rel rs p fun I1 F1 H1 xs w1 vs e1 rel1 rs1 rvs p1 => ?_)) fun us s1 hq => ?_) (he X.env) (hpl X.env)
 ·split at p1
  ·rename_i hl
   exact ⟨I1, F1, xs, w1, rel1, rvs, hl, p1⟩
  ·exact p1.elim
 ·obtain ⟨vs, H1, J1, r, I1, F1, xs, w1, rel1, rvs, hl, p1⟩ := hq
  refine ⟨J1.kIn, ?_⟩
  have Gf' : fZ X.prog X.w X.K X.mg X.base k f fd ps m := by rw [cx.P, cx.w, cx.K, cx.mg, cx.base]; exact Gf
  have B' : dN X.K fd ps n [] gd := by rw [cx.K]; exact B
  exact aLV (ks := []) (ws := []) (zs := []) (ys := []) xo Gf' B' (cx.room.mono hk) cx.gds J1 rel1 rvs (by simp [RepL]) r .nil hl rfl p1
end
theorem bI {K : PySem.W.Frag} {x qual : Str} {params : Arguments} {body : List Stmt} {scope : Scope} {kws : List (Str × V)} {f : Addr} {fd : FuncData} {ps : List Str} (F : FunD K x qual params body scope [] kws f fd)
  (h : ∀ (kV doc pm : Value) (an : Option Addr) (cdv ct : Value) (us : List Value), us.length = ps.length → bindArgs (PySem.W.fnOf x qual params body scope .none kV doc pm an cdv ct) ⟨us, []⟩ = pure (ps.zip us)) : dN K fd ps ps.length [] fun xs _ => xs := by
 refine ⟨⟨fun us _ => us, fun vs _ => vs, ⟨fun s us ws KX h1 h2 => ?_, fun r _ => r⟩, fun _ _ _ _ _ _ r _ => r⟩, fun xs zs h1 _ => h1⟩
 have e : ws = [] := List.eq_nil_of_length_eq_zero (by simpa using h2)
 subst e
 exact F.bindsA h s us h1
structure lO where
 xs : List D
 okp : W → Prop
def lO.ok (it : lO) (w : W) : Prop := it.okp w
def always : W → Prop := fun _ => True
def holds (i : Nat) (o : MO) : W → Prop := fun w => w[i]? = some o
def DE (K : PySem.W.Frag) (I : List Addr) (F : Hp) (J : It) (it : lO) : Prop :=
 ∀ I' F' G w H j, Ext I F I' F' → Rel K I' F' G w H → it.ok w →
  (∀ x, it.xs[j]? = some x → J.go j H ∧ ∀ v H', J.yld j H v H' → ∃ F2, Ext I' F' I' F2 ∧ Rel K I' F2 G w H' ∧ aG K I' F2 x v) ∧ (it.xs.length = j → J.stop j H)
abbrev MI := Sg → W → Res lO
def RI (K : PySem.W.Frag) (R : It → Hp → Prop) : List Addr → Hp → Hp → lO → W → Prop := fun I' F' H' it w' => it.ok w' → ∀ J, DE K I' F' J it → R J H'
def aLu (K : PySem.W.Frag) (E : XK) (m : MI) : TI := fun σ H R => ∃ I F G ds w, Rel K I F G w H ∧ dU K I F ds σ ∧ bC K I F G E (RI K R) (m ds w)
def JI (S : aR) (tg iter : Expr) (m : MI) : Prop := ∀ X E, Ctx S X → vV X E → PI X tg iter (aLu X.K E m)
theorem B9 {X : Cx} {tg e : Expr} {t t' : TI} (h : PI X tg e t) (k : ∀ σ H R, t' σ H R → t σ H R) : PI X tg e t' := ⟨fun pins s σ H R I q => h.run pins s σ H R I (k σ H R q)⟩
def aLt (K : PySem.W.Frag) (tl : TE) : TI := fun σ H R => tl σ H fun x H1 => ∃ a, x = .ref a ∧ (((∃ xs, SqL K H1 a xs) ∧ R (Itl K a) H1) ∨ ((∃ xs, SqT K H1 a xs) ∧ R (Itt K a) H1))
theorem aFW {X : Cx} {tg l : Expr} {tl : TE} (hl : PE X l tl) : PI X tg l (aLt X.K tl) := by
 constructor
 intro pins s σ H R J h
 apply thn (hl.run pins s σ H _ J h)
 rintro v s1 ⟨x, H1, J1, r1, a, ex, q⟩
 subst ex
 cases r1
 have fp : ∀ b ∈ [s1.heap.objs.size], FpOk X pins H1 b := fun b hb => by
  rw [bp.mp hb]
  exact J1.fpOk (az _) (J1.hok.fresh (az _))
 rcases q with ⟨⟨xs, hq⟩, q⟩ | ⟨⟨xs, hq⟩, q⟩
 ·obtain ⟨its, rv, p, hz⟩ := J1.list hq
  apply wpAny_pyIter_list p.isList
  exact ⟨s1.heap.objs.size, [s1.heap.objs.size], _, _, H1, rfl, J1.kept (t' := s1.toks) fun b o e => Heap.get?_push_of_some _ e, turn_list a _, ⟨_, Heap.get?_push_size _ rfl, rfl, rfl⟩, fp, q⟩
 ·obtain ⟨its, rv, p, hz⟩ := J1.tuple hq
  apply wpAny_pyIter_tuple (show s1.heap.IsTuple a its.toArray from p)
  exact ⟨s1.heap.objs.size, [s1.heap.objs.size], _, _, H1, rfl, J1.kept (t' := s1.toks) fun b o e => Heap.get?_push_of_some _ e, turn_tuple a _, ⟨_, Heap.get?_push_size _ rfl, rfl, rfl⟩, fp, q⟩
def iterM (d : D) (w : W) : Res lO := match d with
 | .tup xs => .ok ⟨xs, always⟩ w
 | .vU xs => .ok ⟨xs, always⟩ w
 | .lst xs => .ok ⟨xs, always⟩ w
 | .qK xs => .ok ⟨xs, always⟩ w
 | .ref i => (match w[i]? with
  | some (.lst xs) => .ok ⟨xs, holds i (.lst xs)⟩ w
  | _ => .bad)
 | _ => .bad
def cK (m : ME) : MI := fun σ w => (m σ w).bind iterM
section
variable {K : PySem.W.Frag} {I : List Addr} {F : Hp} {a : Addr} {it : lO}
theorem XS (h : ∀ I' F' G w H, Ext I F I' F' → Rel K I' F' G w H → it.ok w → ∃ vs, SqL K H a vs ∧ RepL K I' F' it.xs vs) : DE K I F (Itl K a) it := fun I' F' G w H j e rel ok => by
 obtain ⟨vs, hq, r⟩ := h I' F' G w H e rel ok
 refine ⟨fun x hx => ?_, fun hl => ⟨vs, hq, by rw [← r.length, hl]; exact az _⟩⟩
 obtain ⟨v, hv, rv⟩ := r.get hx
 refine ⟨⟨vs, v, hq, hv⟩, fun u H' y => ?_⟩
 obtain ⟨rfl, y⟩ := y
 have := y vs hq
 rw [hv] at this; cases this
 exact ⟨F', .refl, rel, rv⟩
theorem aCH (h : ∀ I' F' G w H, Ext I F I' F' → Rel K I' F' G w H → it.ok w → ∃ vs, SqT K H a vs ∧ RepL K I' F' it.xs vs) : DE K I F (Itt K a) it := fun I' F' G w H j e rel ok => by
 obtain ⟨vs, hq, r⟩ := h I' F' G w H e rel ok
 refine ⟨fun x hx => ?_, fun hl => ⟨vs, hq, by rw [← r.length, hl]; exact az _⟩⟩
 obtain ⟨v, hv, rv⟩ := r.get hx
 refine ⟨⟨vs, v, hq, hv⟩, fun u H' y => ?_⟩
 obtain ⟨rfl, y⟩ := y
 have := y vs hq
 rw [hv] at this; cases this
 exact ⟨F', .refl, rel, rv⟩
theorem aHY {lo : Int} {n : Nat} (hx : it.xs = (List.range n).map fun k : Nat => D.int (lo + (k : Int))) : DE K I F (Itr lo n) it := fun I' F' G w H j e rel ok => by
 refine ⟨fun x h => ?_, fun hl => ?_⟩
 ·rw [hx, da] at h
  by_cases hj : j < n
  ·rw [List.getElem?_range hj] at h
   cases h
   refine ⟨hj, fun v H' y => ?_⟩
   obtain ⟨rfl, rfl⟩ := y
   exact ⟨F', .refl, rel, by simp [aG]⟩
  ·rw [List.getElem?_eq_none (by simpa using hj)] at h; cases h
 ·rw [hx] at hl
  simp at hl
  show n ≤ j
  omega
end
section
variable {S : aR} {pos p : Pos} {tg l e e2 : Expr} {m : ME} {ma : MA} {x : Str}
theorem fB (hl : JE S l m) : JI S tg l (cK m) := fun X E cx xo =>
 B9 (aFW (hl X E cx xo)) fun σ H R ⟨I, F, G, ds, w, rel, rs, p⟩ => cF (f := fun _ => iterM) rel rs p fun I1 F1 H1 d w1 v e1 rel1 rs1 rv p1 => by
  cases d <;> first | exact p1.elim | skip
  case tup xs =>
   simp only [aG] at rv
   obtain ⟨a, vs, rfl, h1, h2⟩ := rv
   exact ⟨a, rfl, .inr ⟨⟨vs, .of (rel1.fz _ _ h1)⟩, p1 I1 F1 H1 .refl rel1 trivial _ (aCH fun I' F' G w H e rel ok => ⟨vs, .of (rel.fz _ _ (e.f _ _ h1)), RepL.ext e _ _ h2⟩)⟩⟩
  case vU xs =>
   simp only [aG] at rv
   obtain ⟨a, vs, rfl, h1, h2⟩ := rv
   exact ⟨a, rfl, .inr ⟨⟨vs, rel1.VB h1⟩, p1 I1 F1 H1 .refl rel1 trivial _ (aCH fun I' F' G w H e rel ok => ⟨vs, rel.VB (HM e h1), RepL.ext e _ _ h2⟩)⟩⟩
  case lst xs =>
   simp only [aG] at rv
   obtain ⟨a, vs, rfl, h1, h2⟩ := rv
   exact ⟨a, rfl, .inl ⟨⟨vs, .of (rel1.fz _ _ h1)⟩, p1 I1 F1 H1 .refl rel1 trivial _ (XS fun I' F' G w H e rel ok => ⟨vs, .of (rel.fz _ _ (e.f _ _ h1)), RepL.ext e _ _ h2⟩)⟩⟩
  case qK xs =>
   simp only [aG] at rv
   obtain ⟨a, vs, rfl, h1, h2⟩ := rv
   exact ⟨a, rfl, .inl ⟨⟨vs, rel1.sqL h1⟩, p1 I1 F1 H1 .refl rel1 trivial _ (XS fun I' F' G w H e rel ok => ⟨vs, rel.sqL (aBg e h1), RepL.ext e _ _ h2⟩)⟩⟩
  case ref i =>
   simp only [aG] at rv
   obtain ⟨a, rfl, h1⟩ := rv
   simp only [iterM] at p1
   split at p1
   ·rename_i xs hw
    obtain ⟨u, hu, vs, rfl, h2⟩ := rel1.ob i a _ h1 hw
    refine ⟨a, rfl, .inl ⟨⟨vs, .of hu⟩, p1 I1 F1 H1 .refl rel1 hw _ (XS fun I' F' G w H e rel ok => ?_)⟩⟩
    obtain ⟨u', hu', vs', rfl, h2'⟩ := rel.ob i a _ (e.get h1) ok
    exact ⟨vs', .of hu', h2'⟩
   ·exact p1.elim
def fW (lo : Int) (n : Nat) : lO := ⟨(List.range n).map fun k : Nat => D.int (lo + (k : Int)), always⟩
def iO (ds : List D) (w : W) : Res lO := match ds with
 | [.int n] => if -(2 ^ 62) ≤ n ∧ n < 2 ^ 62 then .ok (fW 0 n.toNat) w else .bad
 | _ => .bad
def dB (f : List D → W → Res lO) (ma : MA) : MI := fun σ w => (ma σ w).bind f
theorem j3 (hg : S.sc.names.lookup ("range" : Str) = some .globalImplicit) (hm : S.mg "range" = none) (ha : JA S [e] ma) (hs : ∀ env : Env, starEach [e] env = [(false, eval e env)] := by intro _; rfl) : JI S tg (.Call (.Name "range" p) [e] [] pos) (dB iO ma) := fun X E cx xo =>
 B9 (pi_range1 (by show X.env.scope.names.lookup _ = _; rw [cx.sc]; exact hg) (by rw [cx.mg]; exact hm) (ha X E cx xo) (hs X.env)) fun σ H R ⟨I, F, G, ds, w, rel, rs, p⟩ => gO (f := fun _ => iO) rel rs p fun I1 F1 H1 xs w1 vs e1 rel1 rs1 rv p1 => by
  unfold iO at p1
  split at p1
  ·rename_i n
   split at p1
   ·rename_i hn
    simp only [RepL, aG] at rv
    obtain ⟨v, r, rfl, rfl, rfl⟩ := rv
    exact ⟨n, rfl, hn.1, hn.2, p1 I1 F1 H1 .refl rel1 trivial _ (aHY rfl)⟩
   ·exact p1.elim
  ·exact p1.elim
end
open Classical in
def forL (it : lO) (g : MG) (body : MS) : List D → Sg → W → Res Fl
 | [], σ, w => if it.ok w then .ok (.nx σ) w else .bad
 | x :: xs, σ, w => if it.ok w then (g x σ w).bind fun σ1 w1 => (body σ1 w1).bind fun f w2 => match f with
   | .nx s => forL it g body xs s w2
   | .ct s => forL it g body xs s w2
   | .bk s => .ok (.nx s) w2
   | .rt d => .ok (.rt d) w2
  else .bad
def g9 (m : MI) (g : MG) (body : MS) : MS := fun σ w => (m σ w).bind fun it w1 => forL it g body it.xs σ w1
section
variable {S : aR} {pos : Pos} {tg iter : Expr} {body : List Stmt} {m : MI} {g : MG} {b : MS}
theorem LS (hi : JI S tg iter m) (hg : JG S tg g) (hb : sH S body b) (hs : ∀ (env : Env) x, foldedSetIterable iter env x = pure x := by intro _ _; rfl) : JS S (.For tg iter body [] pos) (g9 m g b) := fun X E cx xo =>
 mK (ps_for xo.own cx.calm (hi X E cx xo) (hg X E cx xo) (hb X E cx xo) (hs X.env)) fun Z σ H ⟨I, F, G, ds, w, rel, rs, p⟩ => by
  refine ⟨I, F, G, ds, w, rel, rs, (bC.bind p).mono fun I1 F1 H1 it w1 _ e1 rel1 p1 hok J hJ => ?_⟩
  refine ⟨fun i n σ' H' => n = it.xs.length - i ∧ i ≤ it.xs.length ∧ ∃ I' F' ds' w', Ext I1 F1 I' F' ∧ Rel X.K I' F' G w' H' ∧ dU X.K I' F' ds' σ' ∧ bC X.K I' F' G E (RFl X.K Z) (forL it g b (it.xs.drop i) ds' w'),
   ⟨it.xs.length, by simp, Nat.zero_le _, I1, F1, ds, w1, .refl, rel1, rs.ext e1, p1⟩, ?_⟩
  rintro i n σ' H' ⟨rfl, hi, I', F', ds', w', e', rel', rs', p'⟩
  by_cases hlt : i < it.xs.length
  ·rw [List.drop_eq_getElem_cons hlt] at p'
   unfold forL at p'
   split at p'
   ·rename_i hw
    obtain ⟨h1, _⟩ := hJ I' F' G w' H' i e' rel' hw
    obtain ⟨hgo, hy⟩ := h1 _ (bo hlt)
    refine .inr ⟨hgo, fun σ2 H2 => ∃ I2 F2 ds2 w2, Ext I1 F1 I2 F2 ∧ Rel X.K I2 F2 G w2 H2 ∧ dU X.K I2 F2 ds2 σ2 ∧ bC X.K I2 F2 G E (RFl X.K Z) (forL it g b (it.xs.drop (i + 1)) ds2 w2), fun σ2 H2 q => ⟨it.xs.length - (i + 1), by omega, rfl, hlt, q⟩, fun v H2 y => ?_⟩
    obtain ⟨F2, e2, rel2, rv⟩ := hy v H2 y
    refine ⟨I', F2, G, _, ds', w', rel2, rs'.ext e2, rv, (bC.bind (p'.ext e2)).mono fun I3 F3 H3 s3 w3 _ e3 rel3 p3 σ3 rs3 => ?_⟩
    refine ⟨I3, F3, G, s3, w3, rel3, rs3, (bC.bind p3).mono fun I4 F4 H4 f w4 _ e4 rel4 p4 => ?_⟩
    have ee : Ext I1 F1 I4 F4 := ((e'.trans e2).trans e3).trans e4
    cases f with
    | nx s => exact fun s' rs4 => ⟨I4, F4, s, w4, ee, rel4, rs4, p4⟩
    | ct s => exact fun s' rs4 => ⟨I4, F4, s, w4, ee, rel4, rs4, p4⟩
    | bk s => exact fun s' rs4 => p4 I4 F4 H4 .refl rel4 s' rs4
    | rt d => exact fun v rv => p4 I4 F4 H4 .refl rel4 v rv
   ·exact p'.elim
  ·have hl : i = it.xs.length := by omega
   subst hl
   rw [List.drop_length] at p'
   unfold forL at p'
   split at p'
   ·rename_i hw
    exact .inl ⟨(hJ I' F' G w' H' _ e' rel' hw).2 rfl, p' I' F' H' .refl rel' σ' rs'⟩
   ·exact p'.elim
end
def Res.noX {α : Type} (r : Res α) : Res α := match r with
 | .zC _ _ => .bad
 | r => r
@[simp] theorem Res.aMh {α : Type} (a : α) (w : W) : (Res.ok a w).noX = .ok a w := rfl
@[simp] theorem Res.aL5 {α : Type} (x : XD) (w : W) : (Res.zC x w : Res α).noX = .bad := rfl
@[simp] theorem Res.aLZ {α : Type} : (Res.bad : Res α).noX = .bad := rfl
abbrev E0 : XK := fun _ _ _ => False
theorem bC.vB {α β : Type} {K : PySem.W.Frag} {I : List Addr} {F G : Hp} {E : XK} {r : Res α} {f : α → W → Res β} {R2 : List Addr → Hp → Hp → β → W → Prop} (h : bC K I F G E R2 (r.noX.bind f)) :
  bC K I F G E0 (fun I' F' _ a w => bC K I' F' G E R2 (f a w)) r := by
 cases r with
 | ok a w => exact fun I' F' H' e' q => bC.ext (K := K) (R := R2) h e'
 | zC x w => exact h.elim
 | bad => exact h
theorem Rel.keep {K : PySem.W.Frag} {I : List Addr} {F G H : Hp} {w : W} (rel : Rel K I F G w H) {q : Addr} {u : HO} (hq : H q = none) (hu : ∀ xs, u ≠ .tup xs := by intro _ h; cases h) : Rel K I F (upd G q u) w (upd H q u) := by
 have hI : q ∉ I := fun z => by
  obtain ⟨i, hi⟩ := List.mem_iff_getElem?.mp z
  have hl : i < w.length := by rw [← rel.len]; exact (ar.mp hi).1
  obtain ⟨u, h3, _⟩ := rel.ob i q _ hi (bo hl)
  rw [h3] at hq; cases hq
 have hF : F q = none := by
  cases h : F q with
  | none => rfl
  | some u => rw [rel.fz _ _ h] at hq; cases hq
 refine ⟨rel.len, rel.nd, fun i a o h1 h2 => ?_, fun a u' h => ?_, rel.ap, fun a u' h => ?_, fun a u' h => ?_, fun a xs h => ?_⟩
 ·obtain ⟨u', h3, h4⟩ := rel.ob i a o h1 h2
  exact ⟨u', by rw [upd_ne (ne_of_none h3 hq)]; exact h3, h4⟩
 ·rw [upd_ne (ne_of_none h hF)]; exact rel.fz a u' h
 ·by_cases ha : a = q
  ·subst ha; rw [upd_same] at h ⊢; exact h
  ·rw [upd_ne ha] at h ⊢; exact rel.gz a u' h
 ·by_cases ha : a = q
  ·subst ha; exact ⟨hF, hI⟩
  ·rw [upd_ne ha] at h; exact rel.gf a u' h
 ·by_cases ha : a = q
  ·subst ha; rw [upd_same] at h; exact hu xs (Option.some.inj h)
  ·rw [upd_ne ha] at h; exact rel.gt a xs h
theorem Rel.aDF {K : PySem.W.Frag} {I : List Addr} {F G H : Hp} {w : W} {q : Addr} {u u' : HO} (rel : Rel K I F (upd G q u) w H) (hu : ∀ xs, u' ≠ .tup xs := by intro _ h; cases h) : Rel K I F (upd G q u') w (upd H q u') := by
 obtain ⟨hF, hI⟩ := rel.gf q u upd_same
 refine ⟨rel.len, rel.nd, fun i a o h1 h2 => ?_, fun a v h => ?_, rel.ap, fun a v h => ?_, fun a v h => ?_, fun a xs h => ?_⟩
 ·obtain ⟨v, h3, h4⟩ := rel.ob i a o h1 h2
  have ha : a ≠ q := fun z => hI (by rw [← z]; exact cq h1)
  exact ⟨v, by rw [upd_ne ha]; exact h3, h4⟩
 ·rw [upd_ne (ne_of_none h hF)]; exact rel.fz a v h
 ·by_cases ha : a = q
  ·subst ha; rw [upd_same] at h ⊢; exact h
  ·rw [upd_ne ha] at h ⊢; exact rel.gz a v (by rw [upd_ne ha]; exact h)
 ·by_cases ha : a = q
  ·subst ha; exact ⟨hF, hI⟩
  ·rw [upd_ne ha] at h; exact rel.gf a v (by rw [upd_ne ha]; exact h)
 ·by_cases ha : a = q
  ·subst ha; rw [upd_same] at h; exact hu xs (Option.some.inj h)
  ·rw [upd_ne ha] at h; exact rel.gt a xs (by rw [upd_ne ha]; exact h)
theorem Rel.aHP {K : PySem.W.Frag} {I : List Addr} {F G H : Hp} {w : W} {q : Addr} {u : HO} (rel : Rel K I F (upd G q u) w H) (hG : G q = none) : Ext I F I (upd F q u) ∧ Rel K I (upd F q u) G w H := by
 obtain ⟨hF, hI⟩ := rel.gf q u upd_same
 have e : Ext I F I (upd F q u) := ⟨List.prefix_refl _, fun a v h => by rw [upd_ne (ne_of_none h hF)]; exact h⟩
 refine ⟨e, rel.len, rel.nd, fun i a o h1 h2 => ?_, fun a v h => ?_, fun i a o h h0 hf => ?_, fun a v h => ?_, fun a v h => ?_, fun a xs h => rel.gt a xs (by rw [upd_ne (ne_of_none h hG)]; exact h)⟩
 ·obtain ⟨v, h3, h4⟩ := rel.ob i a o h1 h2
  exact ⟨v, h3, qL.ext e h4⟩
 ·by_cases ha : a = q
  ·subst ha; rw [upd_same] at h; cases h; exact rel.gz a u upd_same
  ·rw [upd_ne ha] at h; exact rel.fz a v h
 ·have ha : a ≠ q := fun z => hI (by rw [← z]; exact cq h)
  rw [upd_ne ha]; exact rel.ap i a o h h0 hf
 ·have ha : a ≠ q := ne_of_none h hG
  exact rel.gz a v (by rw [upd_ne ha]; exact h)
 ·have ha : a ≠ q := ne_of_none h hG
  rw [upd_ne ha]
  exact rel.gf a v (by rw [upd_ne ha]; exact h)
theorem Rel.owned {K : PySem.W.Frag} {I : List Addr} {F G H : Hp} {w : W} {q : Addr} {u : HO} {o : MO} (rel : Rel K I F (upd G q u) w H) (hG : G q = none) (r : qL K I F o u) : Ext I F (I ++ [q]) F ∧ Rel K (I ++ [q]) F G (w ++ [o]) H := by
 obtain ⟨hF, hI⟩ := rel.gf q u upd_same
 have e : Ext I F (I ++ [q]) F := ⟨List.prefix_append _ _, fun _ _ h => h⟩
 refine ⟨e, by simp [rel.len], ?_, fun i a o' h1 h2 => ?_, rel.fz, fun i a o' h h0 hf => ?_, fun a v h => ?_, fun a v h => ?_, fun a xs h => rel.gt a xs (by rw [upd_ne (ne_of_none h hG)]; exact h)⟩
 ·rw [List.nodup_append]
  exact ⟨rel.nd, by simp, fun a ha b hb => by simp at hb; subst hb; exact fun z => hI (z ▸ ha)⟩
 ·by_cases hi : i < I.length
  ·rw [bj hi] at h1
   rw [bj (by rw [← rel.len]; exact hi)] at h2
   obtain ⟨v, h3, h4⟩ := rel.ob i a o' h1 h2
   exact ⟨v, h3, qL.ext e h4⟩
  ·have hi2 : i = I.length := by
    have := (ar.mp h1).1
    simp at this; omega
   subst hi2
   rw [cy (az _)] at h1
   simp at h1
   rw [rel.len, cy (az _)] at h2
   simp at h2
   subst h1 h2
   exact ⟨u, rel.gz _ _ upd_same, qL.ext e r⟩
 ·by_cases hi : i < I.length
  ·rw [bj hi] at h
   rw [bj (by rw [← rel.len]; exact hi)] at h0
   exact rel.ap i a o' h h0 hf
  ·have hi2 : i = I.length := by
    have := (ar.mp h).1
    simp at this; omega
   subst hi2
   rw [cy (az _)] at h
   simp at h
   subst h; exact hF
 ·have ha : a ≠ q := ne_of_none h hG
  exact rel.gz a v (by rw [upd_ne ha]; exact h)
 ·have ha : a ≠ q := ne_of_none h hG
  have := rel.gf a v (by rw [upd_ne ha]; exact h)
  refine ⟨this.1, fun z => ?_⟩
  rcases bh.mp z with z | z
  ·exact this.2 z
  ·simp at z; exact ha z
def cQ (σ : Sg) : List Nat → Sg
 | [] => σ
 | v :: vs => (cQ σ vs).set v none
theorem dU.wipe {K : PySem.W.Frag} {I : List Addr} {F : Hp} {ds : Sg} {s : L2.St} (h : dU K I F ds s) : ∀ vs : List Nat, dU K I F (cQ ds vs) (L2.wipe s vs)
 | [] => h
 | v :: vs => (h.wipe vs).unset v none
theorem KP {s : L2.St} {i : Nat} {x : Option V} : ∀ {vs : List Nat}, i ∈ vs → L2.wipe (s.set i x) vs = L2.wipe s vs
 | [], h => by cases h
 | v :: vs, h => by
  show (L2.wipe (s.set i x) vs).set v none = (L2.wipe s vs).set v none
  by_cases hi : i ∈ vs
  ·rw [KP hi]
  ·have hv : i = v := by
    rcases ay.mp h with e | e
    ·exact e
    ·exact absurd e hi
   subst hv
   have key : ∀ ws : List Nat, i ∉ ws → L2.wipe (s.set i x) ws = (L2.wipe s ws).set i x := by
    intro ws
    induction ws with
    | nil => intro _; rfl
    | cons b bs ih =>
     intro hn
     show (L2.wipe (s.set i x) bs).set b none = ((L2.wipe s bs).set b none).set i x
     rw [ih (fun z => hn (bc _ z))]
     rw [List.set_comm _ _ (fun z => hn (by rw [z]; exact aw ..))]
   rw [key vs hi, List.set_set]
theorem aCm {s : L2.St} : ∀ {vs : List Nat}, L2.wipe (L2.wipe s vs) vs = L2.wipe s vs := by
 intro vs
 have key : ∀ ws : List Nat, (∀ v ∈ ws, v ∈ vs) → L2.wipe (L2.wipe s ws) vs = L2.wipe s vs := by
  intro ws
  induction ws with
  | nil => intro _; rfl
  | cons b bs ih =>
   intro h
   show L2.wipe ((L2.wipe s bs).set b none) vs = _
   rw [KP (h b (aw ..)), ih fun v hv => h v (bc _ hv)]
 exact key vs fun _ h => h
def RSw (K : PySem.W.Frag) (vs : List Nat) (σ : L2.St) (Q : L2.St → Hp → Prop) : List Addr → Hp → Hp → Sg → W → Prop := fun I' F' H' s _ => ∀ s', dU K I' F' s s' → L2.wipe s' vs = L2.wipe σ vs → Q s' H'
def aK1 (K : PySem.W.Frag) (E : XK) (vs : List Nat) (g : MG) : TG := fun v σ H Q => ∃ I F G d ds w, Rel K I F G w H ∧ dU K I F ds σ ∧ aG K I F d v ∧ bC K I F G E (RSw K vs σ Q) (g d ds w)
def aLL (K : PySem.W.Frag) (E : XK) (vs : List Nat) (g : TZ) : TGs := fun v σ H Q => ∃ I F G d ds w, Rel K I F G w H ∧ dU K I F ds σ ∧ RepL K I F d v ∧ bC K I F G E (RSw K vs σ Q) (g d ds w)
def JC (S : aR) (vs : List Nat) (t : Expr) (g : MG) : Prop := ∀ X E, Ctx S X → vV X E → PG X t (aK1 X.K E vs g)
def JCs (S : aR) (vs : List Nat) (t : List Expr) (g : TZ) : Prop := ∀ X E, Ctx S X → vV X E → PGs X t (aLL X.K E vs g)
section
variable {S : aR} {pos : Pos} {vs : List Nat} {e : Expr} {es : List Expr} {g : MG} {r : TZ}
theorem aGy {i : Nat} {x : Str} (hi : S.N[i]? = some x) (hx : Sto S x) (hv : i ∈ vs) : JC S vs (.Name x pos) (aQ i) := fun X E cx xo =>
 uV (pg_name (i := i) (x := x) cx.nd (by rw [cx.N]; exact hi) (by rw [cx.sc]; exact hx.1) (by rw [cx.sc]; exact hx.2.imp (cx.fn x) id)) fun v σ H Q ⟨I, F, G, d, ds, w, rel, rs, rv, p⟩ => p I F H .refl rel _ (rs.set i rv) (KP hv)
theorem aGe : JCs S vs [] bO := fun X E cx xo => xR pgs_nil fun v σ H Q ⟨I, F, G, xs, ds, w, rel, rs, rv, p⟩ => by
 cases xs with
 | nil =>
  simp only [RepL] at rv
  exact ⟨rv, p I F H .refl rel _ rs rfl⟩
 | cons => exact p.elim
theorem UQ (h1 : JC S vs e g) (h2 : JCs S vs es r) (hs : ∀ env : Env, (assignEach (e :: es) env).map (·.2) = assign e env :: (assignEach es env).map (·.2) := by intro _; rfl) : JCs S vs (e :: es) (aI g r) := fun X E cx xo =>
 xR (pgs_cons (h1 X E cx xo) (h2 X E cx xo) (hs X.env)) fun v σ H Q ⟨I, F, G, xs, ds, w, rel, rs, rv, p⟩ => by
  cases xs with
  | nil => exact p.elim
  | cons x xs =>
   simp only [RepL] at rv
   obtain ⟨v, t, rfl, rv1, rvs⟩ := rv
   refine ⟨v, t, rfl, I, F, G, x, ds, w, rel, rs, rv1, (bC.bind p).mono fun I1 F1 H1 s w1 _ e1 rel1 p1 s' rs1 ew => ⟨I1, F1, G, xs, s, w1, rel1, rs1, RepL.ext e1 _ _ rvs, p1.mono fun I2 F2 H2 s2 w2 _ e2 rel2 p2 s3 rs3 ew3 => p2 s3 rs3 (ew3.trans ew)⟩⟩
theorem aJX {k n : Nat} (h : JCs S vs es r) (hn : ∀ env : Env, (assignEach es env).length = n := by intro _; rfl) (hst : ∀ env : Env, (assignEach es env).findIdx? (·.1) = none := by intro _; rfl) : JC S vs (.Tuple es k pos) (bV n r) := fun X E cx xo =>
 uV (pg_tup cx.calm (h X E cx xo) (hn X.env) (hst X.env)) fun v σ H Q ⟨I, F, G, d, ds, w, rel, rs, rv, p⟩ => by
  cases d <;> first | exact p.elim | skip
  all_goals
   rename_i xs
   simp only [aG] at rv
   obtain ⟨a, us, rfl, h1, h2⟩ := rv
   simp only [bV] at p
   split at p
   ·rename_i hl
    exact ⟨a, us, rfl, (by first | exact .of (rel.fz _ _ h1) | exact rel.VB h1), by rw [← h2.length]; exact hl, I, F, G, xs, ds, w, rel, rs, h2, p⟩
   ·exact p.elim
end
open Classical in
def jD (it : lO) (vs : List Nat) (g : MG) (t : MT) (e : ME) : List D → Sg → W → Res (List D)
 | [], σ, w => if it.ok w then .ok [] w else .bad
 | x :: xs, σ, w => if it.ok w then (g x (cQ σ vs) w).noX.bind fun σ1 w1 => (t σ1 w1).noX.bind fun b w2 =>
   if b = true then (e σ1 w2).noX.bind fun y w3 => (jD it vs g t e xs σ w3).bind fun ys w4 => .ok (y :: ys) w4 else jD it vs g t e xs σ w2
  else .bad
def aAT (m : MI) (vs : List Nat) (g : MG) (t : MT) (e : ME) : MA := fun σ w => (m σ w).bind fun it w1 => if it.xs.length ≤ sizeLine then jD it vs g t e it.xs σ w1 else .bad
def a8 (m : MI) (vs : List Nat) (g : MG) (t : MT) (e : ME) : ME := fun σ w => (aAT m vs g t e σ w).bind fun ys w1 => .ok (.lst ys) w1
def Z3 (m : MI) (vs : List Nat) (g : MG) (t : MT) (e : ME) : ME := fun σ w => (aAT m vs g t e σ w).bind fun ys w1 => .ok (.ref w1.length) (w1 ++ [.lst ys])
def JTs (S : aR) (ifs : List Expr) (t : MT) : Prop := ∀ X E, Ctx S X → vV X E → PTs X ifs (aCw X.K E t)
def bA : MT := fun _ w => .ok true w
abbrev aR.blk (S : aR) (scope : Scope) : aR := { S with sc := relS scope S.sc, fn := fun x => scope.names.lookup x == some .cell }
theorem yF {S : aR} {X : Cx} (c : Ctx S X) (s : Shared) (H : Hp) (scope : Scope) (C : Addr) (cl : List (Str × Addr)) (fp : List Addr) : Ctx (S.blk scope) (X.blk s H scope (compEnvC scope cl C X.env) fp) :=
 ⟨c.P, c.w, c.K, c.mg, c.base, c.N, by show relS scope X.env.scope = relS scope S.sc; rw [c.sc], fun _ h => h, c.calm, c.room, c.gds, c.nd⟩
theorem yR {X : Cx} (s : Shared) (H : Hp) (scope : Scope) (cenv : Env) (fp : List Addr) : vV (X.blk s H scope cenv fp) E0 :=
 ⟨fun _ _ ⟨_, _, _, _, _, _, _, _, _, _, _, _, _, _, _, _, h⟩ => h.elim, PassesOwn.never⟩
section
variable {S : aR} {pos : Pos} {elt tg iter c : Expr} {ifs : List Expr} {scope : Scope} {own : List (Str × Nat)} {mi : MI} {g : MG} {t : MT} {me : ME}
theorem cM : JTs S [] bA := fun X E cx xo => ⟨fun pins s σ H Q J ⟨I, F, G, ds, w, rel, rs, p⟩ => pts_nil.run pins s σ H Q J (p I F H .refl rel)⟩
theorem aAR (h : JT S c t) : JTs S [c] t := fun X E cx xo => pts_one (h X E cx xo)
theorem UL {K : PySem.W.Frag} {E : XK} {vs : List Nat} {f : List D → W → Res D} {σ : L2.St} {H : Hp} {Q : VK} (h : y9 K E (fun σ w => (aAT mi vs g t me σ w).bind f) σ H Q)
  (fin : ∀ I F G w H q xs us, Rel K I F (upd G q (.lst us)) w H → G q = none → RepL K I F xs us → bC K I F G E (RV K Q) (f xs w) → Q (.ref q) H) :
  tLc (aLu K E mi) (aK1 K E0 vs g) (aCw K E0 t) (y9 K E0 me) vs σ H Q := by
 obtain ⟨I, F, G, ds, w, rel, rs, p⟩ := h
 have p0 : bC K I F G E (RV K Q) ((mi ds w).bind fun it w1 => (if it.xs.length ≤ sizeLine then jD it vs g t me it.xs ds w1 else .bad).bind f) := by
  rw [← Res.bind_assoc]; exact p
 refine ⟨I, F, G, ds, w, rel, rs, (bC.bind p0).mono fun I1 F1 H1 it w1 _ e1 rel1 p1 hok J hJ q hq => ?_⟩
 have hG : G q = none := by
  cases h : G q with
  | none => rfl
  | some u => rw [rel1.gz _ _ h] at hq; cases hq
 split at p1
 ·rename_i hz
  refine ⟨fun i n H' => n = it.xs.length - i ∧ i ≤ it.xs.length ∧ ∃ I' F' w' xs us, Ext I1 F1 I' F' ∧ Rel K I' F' (upd G q (.lst us)) w' H' ∧ RepL K I' F' xs us ∧ xs.length ≤ i ∧
    bC K I' F' G E (RV K Q) ((jD it vs g t me (it.xs.drop i) ds w').bind fun ys w2 => f (xs ++ ys) w2),
   ⟨it.xs.length, by simp, Nat.zero_le _, I1, F1, w1, [], [], .refl, rel1.keep hq, by simp [RepL], az _, by simpa using p1⟩, ?_⟩
  rintro i n H' ⟨rfl, hi, I', F', w', xs, us, e', rel', rx, hxi, p'⟩
  by_cases hlt : i < it.xs.length
  ·rw [List.drop_eq_getElem_cons hlt] at p'
   unfold jD at p'
   split at p'
   ·rename_i hw
    obtain ⟨h1, _⟩ := hJ I' F' _ w' H' i e' rel' hw
    obtain ⟨hgo, hy⟩ := h1 _ (bo hlt)
    refine .inr ⟨hgo, fun H2 => ∃ I2 F2 w2 xs2 us2, Ext I1 F1 I2 F2 ∧ Rel K I2 F2 (upd G q (.lst us2)) w2 H2 ∧ RepL K I2 F2 xs2 us2 ∧ xs2.length ≤ i + 1 ∧ bC K I2 F2 G E (RV K Q) ((jD it vs g t me (it.xs.drop (i + 1)) ds w2).bind fun ys w2 => f (xs2 ++ ys) w2),
     fun H2 q => ⟨it.xs.length - (i + 1), by omega, rfl, hlt, q⟩, fun v H2 y => ?_⟩
    obtain ⟨F2, e2, rel2, rv⟩ := hy v H2 y
    have p2 := p'.ext e2
    rw [Res.bind_assoc] at p2
    -- from here on the list at q lies still
    have still : ∀ {α : Type} {R : List Addr → Hp → Hp → α → W → Prop} {r : Res α} {I3 : List Addr} {F3 : Hp}, bC K I3 F3 G E0 R r → bC K I3 F3 (upd G q (.lst us)) E0 (fun I' F' H' a w => Rel K I' F' (upd G q (.lst us)) w H' ∧ ∀ H'', Rel K I' F' G w H'' → R I' F' H'' a w) r := by
     intro α R r I3 F3 hp
     cases r with
     | ok a w => exact fun I' F' H' e q => ⟨q, fun H'' q' => hp I' F' H'' e q'⟩
     | zC x w =>
      intro I' F' H' c d e q rx
      exact hp I' F' H' c d e ⟨q.len, q.nd, q.ob, q.fz, q.ap, fun a u h => q.gz a u (by rw [upd_ne (ne_of_none h hG)]; exact h), fun a u h => q.gf a u (by rw [upd_ne (ne_of_none h hG)]; exact h), fun a xs h => q.gt a xs (by rw [upd_ne (ne_of_none h hG)]; exact h)⟩ rx
     | bad => exact hp
    have less : ∀ {I3 : List Addr} {F3 : Hp} {w3 : W} {H3 : Hp}, Rel K I3 F3 (upd G q (.lst us)) w3 H3 → Rel K I3 F3 G w3 H3 := fun {I3 F3 w3 H3} q => ⟨q.len, q.nd, q.ob, q.fz, q.ap, fun a u h => q.gz a u (by rw [upd_ne (ne_of_none h hG)]; exact h), fun a u h => q.gf a u (by rw [upd_ne (ne_of_none h hG)]; exact h), fun a xs h => q.gt a xs (by rw [upd_ne (ne_of_none h hG)]; exact h)⟩
    refine ⟨I', F2, upd G q (.lst us), _, cQ ds vs, w', rel2, (((rs.ext e1).ext e').ext e2).wipe vs, rv, (still (bC.vB p2)).mono fun I3 F3 H3 s3 w3 _ e3 rel3 p3 σ3 rs3 ew => ⟨ew.trans aCm, ?_⟩⟩
    have p3' := p3.2 H3 (less rel3)
    rw [Res.bind_assoc] at p3'
    refine ⟨I3, F3, upd G q (.lst us), s3, w3, rel3, rs3, (still (bC.vB p3')).mono fun I4 F4 H4 b w4 _ e4 rel4 p4 => ?_⟩
    have p4' := p4.2 H4 (less rel4)
    cases b with
    | true =>
     simp only [af] at p4' ⊢
     rw [Res.bind_assoc] at p4'
     refine ⟨I4, F4, upd G q (.lst us), s3, w4, rel4, rs3.ext e4, (still (bC.vB p4')).mono fun I5 F5 H5 y w5 _ e5 rel5 p5 u ru => ?_⟩
     have p5' := p5.2 H5 (less rel5)
     rw [Res.bind_assoc] at p5'
     have ee : Ext I' F' I5 F5 := ((e2.trans e3).trans e4).trans e5
     refine ⟨us, rel5.gz _ _ upd_same, by rw [← rx.length]; omega, I5, F5, w5, xs ++ [y], us ++ [u], e'.trans ee, rel5.aDF, (RepL.ext ee _ _ rx).append (RepL.cons ru (by simp [RepL])), by simp; omega, ?_⟩
     simpa using p5'
    | false =>
     simp only [dc, ae] at p4' ⊢
     exact ⟨I4, F4, w4, xs, us, (e'.trans e2).trans (e3.trans e4), rel4, RepL.ext ((e2.trans e3).trans e4) _ _ rx, by omega, p4'⟩
   ·exact p'.elim
  ·have hl : i = it.xs.length := by omega
   subst hl
   rw [List.drop_length] at p'
   unfold jD at p'
   split at p'
   ·rename_i hw
    refine .inl ⟨(hJ I' F' _ w' H' _ e' rel' hw).2 rfl, fin I' F' G w' H' q xs us rel' hG rx ?_⟩
    simpa using p'
   ·exact p'.elim
 ·exact p1.elim
theorem aBr {K : PySem.W.Frag} {E : XK} {Q : VK} (I : List Addr) (F G : Hp) (w : W) (H : Hp) (q : Addr) (xs : List D) (us : List V) (rel : Rel K I F (upd G q (.lst us)) w H) (hG : G q = none) (rx : RepL K I F xs us)
  (p : bC K I F G E (RV K Q) (.ok (.lst xs) w)) : Q (.ref q) H := by
 obtain ⟨e, rel2⟩ := rel.aHP hG
 exact p _ _ H e rel2 _ (by simp only [aG]; exact ⟨q, us, rfl, upd_same, RepL.ext e _ _ rx⟩)
theorem dA (hi : JI S tg iter mi) (hb : blkC S.N S.sc scope own = true) (hg : JC (S.blk scope) (own.map (·.2)) tg g) (ht : JTs (S.blk scope) ifs t) (he : JE (S.blk scope) elt me)
  (hs : ∀ (env : Env) x, foldedSetIterable iter env x = pure x := by intro _ _; rfl) : JE S (.ListComp elt [⟨tg, iter, ifs, 0⟩] scope pos) (a8 mi (own.map (·.2)) g t me) := fun X E cx xo =>
 cC (pe_lc (own := own) cx.calm cx.nd (hi X E cx xo) (blkOk_by (by rw [cx.N, cx.sc]; exact hb)) (fun s H C cl fp => hg _ E0 (yF cx s H scope C cl fp) (yR ..)) (fun s H C cl fp => ht _ E0 (yF cx s H scope C cl fp) (yR ..))
  (fun s H C cl fp => he _ E0 (yF cx s H scope C cl fp) (yR ..)) (hs X.env)) fun σ H Q h => UL h aBr
theorem ZF {i : Nat} {y : Str} {py spos : Pos} (hy : S.N[i]? = some y) (hyl : S.sc.names.lookup y = some .local) (hsw : ∀ env : Env, env.scope = S.sc → env.scope.kind = .function → swapsWith (.ListComp elt [⟨tg, iter, ifs, 0⟩] scope pos) (some (.Name y py)) spos.line env = pure true)
  (hi : JI S tg iter mi) (hb : blkC S.N S.sc scope own = true) (hg : JC (S.blk scope) (own.map (·.2)) tg g) (ht : JTs (S.blk scope) ifs t) (he : JE (S.blk scope) elt me)
  (hk : S.sc.kind = .function) (hs : ∀ (env : Env) x, foldedSetIterable iter env x = pure x := by intro _ _; rfl) : JS S (.Assign [.Name y py] (.ListComp elt [⟨tg, iter, ifs, 0⟩] scope pos) spos) (aO (a8 mi (own.map (·.2)) g t me) (aQ i)) := fun X E cx xo =>
 mK (ps_setLc (i := i) (own := own) cx.calm cx.nd (by rw [cx.N]; exact hy) (by rw [cx.sc]; exact hyl) (hsw X.env cx.sc (by rw [cx.sc]; exact hk)) (hi X E cx xo) (blkOk_by (by rw [cx.N, cx.sc]; exact hb)) (fun s H C cl fp => hg _ E0 (yF cx s H scope C cl fp) (yR ..)) (fun s H C cl fp => ht _ E0 (yF cx s H scope C cl fp) (yR ..))
  (fun s H C cl fp => he _ E0 (yF cx s H scope C cl fp) (yR ..)) (hs X.env)) fun Z σ H ⟨I, F, G, ds, w, rel, rs, p⟩ => by
  obtain ⟨I, F, G, ds, w, rel, rs, q⟩ : y9 X.K E (a8 mi (own.map (·.2)) g t me) σ H (fun x H1 => gName i x σ H1 Z.nx) := cF (f := fun ds d w1 => (aQ i d ds w1).bind fun σ2 w2 => Res.ok (Fl.nx σ2) w2) rel rs p fun I1 F1 H1 x w1 v e1 rel1 rs1 rv p1 => p1 I1 F1 H1 .refl rel1 _ (rs1.set i rv)
  exact UL (f := fun ys w1 => Res.ok (D.lst ys) w1) ⟨I, F, G, ds, w, rel, rs, q⟩ aBr
end
def keyD : D → Option Key
 | .int i => some (.inl i)
 | .str x => some (.inr x)
 | _ => none
def BC : List D → Option (List Key)
 | [] => some []
 | d :: ds => match keyD d, BC ds with
  | some k, some ks => some (k :: ks)
  | _, _ => none
def jM {κ : Type} [DecidableEq κ] : List (κ × D) → κ → Option D
 | [], _ => none
 | (j, d) :: r, k => if j = k then some d else jM r k
def putD {κ : Type} [DecidableEq κ] (kvs : List (κ × D)) (k : κ) (d : D) : List (κ × D) :=
 if (jM kvs k).isSome then kvs.map (fun p => if p.1 = k then (p.1, d) else p) else kvs ++ [(k, d)]
section
variable {K : PySem.W.Frag} {I : List Addr} {F G H : Hp} {w : W} {κ : Type} [DecidableEq κ]
def WB (K : PySem.W.Frag) (I : List Addr) (F : Hp) : Option D → Option V → Prop
 | some d, q => ∃ v, q = some v ∧ aG K I F d v
 | none, q => q = none
theorem aS.look : ∀ {kvs : List (κ × D)} {r : List (κ × V)} (k : κ), aS K I F kvs r → WB K I F (jM kvs k) (valV r k)
 | [], r, k, h => by simp only [aS] at h; subst h; rfl
 | (j, d) :: kvs, r, k, h => by
  simp only [aS] at h
  obtain ⟨v, t, rfl, h1, h2⟩ := h
  simp only [jM]
  by_cases e : j = k
  ·rw [if_pos e]; exact ⟨v, by rw [valV_pos e], h1⟩
  ·rw [if_neg e]
   have := aS.look k h2
   rw [valV_neg (by exact e)]
   exact this
theorem aS.length : ∀ {kvs : List (κ × D)} {r : List (κ × V)}, aS K I F kvs r → kvs.length = r.length
 | [], r, h => by simp only [aS] at h; subst h; rfl
 | (j, d) :: kvs, r, h => by
  simp only [aS] at h
  obtain ⟨v, t, rfl, h1, h2⟩ := h
  simp [aS.length h2]
theorem aS.repl {d : D} {v : V} (k : κ) (hv : aG K I F d v) : ∀ {kvs : List (κ × D)} {r : List (κ × V)}, aS K I F kvs r → aS K I F (kvs.map (fun p => if p.1 = k then (p.1, d) else p)) (r.map (fun p => if p.1 = k then (p.1, v) else p))
 | [], r, h => by simp only [aS] at h; subst h; simp [aS]
 | (j, x) :: kvs, r, h => by
  simp only [aS] at h
  obtain ⟨u, t, rfl, h1, h2⟩ := h
  simp only [bt]
  by_cases e : j = k
  ·rw [if_pos e, if_pos e]; simp only [aS]; exact ⟨v, _, rfl, hv, aS.repl k hv h2⟩
  ·rw [if_neg e, if_neg e]; simp only [aS]; exact ⟨u, _, rfl, h1, aS.repl k hv h2⟩
theorem aS.snoc {d : D} {v : V} (k : κ) (hv : aG K I F d v) : ∀ {kvs : List (κ × D)} {r : List (κ × V)}, aS K I F kvs r → aS K I F (kvs ++ [(k, d)]) (r ++ [(k, v)])
 | [], r, h => by simp only [aS] at h; subst h; simp only [bz, aS]; exact ⟨v, [], rfl, hv, rfl⟩
 | (j, x) :: kvs, r, h => by
  simp only [aS] at h
  obtain ⟨u, t, rfl, h1, h2⟩ := h
  simp only [bf, aS]
  exact ⟨u, _, rfl, h1, aS.snoc k hv h2⟩
theorem aFu (r : List (κ × V)) (k : κ) (v : V) : putK r k v = if (valV r k).isSome then r.map (fun p => if p.1 = k then (p.1, v) else p) else r ++ [(k, v)] := by
 unfold putK
 rw [valV_any]
theorem aS.put {d : D} {v : V} (k : κ) (hv : aG K I F d v) {kvs : List (κ × D)} {r : List (κ × V)} (h : aS K I F kvs r) : aS K I F (putD kvs k d) (putK r k v) := by
 rw [aFu]
 unfold putD
 have hl := h.look k
 cases e : jM kvs k with
 | some x =>
  rw [e] at hl
  obtain ⟨u, hu, _⟩ := hl
  rw [hu]
  exact h.repl k hv
 | none =>
  rw [e] at hl
  rw [hl]
  exact h.snoc k hv
theorem xZ {d : D} {v : V} {k : Key} (h : aG K I F d v) (e : keyD d = some k) : v = kV k := by
 cases d <;> simp only [keyD, aj, reduceCtorEq] at e
 ·subst e; simp only [aG] at h; exact h
 ·subst e; simp only [aG] at h; exact h
theorem yI : ∀ {ds : List D} {vs : List V} {ks : List Key}, RepL K I F ds vs → BC ds = some ks → vs = ks.map kV
 | [], vs, ks, h, e => by simp only [BC, aj] at e; subst e; simp only [RepL] at h; exact h
 | d :: ds, vs, ks, h, e => by
  simp only [RepL] at h
  obtain ⟨v, r, rfl, h1, h2⟩ := h
  simp only [BC] at e
  split at e
  ·rename_i k ks' e1 e2
   cases e
   rw [xZ h1 e1, yI h2 e2]
   rfl
  ·cases e
theorem Rel.upd {i : Nat} {a : Addr} {o o' : MO} {u' : HO} (rel : Rel K I F G w H) (hi : I[i]? = some a) (ho : w[i]? = some o) (r : qL K I F o' u') (hf : o.fz = false := by rfl) : Rel K I F G (w.set i o') (upd H a u') := by
 have hF : F a = none := rel.ap i a o hi ho hf
 have hil : i < w.length := (ar.mp ho).1
 refine ⟨by simp [rel.len], rel.nd, fun j b q h1 h2 => ?_, fun b u h => ?_, fun j b q h1 h2 h3 => ?_, fun b u h => ?_, rel.gf, rel.gt⟩
 ·by_cases hj : i = j
  ·subst hj
   rw [cc hil] at h2
   cases h2
   rw [hi] at h1; cases h1
   exact ⟨u', upd_same, r⟩
  ·rw [bu hj] at h2
   obtain ⟨u, h3, h4⟩ := rel.ob j b q h1 h2
   have hb : b ≠ a := fun z => by
    subst z
    obtain ⟨l1, e1⟩ := ar.mp hi
    obtain ⟨l2, e2⟩ := ar.mp h1
    exact hj ((List.getElem_inj rel.nd).mp (e1.trans e2.symm))
   exact ⟨u, by rw [upd_ne hb]; exact h3, h4⟩
 ·rw [upd_ne (ne_of_none h hF)]; exact rel.fz b u h
 ·by_cases hj : i = j
  ·subst hj
   rw [hi] at h1; cases h1; exact hF
  ·rw [bu hj] at h2
   exact rel.ap j b q h1 h2 h3
 ·have hb : b ≠ a := fun z => (rel.gf b u h).2 (z ▸ cq hi)
  rw [upd_ne hb]; exact rel.gz b u h
end
theorem RepL.at' {K : PySem.W.Frag} {I : List Addr} {F : Hp} {ds : List D} {vs : List V} (r : RepL K I F ds vs) {i : Int} {d : D} (h : atI ds i = some d) : ∃ v, atI vs i = some v ∧ aG K I F d v := by
 unfold atI at h ⊢
 rw [← r.length]
 cases e : ixN ds.length i with
 | none => rw [e] at h; cases h
 | some j => rw [e] at h; exact r.get h
def qU (o : MO) (y : D) : Option (Option D) := match o, y with
 | .dK kvs, y => (keyD y).map (jM kvs)
 | .dF kvs, y => (keyD y).map (jM kvs)
 | .dT kvs, .tup ys => (BC ys).map (jM kvs)
 | .dG kvs, .tup ys => (BC ys).map (jM kvs)
 | _, _ => none
def atM (xs : List D) (y : D) (w : W) : Res D := match y with
 | .int i => (match atI xs i with
  | some d => .ok d w
  | none => .bad)
 | _ => .bad
def atS (z : Str) (y : D) (w : W) : Res D := match y with
 | .int i => if z.length ≤ sizeLine then (match atI z.cps.toList i with
   | some c => .ok (.str ⟨#[c]⟩) w
   | none => .bad) else .bad
 | _ => .bad
def aY (x y : D) (w : W) : Res D := match x with
 | .tup xs => atM xs y w
 | .vU xs => atM xs y w
 | .lst xs => atM xs y w
 | .qK xs => atM xs y w
 | .str z => atS z y w
 | .ref r => (match w[r]? with
  | some (.lst xs) => atM xs y w
  | some o => (match qU o y with
   | some (some d) => .ok d w
   | _ => .bad)
  | none => .bad)
 | _ => .bad
theorem aGD {X : Cx} (hu : X.A.units + 1 < cLine) : IxR X (fun x y H Q => ∃ a v, x = .ref a ∧ DGet H a y (some v) ∧ Q v H) := by
 intro value slice pins s σ H x y ov iv Q J rx ry h hs
 obtain ⟨a, v, ex, g, q⟩ := h
 subst ex
 cases rx
 have hT : s.TypeIs (.ref a) "dict" := dict_typeIs J g
 unfold subscriptTail
 apply wpAny_bind
 rw [getitemInPython_of_ne hT.not_modules]
 apply wpAny_bind
 apply wpAny_specialOf hT PySem.F.slot_dict_getitem.lookup
 have fin : wpAny (model X.prog X.w) X.A (subscripted slice false (.ref a) iv) (fun r s₃ => wpAny (model X.prog X.w) X.A (letTemporaryGo value (.ref a) r >>= fun _ => pure r) (EP X pins σ Q) X.xe s₃) X.xe s := by
  rw [hs]
  apply wpAny_operating
  exact d_getItem hu J g ry fun w' s3 J3 rw' => wpAny_bind (wpAny_letTemporaryGo (wpAny_pure ⟨v, H, J3, rw', q⟩))
 first
  | exact wpAny_pure (wpAny_bind fin)
  | exact wpAny_bind (wpAny_pure (wpAny_bind fin))
  | exact wpAny_bind fin
theorem G4 {K : PySem.W.Frag} {I : List Addr} {F G H : Hp} {w : W} (rel : Rel K I F G w H) {i : Nat} {a : Addr} {o : MO} {y : D} {v : V} {r : Option D} (hi : I[i]? = some a) (ho : w[i]? = some o) (ry : aG K I F y v) (e : qU o y = some r) :
  ∃ q, DGet H a v q ∧ WB K I F r q := by
 obtain ⟨u, hu, ro⟩ := rel.ob i a o hi ho
 cases o with
 | lst => simp [qU] at e
 | ins => simp [qU] at e
 | dK kvs =>
  obtain ⟨t, rfl, rk⟩ := ro
  simp only [qU, aq] at e
  obtain ⟨k, ek, rfl⟩ := e
  exact ⟨valV t k, .inl ⟨t, k, .inl hu, xZ ry ek, rfl⟩, rk.look k⟩
 | dF kvs =>
  obtain ⟨ob, t, rfl, rk⟩ := ro
  simp only [qU, aq] at e
  obtain ⟨k, ek, rfl⟩ := e
  exact ⟨valV t k, .inl ⟨t, k, .inr ⟨ob, hu⟩, xZ ry ek, rfl⟩, rk.look k⟩
 | dT kvs =>
  obtain ⟨t, rfl, rk⟩ := ro
  cases y <;> simp only [qU, aq, reduceCtorEq] at e
  obtain ⟨k, ek, rfl⟩ := e
  simp only [aG] at ry
  obtain ⟨b, us, rfl, hb, rl⟩ := ry
  obtain rfl := yI rl ek
  exact ⟨valV t k, .inr ⟨t, k, b, .inl hu, rfl, rel.fz _ _ hb, rfl⟩, rk.look k⟩
 | dG kvs =>
  obtain ⟨ob, t, rfl, rk⟩ := ro
  cases y <;> simp only [qU, aq, reduceCtorEq] at e
  obtain ⟨k, ek, rfl⟩ := e
  simp only [aG] at ry
  obtain ⟨b, us, rfl, hb, rl⟩ := ry
  obtain rfl := yI rl ek
  exact ⟨valV t k, .inr ⟨t, k, b, .inr ⟨ob, hu⟩, rfl, rel.fz _ _ hb, rfl⟩, rk.look k⟩
def aE3 (S : aR) (f : D → D → W → Res D) : Prop := ∀ X E, Ctx S X → vV X E → IxR X (YE X.K E f)
section
variable {S : aR} {pos : Pos} {a b : Expr} {ma mb : ME}
theorem VD {f : D → D → W → Res D}
  (h : ∀ (X : Cx) (E : XK), Ctx S X → vV X E → ∀ (I : List Addr) (F G : Hp) (d e : D) (w : W) (H : Hp) (x y : V) (Q : VK), Rel X.K I F G w H → aG X.K I F d x → aG X.K I F e y → bC X.K I F G E (RV X.K Q) (f d e w) →
   ∃ r : R2, IxR X r ∧ r x y H Q) : aE3 S f := fun X E c xo value slice pins s σ H x y v u Q J rx ry ⟨I, F, G, d, e, w, rel, rd, re, p⟩ hs => by
 obtain ⟨r, ho, hr⟩ := h X E c xo I F G d e w H x y Q rel rd re p
 exact ho value slice pins s σ H x y v u Q J rx ry hr hs
theorem KG {X : Cx} {E : XK} {I : List Addr} {F G : Hp} {e : D} {w : W} {H : Hp} {x y : V} {Q : VK} (rel : Rel X.K I F G w H) (re : aG X.K I F e y) {xs : List D} {vs : List V} {q : Addr} (h1 : SqL X.K H q vs ∨ SqT X.K H q vs) (h2 : RepL X.K I F xs vs) (ex : x = .ref q)
  (p : bC X.K I F G E (RV X.K Q) (atM xs e w)) : ∃ r : R2, IxR X r ∧ r x y H Q := by
 cases e <;> first | exact p.elim | skip
 rename_i i
 simp only [aG] at re
 simp only [atM] at p
 cases ha : atI xs i with
 | none => rw [ha] at p; exact p.elim
 | some d =>
  rw [ha] at p
  obtain ⟨v, hv, rv⟩ := h2.at' ha
  rcases h1 with h1 | h1
  ·exact ⟨_, ix_list, q, vs, i, v, ex, re, h1, hv, p.nM rel rv⟩
  ·exact ⟨_, ix_tup, q, vs, i, v, ex, re, h1, hv, p.nM rel rv⟩
theorem aKx : aE3 S aY := VD fun X E c xo I F G d e w H x y Q rel rd re p => by
 cases d <;> first | exact p.elim | skip
 case str z =>
  cases e <;> first | exact p.elim | skip
  rename_i i
  simp only [aG] at rd re
  simp only [aY, atS] at p
  split at p
  ·rename_i hz
   split at p
   ·rename_i c hc
    exact ⟨_, ix_str, z, i, c, rd, re, hz, hc, p.nM rel (by simp [aG])⟩
   ·exact p.elim
  ·exact p.elim
 case tup xs =>
  simp only [aG] at rd
  obtain ⟨q, vs, ex, h1, h2⟩ := rd
  exact KG rel re (.inr (.of (rel.fz _ _ h1))) h2 ex p
 case vU xs =>
  simp only [aG] at rd
  obtain ⟨q, vs, ex, h1, h2⟩ := rd
  exact KG rel re (.inr (rel.VB h1)) h2 ex p
 case lst xs =>
  simp only [aG] at rd
  obtain ⟨q, vs, ex, h1, h2⟩ := rd
  exact KG rel re (.inl (.of (rel.fz _ _ h1))) h2 ex p
 case qK xs =>
  simp only [aG] at rd
  obtain ⟨q, vs, ex, h1, h2⟩ := rd
  exact KG rel re (.inl (rel.sqL h1)) h2 ex p
 case ref i =>
  simp only [aG] at rd
  obtain ⟨q, ex, h1⟩ := rd
  simp only [aY] at p
  split at p
  ·rename_i xs hw
   obtain ⟨u, hu, vs, rfl, h2⟩ := rel.ob i q _ h1 hw
   exact KG rel re (.inl (.of hu)) h2 ex p
  ·rename_i o hn hw
   split at p
   ·rename_i d hd
    obtain ⟨r, hr, u, rfl, ru⟩ := G4 rel h1 hw re hd
    exact ⟨_, aGD (by have := c.room.units; omega), q, u, ex, hr, p.nM rel ru⟩
   ·exact p.elim
  ·exact p.elim
theorem fN (ha : JE S a ma) (hb : JE S b mb) (hs : PlainIx b := by intro _ _; rfl) : JE S (.Subscript a b pos) (aE aY ma mb) := fun X E c xo =>
 cC (pe_ix (aKx X E c xo) (ha X E c xo) (hb X E c xo) hs) fun _ _ _ h => B3 h
end
abbrev MO' := Sg → W → Res (Option Int)
def bS : MO' := fun _ w => .ok none w
def bK (m : ME) : MO' := fun σ w => (m σ w).bind fun d w1 => match d with
 | .int i => .ok (some i) w1
 | _ => .bad
def RO (Q : Option Int → Hp → Prop) : List Addr → Hp → Hp → Option Int → W → Prop := fun _ _ H' o _ => Q o H'
def aMd (K : PySem.W.Frag) (E : XK) (m : MO') : TO := fun σ H Q => ∃ I F G ds w, Rel K I F G w H ∧ dU K I F ds σ ∧ bC K I F G E (RO Q) (m ds w)
def JO (S : aR) (e : Option Expr) (m : MO') : Prop := ∀ X E, Ctx S X → vV X E → PO X e (aMd X.K E m)
def cutD (xs : List D) (lo hi : Option Int) : List D := (xs.drop (HT.sIx xs.length 0 lo)).take (HT.sIx xs.length xs.length hi - HT.sIx xs.length 0 lo)
def fO (x : D) (lo hi : Option Int) (w : W) : Res D := match x with
 | .tup xs => .ok (.tup (cutD xs lo hi)) w
 | .str z => if z.length ≤ sizeLine then .ok (.str (cutS z lo hi)) w else .bad
 | .lst xs => .ok (.lst (cutD xs lo hi)) w
 | .qK xs => .ok (.lst (cutD xs lo hi)) w
 | .ref i => (match w[i]? with
  | some (.lst xs) => .ok (.lst (cutD xs lo hi)) w
  | _ => .bad)
 | _ => .bad
def iU (f : D → Option Int → Option Int → W → Res D) (a : ME) (lo hi : MO') : ME := fun σ w => (a σ w).bind fun x w1 => (lo σ w1).bind fun l w2 => (hi σ w2).bind fun u w3 => f x l u w3
theorem RepL.cutV {K : PySem.W.Frag} {I : List Addr} {F : Hp} {ds : List D} {vs : List V} (r : RepL K I F ds vs) (lo hi : Option Int) : RepL K I F (cutD ds lo hi) (L2.cutV vs lo hi) := by
 unfold cutD L2.cutV
 rw [← r.length]
 exact (r.drop _).take _
theorem aBT {xs : List D} {lo hi : Option Int} (h : HT.sIx xs.length 0 lo = 0 ∧ HT.sIx xs.length xs.length hi = xs.length) : cutD xs lo hi = xs := by
 unfold cutD
 rw [h.1, h.2]
 simp
def SlM (S : aR) (f : D → Option Int → Option Int → W → Res D) : Prop := ∀ X E, Ctx S X → vV X E → ∀ (I : List Addr) (F G : Hp) (d : D) (w : W) (H : Hp) (x : V) (lo hi : Option Int) (Q : VK), Rel X.K I F G w H → aG X.K I F d x → bC X.K I F G E (RV X.K Q) (f d lo hi w) →
   ∃ r, SlR X r ∧ r x lo hi H Q
def aK9 (K : PySem.W.Frag) (E : XK) (f : D → Option Int → Option Int → W → Res D) : V → Option Int → Option Int → Hp → VK → Prop := fun x lo hi H Q => ∃ I F G d w, Rel K I F G w H ∧ aG K I F d x ∧ bC K I F G E (RV K Q) (f d lo hi w)
section
variable {S : aR} {pos p2 : Pos} {a e : Expr} {ma m : ME} {lo hi : Option Expr} {ml mh : MO'} {f : D → Option Int → Option Int → W → Res D}
theorem cO : JO S none bS := fun X E c xo => ⟨fun pins s σ H Q J ⟨I, F, G, ds, w, rel, rs, p⟩ => po_none.run pins s σ H Q J (p I F H .refl rel)⟩
theorem b7 (h : JE S e m) : JO S (some e) (bK m) := fun X E c xo => ⟨fun pins s σ H Q J ⟨I, F, G, ds, w, rel, rs, p⟩ => (po_some (h X E c xo)).run pins s σ H Q J
 (cF (f := fun _ d w1 => match d with
  | .int i => Res.ok (some i) w1
  | _ => .bad) rel rs p fun I1 F1 H1 x w1 v e1 rel1 rs1 rv p1 => by
  cases x <;> first | exact p1.elim | skip
  simp only [aG] at rv
  exact ⟨_, rv, p1 I1 F1 H1 .refl rel1⟩)⟩
theorem eY : SlM S fO := fun X E c xo I F G d w H x lo hi Q rel rd p => by
 cases d <;> first | exact p.elim | skip
 case tup xs =>
  simp only [aG] at rd
  obtain ⟨q, vs, ex, h1, h2⟩ := rd
  refine ⟨_, sl_tupA, q, vs, ex, .of (rel.fz _ _ h1), fun hw => ?_, fun hw => ?_⟩
  ·rw [← h2.length] at hw
   refine p.nM rel ?_
   rw [aBT hw]
   simp only [aG]
   exact ⟨q, vs, ex ▸ rfl, h1, h2⟩
  ·exact yG rel (h2.cutV lo hi) p
 case str z =>
  simp only [aG] at rd
  simp only [fO] at p
  split at p
  ·rename_i hz
   exact ⟨_, sl_str, z, rd, hz, p.nM rel (by simp [aG])⟩
  ·exact p.elim
 case lst xs =>
  simp only [aG] at rd
  obtain ⟨q, vs, ex, h1, h2⟩ := rd
  exact ⟨_, sl_list, q, vs, ex, .of (rel.fz _ _ h1), iY rel (h2.cutV lo hi) p⟩
 case qK xs =>
  simp only [aG] at rd
  obtain ⟨q, vs, ex, h1, h2⟩ := rd
  exact ⟨_, sl_list, q, vs, ex, rel.sqL h1, iY rel (h2.cutV lo hi) p⟩
 case ref i =>
  simp only [aG] at rd
  obtain ⟨q, ex, h1⟩ := rd
  simp only [fO] at p
  split at p
  ·rename_i xs hw
   obtain ⟨u, hu, vs, rfl, h2⟩ := rel.ob i q _ h1 hw
   exact ⟨_, sl_list, q, vs, ex, .of hu, iY rel (h2.cutV lo hi) p⟩
  ·exact p.elim
theorem eU (hf : SlM S f) (ha : JE S a ma) (hl : JO S lo ml) (hh : JO S hi mh) : JE S (.Subscript a (.Slice lo hi none p2) pos) (iU f ma ml mh) := fun X E c xo => by
 have hr : SlR X (aK9 X.K E f) := fun pins s σ H x v vl vu l u sl Q J rx hs pl pu ⟨I, F, G, d, w, rel, rd, p⟩ => by
  obtain ⟨r, h1, h2⟩ := hf X E c xo I F G d w H x l u Q rel rd p
  exact h1 pins s σ H x v vl vu l u sl Q J rx hs pl pu h2
 refine cC (pe_slice hr (ha X E c xo) (hl X E c xo) (hh X E c xo)) fun σ H Q ⟨I, F, G, ds, w, rel, rs, p⟩ => ?_
 refine cF (f := fun ds x w1 => (ml ds w1).bind fun l w2 => (mh ds w2).bind fun u w3 => f x l u w3) rel rs p fun I1 F1 H1 x w1 v e1 rel1 rs1 rv p1 => ?_
 refine ⟨I1, F1, G, ds, w1, rel1, rs1, (bC.bind p1).mono fun I2 F2 H2 l w2 _ e2 rel2 p2 => ?_⟩
 refine ⟨I2, F2, G, ds, w2, rel2, rs1.ext e2, (bC.bind p2).mono fun I3 F3 H3 u w3 _ e3 rel3 p3 => ?_⟩
 exact ⟨I3, F3, G, x, w3, rel3, aG.ext (e2.trans e3) _ _ rv, p3⟩
end
def setM (o i d : D) (w : W) : Res Unit := match o with
 | .ref r => (match w[r]? with
  | some (.lst xs) => (match i with
   | .int k => (match ixN xs.length k with
    | some j => .ok () (w.set r (.lst (xs.set j d)))
    | none => .bad)
   | _ => .bad)
  | some (.dK kvs) => (match keyD i with
   | some k => if kvs.length < sizeLine then .ok () (w.set r (.dK (putD kvs k d))) else .bad
   | none => .bad)
  | some (.dT kvs) => (match i with
   | .tup ys => (match BC ys with
    | some k => if kvs.length < sizeLine then .ok () (w.set r (.dT (putD kvs k d))) else .bad
    | none => .bad)
   | _ => .bad)
  | _ => .bad)
 | _ => .bad
def eM (mo mi : ME) : MG := fun d σ w => (mo σ w).bind fun o w1 => (mi σ w1).bind fun i w2 => (setM o i d w2).bind fun _ w3 => .ok σ w3
def aJK (K : PySem.W.Frag) (E : XK) : TSet := fun o i v H Q => ∃ I F G x y d w, Rel K I F G w H ∧ aG K I F x o ∧ aG K I F y i ∧ aG K I F d v ∧ bC K I F G E (fun _ _ H' _ _ => Q H') (setM x y d w)
theorem aHX {X : Cx} {E : XK} (hu : X.A.units + 1 < cLine) : PSet X (aJK X.K E) := by
 intro pins s σ H o i v ov iv u Q J ro ri rv ⟨I, F, G, x, y, d, w, rel, rx, ry, rd, p⟩
 cases x <;> first | exact p.elim | skip
 rename_i r
 simp only [aG] at rx
 obtain ⟨a, rfl, h1⟩ := rx
 simp only [setM] at p
 split at p
 ·rename_i xs hw
  obtain ⟨t, hu', vs, rfl, h2⟩ := rel.ob r a _ h1 hw
  cases y <;> first | exact p.elim | skip
  rename_i k
  simp only [aG] at ry
  subst ry
  dsimp only at p
  split at p
  ·rename_i j hj
   exact set_list pins s σ H _ _ v ov iv u Q J ro ri rv ⟨a, vs, k, j, rfl, rfl, hu', by rw [← h2.length]; exact hj, p I F _ .refl (rel.upd h1 hw ⟨_, rfl, h2.set j rd⟩)⟩
  ·exact p.elim
 ·rename_i kvs hw
  obtain ⟨t, hu', vs, rfl, h2⟩ := rel.ob r a _ h1 hw
  split at p
  ·rename_i k hk
   split at p
   ·rename_i hl
    obtain rfl := xZ ry hk
    cases ro
    exact d_setItem hu J (.inl ⟨vs, k, hu', rfl, by rw [← h2.length]; exact hl, rfl⟩) ri rv fun s' J' => ⟨_, J', p I F _ .refl (rel.upd h1 hw ⟨_, rfl, h2.put k rd⟩)⟩
   ·exact p.elim
  ·exact p.elim
 ·rename_i kvs hw
  obtain ⟨t, hu', vs, rfl, h2⟩ := rel.ob r a _ h1 hw
  cases y <;> first | exact p.elim | skip
  rename_i ys
  dsimp only at p
  split at p
  ·rename_i k hk
   split at p
   ·rename_i hl
    simp only [aG] at ry
    obtain ⟨b, us, rfl, hb, rl⟩ := ry
    obtain rfl := yI rl hk
    cases ro
    exact d_setItem hu J (.inr ⟨vs, k, b, hu', rfl, rel.fz _ _ hb, by rw [← h2.length]; exact hl, rfl⟩) ri rv fun s' J' => ⟨_, J', p I F _ .refl (rel.upd h1 hw ⟨_, rfl, h2.put k rd⟩)⟩
   ·exact p.elim
  ·exact p.elim
 ·exact p.elim
section
variable {S : aR} {pos : Pos} {o i : Expr} {mo mi : ME}
theorem aJT (ho : JE S o mo) (hi : JE S i mi)
  (ha : ∀ (env : Env) v, assign (.Subscript o i pos) env v = (do
   let ov ← holding [v] (eval o env)
   let iv ← holding [v, ov] (eval i env)
   standAt pos
   holding [v, ov, iv] (setItem ov iv v)
   release [v, ov, iv] []) := by intro _ _; rfl) : JG S (.Subscript o i pos) (eM mo mi) := fun X E c xo =>
 uV (pg_sub (ho X E c xo) (hi X E c xo) (aHX (E := E) (by have := c.room.units; omega)) (ha X.env)) fun v σ H Q ⟨I, F, G, d, ds, w, rel, rs, rv, p⟩ => by
  refine cF (f := fun ds x w1 => (mi ds w1).bind fun y w2 => (setM x y d w2).bind fun _ w3 => Res.ok ds w3) rel rs p fun I1 F1 H1 x w1 u e1 rel1 rs1 ru p1 => ?_
  refine cF (f := fun ds y w2 => (setM x y d w2).bind fun _ w3 => Res.ok ds w3) rel1 rs1 p1 fun I2 F2 H2 y w2 t e2 rel2 rs2 rt p2 => ?_
  exact ⟨I2, F2, G, x, y, d, w2, rel2, aG.ext e2 _ _ ru, rt, aG.ext (e1.trans e2) _ _ rv, (bC.bind p2).mono fun I3 F3 H3 z w3 _ e3 rel3 p3 => p3 I3 F3 H3 .refl rel3 σ (rs2.ext e3)⟩
end
def aKZ (K : PySem.W.Frag) (E : XK) (m : MF) : List V → Hp → VK → Prop := fun vs H Q => ∃ I F G ds w, Rel K I F G w H ∧ RepL K I F ds vs ∧ bC K I F G E (RV K Q) (m ds w)
def CB (S : aR) (f : Value) (m : MF) : Prop := ∀ X E, Ctx S X → vV X E → CallR X f (aKZ X.K E m)
def aP (m : MF) (ma : MA) : ME := fun σ w => (ma σ w).bind fun xs w1 => m xs w1
section
variable {S : aR} {m : MF} {x : Str} {p pos : Pos} {e : Expr} {es : List Expr} {ma : MA} {f : Value}
theorem CZ (h : ∀ (X : Cx) (E : XK), Ctx S X → vV X E → ∀ (I : List Addr) (F G : Hp) (ds : List D) (w : W) (H : Hp) (vs : List V) (Q : VK), Rel X.K I F G w H → RepL X.K I F ds vs → bC X.K I F G E (RV X.K Q) (m ds w) → ∃ r, CallR X f r ∧ r vs H Q) : CB S f m :=
 fun X E c xo pins s σ H vs us Q J r ⟨I, F, G, ds, w, rel, rl, p⟩ => by
  obtain ⟨r', h1, h2⟩ := h X E c xo I F G ds w H vs Q rel rl p
  exact h1 pins s σ H vs us Q J r h2
theorem aBh {K : PySem.W.Frag} {E : XK} {σ : L2.St} {H : Hp} {Q : VK} (h : y9 K E (aP m ma) σ H Q) : tCB (aKZ K E m) (aI6 K E ma) σ H Q := by
 obtain ⟨I, F, G, ds, w, rel, rs, p⟩ := h
 exact gO (f := fun _ xs w1 => m xs w1) rel rs p fun I1 F1 H1 xs w1 vs e1 rel1 rs1 rvs p1 => ⟨I1, F1, G, xs, w1, rel1, rvs, p1⟩
theorem bJ {id : String} (hc : CB S (.builtin id) m) (hg : S.sc.names.lookup x = some .globalImplicit) (hm : S.mg x = none) (hv : bootBuiltins x = some (.builtin id)) (ha : JA S (e :: es) ma) (hn : x ≠ "__name__" := by decide) (hdb : (x == ("__debug__" : Str)) = false := by decide)
  (he : ∀ env : Env, starEach (e :: es) env = (false, eval e env) :: starEach es env := by intro _; rfl) (hpl : ∀ env : Env, (backTo pos (starEach es env)).any (·.1) = false := by intro _; rfl) : JE S (.Call (.Name x p) (e :: es) [] pos) (aP m ma) := fun X E c xo =>
 cC (pe_callB (hc X E c xo) (by show X.env.scope.names.lookup x = _; rw [c.sc]; exact hg) (by rw [c.mg]; exact hm) hv (ha X E c xo) hn hdb (he X.env) (hpl X.env)) fun _ _ _ h => aBh h
theorem b8 {id : String} (hc : CB S (.type id) m) (hg : S.sc.names.lookup x = some .globalImplicit) (hm : S.mg x = none) (hv : bootBuiltins x = some (.type id)) (ha : JA S (e :: es) ma) (hn : x ≠ "__name__" := by decide) (hdb : (x == ("__debug__" : Str)) = false := by decide)
  (he : ∀ env : Env, starEach (e :: es) env = (false, eval e env) :: starEach es env := by intro _; rfl) (hpl : ∀ env : Env, (backTo pos (starEach es env)).any (·.1) = false := by intro _; rfl) : JE S (.Call (.Name x p) (e :: es) [] pos) (aP m ma) := fun X E c xo =>
 cC (pe_callTy (hc X E c xo) (by show X.env.scope.names.lookup x = _; rw [c.sc]; exact hg) (by rw [c.mg]; exact hm) hv (ha X E c xo) hn hdb (he X.env) (hpl X.env)) fun _ _ _ h => aBh h
end
theorem RepL.one {K : PySem.W.Frag} {I : List Addr} {F : Hp} {d : D} {vs : List V} (h : RepL K I F [d] vs) : ∃ v, vs = [v] ∧ aG K I F d v := by
 simp only [RepL] at h
 obtain ⟨v, r, rfl, h1, rfl⟩ := h
 exact ⟨v, rfl, h1⟩
theorem RepL.two {K : PySem.W.Frag} {I : List Addr} {F : Hp} {d e : D} {vs : List V} (h : RepL K I F [d, e] vs) : ∃ v u, vs = [v, u] ∧ aG K I F d v ∧ aG K I F e u := by
 simp only [RepL] at h
 obtain ⟨v, r, rfl, h1, u, r2, rfl, h2, rfl⟩ := h
 exact ⟨v, u, rfl, h1, h2⟩
theorem CQ {K : PySem.W.Frag} {I : List Addr} {F G H : Hp} {w : W} (rel : Rel K I F G w H) {d : D} {v : V} {xs : List D} (h : aG K I F d v) (e : d.items w = some xs) : ∃ a vs, v = .ref a ∧ (SqL K H a vs ∨ SqT K H a vs) ∧ RepL K I F xs vs := by
 cases d <;> simp only [D.items, aj, reduceCtorEq] at e <;> simp only [aG] at h
 case tup => subst e; obtain ⟨a, vs, h0, h1, h2⟩ := h; exact ⟨a, vs, h0, .inr (.of (rel.fz _ _ h1)), h2⟩
 case vU => subst e; obtain ⟨a, vs, h0, h1, h2⟩ := h; exact ⟨a, vs, h0, .inr (rel.VB h1), h2⟩
 case lst => subst e; obtain ⟨a, vs, h0, h1, h2⟩ := h; exact ⟨a, vs, h0, .inl (.of (rel.fz _ _ h1)), h2⟩
 case qK => subst e; obtain ⟨a, vs, h0, h1, h2⟩ := h; exact ⟨a, vs, h0, .inl (rel.sqL h1), h2⟩
 case ref i =>
  split at e
  ·rename_i ys hw
   cases e
   obtain ⟨a, h0, h1⟩ := h
   obtain ⟨u, hu, vs, rfl, h2⟩ := rel.ob i a _ h1 hw
   exact ⟨a, vs, h0, .inl (.of hu), h2⟩
  ·cases e
def JM (d : D) (w : W) : Option Nat := match d with
 | .str z => if z.length ≤ sizeLine then some z.length else none
 | .ref i => (match w[i]? with
  | some (.lst xs) => some xs.length
  | some (.dK kvs) => some kvs.length
  | _ => none)
 | d => (d.items w).map List.length
def cZ : MF := fun ds w => match ds with
 | [d] => (match JM d w with
  | some n => .ok (.int n) w
  | none => .bad)
 | _ => .bad
def mW : List D → Option (List Int)
 | [] => some []
 | .int i :: r => (mW r).map (i :: ·)
 | _ :: _ => none
theorem sW {K : PySem.W.Frag} {I : List Addr} {F : Hp} : ∀ {ds : List D} {vs : List V} {ns : List Int}, RepL K I F ds vs → mW ds = some ns → vs = ns.map V.int
 | [], vs, ns, h, e => by simp only [mW, aj] at e; subst e; simp only [RepL] at h; exact h
 | d :: ds, vs, ns, h, e => by
  cases d <;> simp only [mW, aq, reduceCtorEq] at e
  obtain ⟨r, e1, rfl⟩ := e
  simp only [RepL, aG] at h
  obtain ⟨v, t, rfl, rfl, h2⟩ := h
  rw [sW h2 e1]
  rfl
def tL (d : D) (w : W) : Option (List D) := match d with
 | .lst xs => some xs
 | .qK xs => some xs
 | .ref i => (match w[i]? with
  | some (.lst xs) => some xs
  | _ => none)
 | _ => none
def AV (d : D) : Option (List D) := match d with
 | .tup xs => some xs
 | .vU xs => some xs
 | _ => none
theorem G6 {K : PySem.W.Frag} {I : List Addr} {F G H : Hp} {w : W} (rel : Rel K I F G w H) {d : D} {v : V} {xs : List D} (h : aG K I F d v) (e : tL d w = some xs) : ∃ a vs, v = .ref a ∧ SqL K H a vs ∧ RepL K I F xs vs := by
 cases d <;> simp only [tL, aj, reduceCtorEq] at e <;> simp only [aG] at h
 case lst => subst e; obtain ⟨a, vs, h0, h1, h2⟩ := h; exact ⟨a, vs, h0, .of (rel.fz _ _ h1), h2⟩
 case qK => subst e; obtain ⟨a, vs, h0, h1, h2⟩ := h; exact ⟨a, vs, h0, rel.sqL h1, h2⟩
 case ref i =>
  split at e
  ·rename_i ys hw
   cases e
   obtain ⟨a, h0, h1⟩ := h
   obtain ⟨u, hu, vs, rfl, h2⟩ := rel.ob i a _ h1 hw
   exact ⟨a, vs, h0, .of hu, h2⟩
  ·cases e
theorem aDs {K : PySem.W.Frag} {I : List Addr} {F G H : Hp} {w : W} (rel : Rel K I F G w H) {d : D} {v : V} {xs : List D} (h : aG K I F d v) (e : AV d = some xs) : ∃ a vs, v = .ref a ∧ SqT K H a vs ∧ RepL K I F xs vs := by
 cases d <;> simp only [AV, aj, reduceCtorEq] at e <;> simp only [aG] at h
 case tup => subst e; obtain ⟨a, vs, h0, h1, h2⟩ := h; exact ⟨a, vs, h0, .of (rel.fz _ _ h1), h2⟩
 case vU => subst e; obtain ⟨a, vs, h0, h1, h2⟩ := h; exact ⟨a, vs, h0, rel.VB h1, h2⟩
def XN : MF := fun ds w => match ds with
 | [d] => (match (tL d w).bind mW with
  | some ns => .ok (.int ns.sum) w
  | none => .bad)
 | _ => .bad
def aHF : MF := fun ds w => match ds with
 | [d] => (match d.items w with
  | some xs => .ok (.lst xs) w
  | none => .bad)
 | _ => .bad
def HV : MF := fun ds w => match ds with
 | [d] => (match d.items w with
  | some xs => .ok (.ref w.length) (w ++ [.lst xs])
  | none => .bad)
 | _ => .bad
def cH : MF := fun ds w => match ds with
 | [.tup xs] => .ok (.tup xs) w
 | [d] => (match tL d w with
  | some xs => .ok (.tup xs) w
  | none => .bad)
 | _ => .bad
def aLa (d : D) (w : W) : Option Str := match d.py w with
 | some p => if p.showable = true ∧ p.hasDict = false ∧ p.depth ≤ 60 ∧ p.shown.length ≤ sizeLine then some p.shown else none
 | none => none
def aBj : MF := fun ds w => match ds with
 | [d] => (match aLa d w with
  | some z => .ok (.str z) w
  | none => .bad)
 | _ => .bad
def MY : MF := fun ds w => match ds with
 | [.int i] => .ok (.int i) w
 | [.bl b] => .ok (.int (if b then 1 else 0)) w
 | _ => .bad
def max2 : MF := fun ds w => match ds with
 | [.int i, .int j] => .ok (.int (if j > i then j else i)) w
 | _ => .bad
def min2 : MF := fun ds w => match ds with
 | [.int i, .int j] => .ok (.int (if j < i then j else i)) w
 | _ => .bad
section
variable {S : aR}
theorem jV : CB S (.builtin "len") cZ := CZ fun X E c xo I F G ds w H vs Q rel rl p => by
 unfold cZ at p
 split at p
 ·rename_i d
  obtain ⟨v, rfl, rv⟩ := rl.one
  split at p
  ·rename_i n hn
   have go : ∀ {xs : List D}, d.items w = some xs → n = xs.length → ∃ r, CallR X (.builtin "len") r ∧ r [v] H Q := fun {xs} h1 h2 => by
    obtain ⟨a, us, rfl, hq, hr⟩ := CQ rel rv h1
    refine ⟨_, call_len, .ref a, n, rfl, ?_, p.nM rel (by simp [aG])⟩
    rw [h2, hr.length]
    rcases hq with hq | hq
    ·exact .inl ⟨us, hq, rfl⟩
    ·exact .inr ⟨us, hq, rfl⟩
   cases d <;> simp only [JM, D.items, Option.map_some, Option.map_none, aj, reduceCtorEq] at hn
   case str z =>
    split at hn
    ·rename_i hz
     cases hn
     simp only [aG] at rv
     subst rv
     exact ⟨_, call_len, .str z, z.length, rfl, ⟨hz, rfl⟩, p.nM rel (by simp [aG])⟩
    ·cases hn
   case tup => exact go (by simp [D.items]) hn.symm
   case vU => exact go (by simp [D.items]) hn.symm
   case lst => exact go (by simp [D.items]) hn.symm
   case qK => exact go (by simp [D.items]) hn.symm
   case ref i =>
    split at hn
    ·rename_i xs hw
     exact go (by simp [D.items, hw]) (Option.some.inj hn).symm
    ·rename_i kvs hw
     cases hn
     simp only [aG] at rv
     obtain ⟨a, rfl, h1⟩ := rv
     obtain ⟨u, hu, us, rfl, h2⟩ := rel.ob i a _ h1 hw
     exact ⟨_, call_lenD, a, us, rfl, hu, p.nM rel (by simp [aG, h2.length])⟩
    ·cases hn
  ·exact p.elim
 ·exact p.elim
theorem aI2 : CB S (.builtin "sum") XN := CZ fun X E c xo I F G ds w H vs Q rel rl p => by
 unfold XN at p
 split at p
 ·rename_i d
  obtain ⟨v, rfl, rv⟩ := rl.one
  split at p
  ·rename_i ns hn
   obtain ⟨xs, h1, h2⟩ := dv.mp hn
   obtain ⟨a, us, rfl, hq, hr⟩ := G6 rel rv h1
   obtain rfl := sW hr h2
   exact ⟨_, cr_sum c.calm, a, ns, rfl, hq, p.nM rel (by simp [aG])⟩
  ·exact p.elim
 ·exact p.elim
theorem aDG : CB S (.type "list") HV := CZ fun X E c xo I F G ds w H vs Q rel rl p => by
 unfold HV at p
 split at p
 ·rename_i d
  obtain ⟨v, rfl, rv⟩ := rl.one
  split at p
  ·rename_i xs hn
   obtain ⟨a, us, rfl, hq, hr⟩ := CQ rel rv hn
   exact ⟨_, call_list_of, a, us, rfl, hq, aA5 (o := .lst xs) rel ⟨us, rfl, hr⟩ p⟩
  ·exact p.elim
 ·exact p.elim
theorem dD : CB S (.type "tuple") cH := CZ fun X E c xo I F G ds w H vs Q rel rl p => by
 unfold cH at p
 split at p
 ·rename_i xs
  obtain ⟨v, rfl, rv⟩ := rl.one
  have rv' := rv
  simp only [aG] at rv'
  obtain ⟨a, us, rfl, h1, h2⟩ := rv'
  exact ⟨_, call_tuple_of, a, us, rfl, .inr ⟨.of (rel.fz _ _ h1), p.nM rel rv⟩⟩
 ·rename_i d _
  obtain ⟨v, rfl, rv⟩ := rl.one
  split at p
  ·rename_i xs hn
   obtain ⟨a, us, rfl, hq, hr⟩ := G6 rel rv hn
   exact ⟨_, call_tuple_of, a, us, rfl, .inl ⟨hq, yG rel hr p⟩⟩
  ·exact p.elim
 ·exact p.elim
theorem aIX : CB S (.type "int") MY := CZ fun X E c xo I F G ds w H vs Q rel rl p => by
 unfold MY at p
 split at p
 ·rename_i i
  obtain ⟨v, rfl, rv⟩ := rl.one
  simp only [aG] at rv
  subst rv
  exact ⟨_, call_int1, .inl ⟨i, rfl, p.nM rel (by simp [aG])⟩⟩
 ·rename_i b
  obtain ⟨v, rfl, rv⟩ := rl.one
  simp only [aG] at rv
  subst rv
  exact ⟨_, call_int1, .inr ⟨b, rfl, p.nM rel (by simp [aG])⟩⟩
 ·exact p.elim
end
abbrev MMt := D → List D → W → Res D
def aMN (K : PySem.W.Frag) (E : XK) (m : MMt) : V → List V → Hp → VK → Prop := fun x vs H Q => ∃ I F G d ds w, Rel K I F G w H ∧ aG K I F d x ∧ RepL K I F ds vs ∧ bC K I F G E (RV K Q) (m d ds w)
def MB (S : aR) (id : String) (m : MMt) : Prop := ∀ X E, Ctx S X → vV X E → MtR X id (aMN X.K E m)
def tyD (d : D) (w : W) : Option String := match d with
 | .str _ => some "str"
 | .lst _ => some "list"
 | .qK _ => some "list"
 | .ref i => (match w[i]? with
  | some (.lst _) => some "list"
  | some (.dK _) => some "dict"
  | some (.dT _) => some "dict"
  | some (.dG _) => some "dict"
  | _ => none)
 | _ => none
def aJu (K : PySem.W.Frag) (T : String) (x : V) (H : Hp) : Prop := tyV K T x H ∨ (T = "dict" ∧ ∃ p o kvs, x = .ref p ∧ H p = some (.frz o (.dT kvs)))
theorem aHb {X : Cx} {pins : List (Addr × Obj)} {σ : L2.St} {H : Hp} {s : Shared} {T : String} {x : V} {v : Value} (I : Inv X pins σ H s) (r : RelV x v) (ty : aJu X.K T x H) :
  s.TypeIs v T ∧ ∀ a, v = .ref a → ∃ ob, s.heap.get? a = some ob ∧ ob.dict = none := by
 rcases ty with ty | ⟨rfl, p, o, kvs, rfl, hp⟩
 ·exact tyV_is I r ty
 ·cases r
  obtain ⟨_, hgd, ex, _⟩ := I.frzT hp
  exact ⟨⟨o, hgd, ex.1⟩, fun a e => by cases e; exact ⟨o, hgd, ex.2.1⟩⟩
def aMa (K : PySem.W.Frag) (T : String) (r : V → List V → Hp → VK → Prop) (to : TE) (t : TA) : TE := fun σ H Q => to σ H fun x H1 => aJu K T x H1 ∧ t σ H1 fun xs H2 => r x xs H2 Q
section
variable {X : Cx} {o e : Expr} {es : List Expr} {to : TE} {t : TA} {name : Str} {apos cpos : Pos} {T id : String} {r : V → List V → Hp → VK → Prop}
theorem aJH (pa : PlainAttrs T) (slot : Slot T name id) (hty : typeOf (.builtin id) = pure (.type "method_descriptor")) (hm : MtR X id r) (ho : PE X o to) (ha : PA X (e :: es) t)
  (hbase : attributeBase o name X.env (eval o X.env) = eval o X.env := by rfl)
  (hfew : ((backTo cpos (starEach (e :: es) X.env)).all (fun x => !x.1) && (backToKw cpos (keywordEach [] X.env)).all (fun x => x.1.isSome)
   && decide ((e :: es).length + ([] : List Keyword).length + (if ([] : List Keyword).isEmpty then 0 else 1) < 30)) = true := by rfl)
  (hline : (apos.endLine == cpos.line) = true := by rfl) (hs : starEach (e :: es) X.env = (false, eval e X.env) :: starEach es X.env := by rfl) (hplain : (backTo cpos (starEach es X.env)).any (·.1) = false := by rfl) :
  PE X (.Call (.Attribute o name apos) (e :: es) [] cpos) (aMa X.K T r to t) := by
 refine ⟨fun pins s σ H Q I h => ?_⟩
 refine wpAny_Call_method_late hbase hfew hline rfl (thn (ho.run pins s σ H _ I h) fun v s1 ⟨x, H1, I1, r1, ty, q1⟩ => ?_)
 obtain ⟨h1, h2⟩ := aHb I1 r1 ty
 refine ⟨T, id, pa, slot, hty, h1, h2, ?_⟩
 have hA := ha.run cpos pins s1 σ H1 _ I1 q1
 rw [hs] at hA ⊢
 refine Calls.callWith_builtin (by show (false || (backTo cpos (starEach es X.env)).any (·.1)) = false; rw [hplain] <;> rfl) (Calls.evalArgs_plain ?_)
 exact thn hA fun us s2 ⟨vs, H2, I2, r2, q2⟩ => hm pins s2 σ H2 x vs v us Q I2 r1 r2 q2
end
theorem aJk {K : PySem.W.Frag} {I : List Addr} {F G H : Hp} {w : W} (rel : Rel K I F G w H) {d : D} {v : V} (h : aG K I F d v) {T : String} (e : tyD d w = some T) : aJu K T v H := by
 cases d <;> simp only [tyD, aj, reduceCtorEq] at e <;> simp only [aG] at h
 case str => subst h; exact .inl e.symm
 case lst => obtain ⟨a, vs, rfl, h1, h2⟩ := h; exact .inl (.inl ⟨e.symm, vs, .of (rel.fz _ _ h1)⟩)
 case qK => obtain ⟨a, vs, rfl, h1, h2⟩ := h; exact .inl (.inl ⟨e.symm, vs, rel.sqL h1⟩)
 case ref i =>
  obtain ⟨a, rfl, h1⟩ := h
  split at e
  ·rename_i xs hw
   cases e
   obtain ⟨u, hu, vs, rfl, _⟩ := rel.ob i a _ h1 hw
   exact .inl (.inl ⟨rfl, vs, .of hu⟩)
  ·rename_i xs hw
   cases e
   obtain ⟨u, hu, vs, rfl, _⟩ := rel.ob i a _ h1 hw
   exact .inl (.inr (.inr (.inl ⟨rfl, .inl ⟨vs, hu⟩⟩)))
  ·rename_i xs hw
   cases e
   obtain ⟨u, hu, vs, rfl, _⟩ := rel.ob i a _ h1 hw
   exact .inl (.inr (.inr (.inl ⟨rfl, .inr ⟨vs, hu⟩⟩)))
  ·rename_i xs hw
   cases e
   obtain ⟨u, hu, ob, vs, rfl, _⟩ := rel.ob i a _ h1 hw
   exact .inr ⟨rfl, a, ob, vs, rfl, hu⟩
  ·cases e
def bB (T : String) (m : MMt) (mo : ME) (ma : MA) : ME := fun σ w => (mo σ w).bind fun d w1 => if tyD d w1 = some T then (ma σ w1).bind fun xs w2 => m d xs w2 else .bad
section
variable {S : aR} {m : MMt} {o e : Expr} {es : List Expr} {mo : ME} {ma : MA} {name : Str} {apos cpos : Pos} {T id : String}
theorem bU (pa : PlainAttrs T) (slot : Slot T name id) (hm : MB S id m) (ho : JE S o mo) (ha : JA S (e :: es) ma) (hty : typeOf (.builtin id) = pure (.type "method_descriptor") := by rfl)
  (hbase : ∀ env : Env, attributeBase o name env (eval o env) = eval o env := by intro _; rfl)
  (hfew : ∀ env : Env, ((backTo cpos (starEach (e :: es) env)).all (fun x => !x.1) && (backToKw cpos (keywordEach [] env)).all (fun x => x.1.isSome)
   && decide ((e :: es).length + ([] : List Keyword).length + (if ([] : List Keyword).isEmpty then 0 else 1) < 30)) = true := by intro _; rfl)
  (hline : (apos.endLine == cpos.line) = true := by rfl) (hs : ∀ env : Env, starEach (e :: es) env = (false, eval e env) :: starEach es env := by intro _; rfl) (hplain : ∀ env : Env, (backTo cpos (starEach es env)).any (·.1) = false := by intro _; rfl) :
  JE S (.Call (.Attribute o name apos) (e :: es) [] cpos) (bB T m mo ma) := fun X E c xo =>
 cC (aJH pa slot hty (hm X E c xo) (ho X E c xo) (ha X E c xo) (hbase X.env) (hfew X.env) hline (hs X.env) (hplain X.env)) fun σ H Q ⟨I, F, G, ds, w, rel, rs, p⟩ =>
  cF (f := fun ds d w1 => if tyD d w1 = some T then (ma ds w1).bind fun xs w2 => m d xs w2 else .bad) rel rs p fun I1 F1 H1 d w1 v e1 rel1 rs1 rv p1 => by
   split at p1
   ·rename_i ht
    refine ⟨aJk rel1 rv ht, ?_⟩
    exact gO (f := fun _ xs w2 => m d xs w2) rel1 rs1 p1 fun I2 F2 H2 xs w2 vs e2 rel2 rs2 rvs p2 => ⟨I2, F2, G, d, xs, w2, rel2, aG.ext e2 _ _ rv, rvs, p2⟩
   ·exact p1.elim
theorem LG {id : String} (h : ∀ (X : Cx) (E : XK), Ctx S X → vV X E → ∀ (I : List Addr) (F G : Hp) (d : D) (ds : List D) (w : W) (H : Hp) (x : V) (vs : List V) (Q : VK), Rel X.K I F G w H → aG X.K I F d x → RepL X.K I F ds vs → bC X.K I F G E (RV X.K Q) (m d ds w) →
  ∃ r, MtR X id r ∧ r x vs H Q) : MB S id m := fun X E c xo pins s σ H x vs v us Q J rx rv ⟨I, F, G, d, ds, w, rel, rd, rl, p⟩ => by
 obtain ⟨r', h1, h2⟩ := h X E c xo I F G d ds w H x vs Q rel rd rl p
 exact h1 pins s σ H x vs v us Q J rx rv h2
end
def cJ : MMt := fun d ds w => match d, ds with
 | .ref i, [y] => (match w[i]? with
  | some (.lst xs) => if xs.length < sizeLine then .ok .non (w.set i (.lst (xs ++ [y]))) else .bad
  | _ => .bad)
 | _, _ => .bad
def DY : MMt := fun d ds w => match d, ds with
 | .ref i, [.int n] => (match w[i]? with
  | some (.lst xs) => if -(2 ^ 63) ≤ n ∧ n < 2 ^ 63 then (match seqIndex? n xs.length with
   | some k => (match xs[k]? with
    | some y => .ok y (w.set i (.lst (xs.eraseIdx k)))
    | none => .bad)
   | none => .bad) else .bad
  | _ => .bad)
 | _, _ => .bad
section
variable {K : PySem.W.Frag} {I : List Addr} {F : Hp}
theorem RepL.dropLast {ds : List D} {vs : List V} (r : RepL K I F ds vs) : RepL K I F ds.dropLast vs.dropLast := by
 rw [List.dropLast_eq_take, List.dropLast_eq_take, ← r.length]
 exact r.take _
theorem RepL.eraseIdx {ds : List D} {vs : List V} (r : RepL K I F ds vs) (i : Nat) : RepL K I F (ds.eraseIdx i) (vs.eraseIdx i) := by
 rw [List.eraseIdx_eq_take_drop_succ, List.eraseIdx_eq_take_drop_succ]
 exact (r.take _).append (r.drop _)
theorem RepL.reverse : ∀ {ds : List D} {vs : List V}, RepL K I F ds vs → RepL K I F ds.reverse vs.reverse
 | [], vs, h => by simp only [RepL] at h; subst h; simp [RepL]
 | d :: ds, vs, h => by
  simp only [RepL] at h
  obtain ⟨v, r, rfl, h2, h3⟩ := h
  rw [List.reverse_cons, List.reverse_cons]
  exact h3.reverse.append (RepL.cons h2 (by simp [RepL]))
end
section
variable {S : aR}
theorem sZ : MB S "list.append" cJ := LG fun X E c xo I F G d ds w H x vs Q rel rd rl p => by
 unfold cJ at p
 split at p
 ·rename_i i y
  simp only [aG] at rd
  obtain ⟨a, rfl, hi⟩ := rd
  obtain ⟨v, rfl, rv⟩ := rl.one
  split at p
  ·rename_i xs hw
   obtain ⟨u, hu, us, rfl, hr⟩ := rel.ob i a _ hi hw
   split at p
   ·rename_i hl
    exact ⟨_, mt_append, a, us, v, rfl, rfl, hu, by rw [← hr.length]; exact hl, p.nM (rel.upd hi hw ⟨_, rfl, hr.append (RepL.cons rv (by simp [RepL]))⟩) (by simp [aG])⟩
   ·exact p.elim
  ·exact p.elim
 ·exact p.elim
theorem aCF : MB S "list.pop" DY := LG fun X E c xo I F G d ds w H x vs Q rel rd rl p => by
 unfold DY at p
 split at p
 ·rename_i i n
  simp only [aG] at rd
  obtain ⟨a, rfl, hi⟩ := rd
  obtain ⟨t, rfl, rt⟩ := rl.one
  simp only [aG] at rt
  subst rt
  split at p
  ·rename_i xs hw
   obtain ⟨u, hu, us, rfl, hr⟩ := rel.ob i a _ hi hw
   split at p
   ·rename_i hn
    split at p
    ·rename_i k hk
     split at p
     ·rename_i y hy
      obtain ⟨v, hv, rv⟩ := hr.get hy
      exact ⟨_, mt_popAt, a, us, n, k, v, rfl, rfl, hu, hn.1, hn.2, by rw [← hr.length]; exact hk, hv, p.nM (rel.upd hi hw ⟨_, rfl, hr.eraseIdx k⟩) rv⟩
     ·exact p.elim
    ·exact p.elim
   ·exact p.elim
  ·exact p.elim
 ·exact p.elim
end
def VU (d : D) (w : W) : Res D := match tL d w with
 | some xs => .ok (.lst xs.reverse) w
 | none => .bad
section
variable {S : aR} {e : Expr} {m : ME} {k : Nat} {p1 p2 p3 pos : Pos}
theorem aD7 (h : JE S e m) : JE S (.Subscript e (.Slice none none (some (.UnaryOp .USub (.Constant (.int 1) k p1) p2)) p3) pos) (AZ VU m) := fun X E c xo =>
 cC (pe_revL (h X E c xo)) fun σ H Q ⟨I, F, G, ds, w, rel, rs, p⟩ => cF (f := fun _ d w1 => VU d w1) rel rs p fun I1 F1 H1 d w1 v e1 rel1 rs1 rv p => by
  unfold VU at p
  split at p
  ·rename_i xs hx
   obtain ⟨a, us, rfl, hq, hr⟩ := G6 rel1 rv hx
   exact ⟨a, us, rfl, hq, iY rel1 hr.reverse p⟩
  ·exact p.elim
end
def sJ (x y : D) (w : W) : Option Bool := match x.py w, y.py w with
 | some p, some (.list qs) => if SeqAt.shaped p = true ∧ SeqAt.shaped (.list qs) = true then some (qs.any fun z => PyData.eqv z p) else none
 | some p, some (.tuple qs) => if SeqAt.shaped p = true ∧ SeqAt.shaped (.tuple qs) = true then some (qs.any fun z => PyData.eqv z p) else none
 | _, _ => none
def inD (x y : D) (w : W) : Option Bool := match y with
 | .ref i => (match w[i]? with
  | some (.dK kvs) => (qU (.dK kvs) x).map Option.isSome
  | some (.dT kvs) => (qU (.dT kvs) x).map Option.isSome
  | _ => sJ x y w)
 | y => sJ x y w
def L7 (x y : D) (w : W) : Res D := match inD x y w with
 | some b => .ok (.bl b) w
 | none => .bad
def kO (x y : D) (w : W) : Res D := match inD x y w with
 | some b => .ok (.bl (!b)) w
 | none => .bad
def aLd (K : PySem.W.Frag) : R2 := fun x y H Q => ∃ d ds, Dp K H x d ∧ Dp K H y (.tuple ds) ∧ SeqAt.shaped d = true ∧ SeqAt.shaped (.tuple ds) = true ∧ Q (.bl (ds.any fun z => PyData.eqv z d)) H
def aEQ (K : PySem.W.Frag) : R2 := fun x y H Q => ∃ d ds, Dp K H x d ∧ Dp K H y (.tuple ds) ∧ SeqAt.shaped d = true ∧ SeqAt.shaped (.tuple ds) = true ∧ Q (.bl (!ds.any fun z => PyData.eqv z d)) H
theorem aGv {X : Cx} (hu : X.A.units + 65 < cLine) : OpR X (compareOp .In) (aLd X.K) := by
 intro pins s σ H x y v u Q I rx ry h
 obtain ⟨d, ds, hd, he, sd, se, q⟩ := h
 obtain ⟨as, r1⟩ := Dp.reads I d x v hd rx
 obtain ⟨bs, r2⟩ := Dp.reads I (.tuple ds) y u he ry
 exact SeqAt.in_tuple_reads r2 r1 (SeqAt.canLay_of_shaped se) (SeqAt.canLay_of_shaped sd) (room_in_shaped sd hu) ⟨.bl _, H, I, rfl, q⟩
theorem YX {X : Cx} (hu : X.A.units + 65 < cLine) : OpR X (compareOp .NotIn) (aEQ X.K) := by
 intro pins s σ H x y v u Q I rx ry h
 obtain ⟨d, ds, hd, he, sd, se, q⟩ := h
 obtain ⟨as, r1⟩ := Dp.reads I d x v hd rx
 obtain ⟨bs, r2⟩ := Dp.reads I (.tuple ds) y u he ry
 exact SeqAt.notIn_tuple_reads r2 r1 (SeqAt.canLay_of_shaped se) (SeqAt.canLay_of_shaped sd) (room_in_shaped sd hu) ⟨.bl _, H, I, rfl, q⟩
theorem aBD {X : Cx} (hu : X.A.units + 1 < cLine) : OpR X (compareOp .In) (fun x y H Q => ∃ a q, y = .ref a ∧ DGet H a x q ∧ Q (.bl q.isSome) H) := by
 intro pins s σ H x y v u Q J rx ry h
 obtain ⟨a, q, ey, g, hq⟩ := h
 subst ey
 cases ry
 exact d_in hu J g rx fun s' J' => ⟨.bl _, H, J', rfl, hq⟩
theorem TK {X : Cx} (hu : X.A.units + 1 < cLine) : OpR X (compareOp .NotIn) (fun x y H Q => ∃ a q, y = .ref a ∧ DGet H a x q ∧ Q (.bl (!q.isSome)) H) := by
 intro pins s σ H x y v u Q J rx ry h
 obtain ⟨a, q, ey, g, hq⟩ := h
 subst ey
 cases ry
 exact d_notIn hu J g rx fun s' J' => ⟨.bl _, H, J', rfl, hq⟩
theorem WB.isSome {K : PySem.W.Frag} {I : List Addr} {F : Hp} {d : Option D} {q : Option V} (h : WB K I F d q) : q.isSome = d.isSome := by
 cases d with
 | none => rw [show q = none from h]; rfl
 | some d => obtain ⟨v, rfl, _⟩ := h; rfl
section
variable {S : aR}
theorem VJ {X : Cx} {I : List Addr} {F G : Hp} {d e : D} {w : W} {H : Hp} {x y : V} (rel : Rel X.K I F G w H) (rd : aG X.K I F d x) (re : aG X.K I F e y) {b : Bool} (h : sJ d e w = some b) :
  ∃ p qs, Dp X.K H x p ∧ SeqAt.shaped p = true ∧ b = (qs.any fun z => PyData.eqv z p) ∧ ((Dp X.K H y (.list qs) ∧ SeqAt.shaped (.list qs) = true) ∨ (Dp X.K H y (.tuple qs) ∧ SeqAt.shaped (.tuple qs) = true)) := by
 unfold sJ at h
 split at h
 ·rename_i p qs h1 h2
  split at h
  ·rename_i hs
   cases h
   exact ⟨p, qs, E7 rel rd h1, hs.1, rfl, .inl ⟨E7 rel re h2, hs.2⟩⟩
  ·cases h
 ·rename_i p qs h1 h2
  split at h
  ·rename_i hs
   cases h
   exact ⟨p, qs, E7 rel rd h1, hs.1, rfl, .inr ⟨E7 rel re h2, hs.2⟩⟩
  ·cases h
 ·cases h
theorem aES {X : Cx} {I : List Addr} {F G : Hp} {d e : D} {w : W} {H : Hp} {x y : V} (rel : Rel X.K I F G w H) (rd : aG X.K I F d x) (re : aG X.K I F e y) {b : Bool} (h : inD d e w = some b) :
  sJ d e w = some b ∨ ∃ a q, y = .ref a ∧ DGet H a x q ∧ q.isSome = b := by
 unfold inD at h
 split at h
 ·rename_i i
  simp only [aG] at re
  obtain ⟨a, rfl, hi⟩ := re
  split at h
  ·rename_i kvs hw
   simp only [aq] at h
   obtain ⟨r, h1, rfl⟩ := h
   obtain ⟨q, g, hr⟩ := G4 rel hi hw rd h1
   exact .inr ⟨a, q, rfl, g, hr.isSome⟩
  ·rename_i kvs hw
   simp only [aq] at h
   obtain ⟨r, h1, rfl⟩ := h
   obtain ⟨q, g, hr⟩ := G4 rel hi hw rd h1
   exact .inr ⟨a, q, rfl, g, hr.isSome⟩
  ·exact .inl h
 ·exact .inl h
theorem aEj : O2 S (compareOp .In) L7 := gU fun X E c xo I F G d e w H x y Q rel rd re p => by
 unfold L7 at p
 split at p
 ·rename_i b hb
  have hu := c.room.un
  rcases aES rel rd re hb with h | ⟨a, q, rfl, g, rfl⟩
  ·obtain ⟨pp, qs, h1, h2, rfl, h3 | h3⟩ := VJ rel rd re h
   ·exact ⟨_, op_inD (by omega), pp, qs, h1, h3.1, h2, h3.2, p.nM rel (by simp [aG])⟩
   ·exact ⟨_, aGv (by omega), pp, qs, h1, h3.1, h2, h3.2, p.nM rel (by simp [aG])⟩
  ·exact ⟨_, aBD (by omega), a, q, rfl, g, p.nM rel (by simp [aG])⟩
 ·exact p.elim
theorem CK : O2 S (compareOp .NotIn) kO := gU fun X E c xo I F G d e w H x y Q rel rd re p => by
 unfold kO at p
 split at p
 ·rename_i b hb
  have hu := c.room.un
  rcases aES rel rd re hb with h | ⟨a, q, rfl, g, rfl⟩
  ·obtain ⟨pp, qs, h1, h2, rfl, h3 | h3⟩ := VJ rel rd re h
   ·exact ⟨_, op_notInD (by omega), pp, qs, h1, h3.1, h2, h3.2, p.nM rel (by simp [aG])⟩
   ·exact ⟨_, YX (by omega), pp, qs, h1, h3.1, h2, h3.2, p.nM rel (by simp [aG])⟩
  ·exact ⟨_, TK (by omega), a, q, rfl, g, p.nM rel (by simp [aG])⟩
 ·exact p.elim
end
open PySem.W (EachIs AllAlike Sortable alike dataLe)
def aKH (w : W) (d : D) : PyData := (d.py w).getD .none
def aDp : PyData → Bool
 | .tuple (_ :: _) => true
 | _ => false
def aAP : PyData → Bool
 | .none => false
 | .tuple _ => false
 | _ => true
def rT (ps : List PyData) : Bool := (ps.all fun p => ps.all fun q => alike p q) && (ps.all aDp || ps.all aAP) && ps.all fun p => decide (p.depth ≤ 60)
theorem rT.h1 {ps : List PyData} (h : rT ps = true) : AllAlike ps := by
 simp only [rT, ak, au] at h
 exact fun d hd e he => h.1.1 d hd e he
theorem rT.h2 {ps : List PyData} (h : rT ps = true) : Sortable ps := by
 simp only [rT, ak, Bool.or_eq_true, au] at h
 rcases h.1.2 with h | h
 ·refine .inl fun d hd => ?_
  have := h d hd
  unfold aDp at this
  split at this
  ·exact ⟨_, _, rfl⟩
  ·cases this
 ·refine .inr fun d hd => ?_
  have := h d hd
  unfold aAP at this
  split at this
  ·cases this
  ·cases this
  ·rename_i n1 n2
   exact ⟨n1, fun xs z => n2 xs z⟩
theorem rT.h3 {ps : List PyData} (h : rT ps = true) : ∀ p ∈ ps, p.depth ≤ 60 := by
 simp only [rT, ak, au, ai] at h
 exact h.2
def aLn (xs : List D) (w : W) : Option (List D) := if xs.all (fun d => (d.py w).isSome) = true ∧ rT (xs.map (aKH w)) = true ∧ xs.length ≤ sizeLine then some (xs.mergeSort (dataLe false (aKH w))) else none
def aAp : MF := fun ds w => match ds with
 | [d] => (match (tL d w).bind fun xs => aLn xs w with
  | some ys => .ok (.lst ys) w
  | none => .bad)
 | _ => .bad
def JB (f : Str) (v : D) : List (Str × D) → List (Str × D)
 | [] => [(f, v)]
 | (g, x) :: r => if g = f then (g, v) :: r else (g, x) :: JB f v r
theorem aS.lookup {K : PySem.W.Frag} {I : List Addr} {F : Hp} {κ : Type} [BEq κ] (k : κ) : ∀ {kvs : List (κ × D)} {r : List (κ × V)}, aS K I F kvs r → WB K I F (kvs.lookup k) (r.lookup k)
 | [], r, h => by simp only [aS] at h; subst h; rfl
 | (j, d) :: kvs, r, h => by
  simp only [aS] at h
  obtain ⟨v, t, rfl, h1, h2⟩ := h
  simp only [List.lookup]
  cases e : (k == j) with
  | true => exact ⟨v, rfl, h1⟩
  | false => exact aS.lookup k h2
theorem aS.JB {K : PySem.W.Frag} {I : List Addr} {F : Hp} (f : Str) {d : D} {v : V} (hv : aG K I F d v) : ∀ {kvs : List (Str × D)} {r : List (Str × V)}, aS K I F kvs r → aS K I F (Pc.JB f d kvs) (putF f v r)
 | [], r, h => by simp only [aS] at h; subst h; simp only [Pc.JB, putF, aS]; exact ⟨v, [], rfl, hv, rfl⟩
 | (j, x) :: kvs, r, h => by
  simp only [aS] at h
  obtain ⟨u, t, rfl, h1, h2⟩ := h
  simp only [Pc.JB, putF]
  by_cases e : j = f
  ·rw [if_pos e, if_pos e]; simp only [aS]; exact ⟨v, t, rfl, hv, h2⟩
  ·rw [if_neg e, if_neg e]; simp only [aS]; exact ⟨u, _, rfl, h1, aS.JB f hv h2⟩
def aLF (C : Addr) (f : Str) (d : D) (w : W) : Res D := match d with
 | .ref i => (match w[i]? with
  | some (.ins C' fs) => if C' = C then (match fs.lookup f with
   | some x => .ok x w
   | none => .bad) else .bad
  | _ => .bad)
 | _ => .bad
def aAo (C : Addr) (f : Str) (d x : D) (w : W) : Res Unit := match d with
 | .ref i => (match w[i]? with
  | some (.ins C' fs) => if C' = C ∧ fs.length < 1000 then .ok () (w.set i (.ins C (JB f x fs))) else .bad
  | _ => .bad)
 | _ => .bad
def eJ (C : Addr) (f : Str) (m : ME) : ME := AZ (aLF C f) m
def CO (C : Addr) (f : Str) (mo mv : ME) : MS := fun σ w => (mv σ w).bind fun x w1 => (mo σ w1).bind fun d w2 => (aAo C f d x w2).bind fun _ w3 => .ok (.nx σ) w3
theorem Y1 {K : PySem.W.Frag} {I : List Addr} {F G H : Hp} {w : W} (rel : Rel K I F G w H) {q : Addr} (hq : H q = none) (u : HO) : Rel K I F G w (upd H q u) := by
 refine ⟨rel.len, rel.nd, fun i a o h1 h2 => ?_, fun a t h => ?_, rel.ap, fun a t h => ?_, rel.gf, rel.gt⟩
 ·obtain ⟨t, h3, h4⟩ := rel.ob i a o h1 h2
  exact ⟨t, by rw [upd_ne (ne_of_none h3 hq)]; exact h3, h4⟩
 ·rw [upd_ne (ne_of_none (rel.fz a t h) hq)]; exact rel.fz a t h
 ·rw [upd_ne (ne_of_none (rel.gz a t h) hq)]; exact rel.gz a t h
def aEF (m : MF) (C : Addr) (xs : List D → List D) (w : W) : Res D := (m (xs [.ref w.length]) (w ++ [.ins C []])).bind fun r w1 => match r with
 | .non => .ok (.ref w.length) w1
 | _ => .bad
def aLT (C : Addr) (m : MF) (n : Nat) (gd : List D → List D → List D) (ma : MA) : ME := fun σ w => (ma σ w).bind fun xs w1 => if xs.length = n then aEF m C (fun s => gd (s ++ xs) []) w1 else .bad
def aC9 (C : Addr) (m : MF) (n j : Nat) (gd : List D → List D → List D) (ma mk : MA) : ME := fun σ w => (ma σ w).bind fun xs w1 => (mk σ w1).bind fun zs w2 => if xs.length = n ∧ zs.length = j then aEF m C (fun s => gd (s ++ xs) zs) w2 else .bad
section
variable {S : aR} {pos pos' : Pos} {e : Expr} {m : ME}
theorem jv (i : Nat) {x : Str} (hN : S.N[i]? = some x := by rfl) (hv : Vis S.sc x := by first | exact Or.inl rfl | exact Or.inr (Or.inl rfl) | exact Or.inr (Or.inr rfl)) (hd : (x == ("__debug__" : Str)) = false := by decide) (hcd : (x == ("__classdict__" : Str)) = false := by decide) : JE S (.Name x pos) (aB i) :=
 aIC i hN hv hd hcd
theorem NX (i : Nat) {x : Str} (hN : S.N[i]? = some x := by rfl) (h1 : Loc S.sc x := by first | exact Or.inl rfl | exact Or.inr rfl) (h2 : S.fn x = true ∨ S.sc.names.lookup x = some .local := by first | exact Or.inl rfl | exact Or.inr rfl) : JG S (.Name x pos) (aQ i) := aFK hN ⟨h1, h2⟩
theorem zP {vs : List Nat} (i : Nat) {x : Str} (hN : S.N[i]? = some x := by rfl) (h1 : Loc S.sc x := by first | exact Or.inl rfl | exact Or.inr rfl) (h2 : S.fn x = true ∨ S.sc.names.lookup x = some .local := by first | exact Or.inl rfl | exact Or.inr rfl) (hv : i ∈ vs := by decide) : JC S vs (.Name x pos) (aQ i) := aGy hN ⟨h1, h2⟩ hv
theorem mG (i : Nat) {x : Str} (he : JE S e m) (hN : S.N[i]? = some x := by rfl) (h1 : Loc S.sc x := by first | exact Or.inl rfl | exact Or.inr rfl) (h2 : S.fn x = true ∨ S.sc.names.lookup x = some .local := by first | exact Or.inl rfl | exact Or.inr rfl) (hs : ∀ env : Env, swapsWith e (some (.Name x pos')) pos.line env = pure false := by intro _; rfl) :
  JS S (.Assign [.Name x pos'] e pos) (aO m (aQ i)) := aIo hN ⟨h1, h2⟩ he hs
end
def aM : List D → List D → List D := fun xs _ => xs
def aC7 (N ps : List Str) (sc : Scope) : Bool := (match sc.kind with
 | .function => true
 | _ => false) && !sc.isCoroutine && !sc.isGenerator && decide N.Nodup && decide (N.take ps.length = ps) && (ps.all fun x => decide (sc.names.lookup x = some .local) || decide (sc.names.lookup x = some .cell)) && sc.names.all fun y => decide (y.2 ≠ .free)
theorem bM {N ps : List Str} {sc : Scope} (h : aC7 N ps sc = true) : FnScope N ps sc := by
 unfold aC7 at h
 simp only [ak, ai, au, Bool.or_eq_true, Bool.not_eq_true'] at h
 obtain ⟨⟨⟨⟨⟨⟨h1, h2⟩, h3⟩, h4⟩, h5⟩, h6⟩, h7⟩ := h
 refine ⟨?_, h2, h3, h4, h5, h6, h7⟩
 split at h1
 ·assumption
 ·cases h1
def eCh (f g : D → D → W → Res D) (ma mb mc : ME) : ME := fun σ w => (ma σ w).bind fun x w1 => (mb σ w1).bind fun y w2 => (f x y w2).bind fun r w3 => match r with
 | .bl b => if b = true then (mc σ w3).bind fun z w4 => g y z w4 else .ok (.bl false) w3
 | _ => .bad
section
variable {S : aR} {pos : Pos} {a b c : Expr} {ma mb mc : ME} {f g : D → D → W → Res D}
theorem aDh {K : PySem.W.Frag} {E : XK} {σ : L2.St} {H : Hp} {Q : VK} (h : y9 K E (eCh f g ma mb mc) σ H Q) : tChain (YE K E f) (YE K E g) (y9 K E ma) (y9 K E mb) (y9 K E mc) σ H Q := by
 obtain ⟨I, F, G, ds, w, rel, rs, p⟩ := h
 refine ⟨I, F, G, ds, w, rel, rs, (bC.bind p).mono fun I1 F1 H1 x w1 _ e1 rel1 p1 v rv => ?_⟩
 refine ⟨I1, F1, G, ds, w1, rel1, rs.ext e1, (bC.bind p1).mono fun I2 F2 H2 y w2 _ e2 rel2 p2 u ru => ?_⟩
 refine ⟨I2, F2, G, x, y, w2, rel2, aG.ext e2 _ _ rv, ru, (bC.bind p2).mono fun I3 F3 H3 r w3 _ e3 rel3 p3 t rt => ?_⟩
 cases r <;> first | exact p3.elim | skip
 rename_i k _
 simp only [aG] at rt
 refine ⟨k, rt, ?_⟩
 cases k with
 | false => exact p3.nM rel3 (by simp [aG])
 | true =>
  refine ⟨I3, F3, G, ds, w3, rel3, (rs.ext e1).ext (e2.trans e3), (bC.bind p3).mono fun I4 F4 H4 z w4 _ e4 rel4 p4 q rq => ?_⟩
  exact ⟨I4, F4, G, y, z, w4, rel4, aG.ext (e3.trans e4) _ _ ru, rq, p4⟩
theorem aFc {op op' : CmpOp} (ho : O2 S (compareOp op) f) (ho' : O2 S (compareOp op') g) (ha : JE S a ma) (hb : JE S b mb) (hc : JE S c mc) (hm : lastMarks [op, op'] [b, c] = false := by with_unfolding_all rfl) :
  JE S (.Compare a [op, op'] [b, c] pos) (eCh f g ma mb mc) := fun X E cx xo => cC (pe_chain (ho X E cx xo) (ho' X E cx xo) (ha X E cx xo) (hb X E cx xo) (hc X E cx xo) hm) fun _ _ _ h => aDh h
end
theorem pA {S : aR} {x : Str} {n : String} {pos : Pos} (hg : S.sc.names.lookup x = some .globalImplicit) (hm : S.mg x = none) (hv : bootBuiltins x = some (.type n)) (hn : x ≠ "__name__" := by decide) (hd : (x == ("__debug__" : Str)) = false := by decide) : JE S (.Name x pos) (eC (.ty n)) := fun X E cx xo =>
 cC (pe_bltn (v := .ty n) (by show X.env.scope.names.lookup x = _; rw [cx.sc]; exact hg) (by rw [cx.mg]; exact hm) hv rfl hn hd) fun σ H Q ⟨I, F, G, ds, w, rel, rs, p⟩ => p I F H .refl rel _ (by simp [aG])
inductive lT where
 | b (n : String) | o (C : Addr)
 deriving DecidableEq
def lT.v : lT → Value
 | .b n => .type n
 | .o C => .ref C
def C6 (d : D) (w : W) : Option lT := match d with
 | .non => some (.b "NoneType")
 | .bl _ => some (.b "bool")
 | .int _ => some (.b "int")
 | .str _ => some (.b "str")
 | .tup _ => some (.b "tuple")
 | .vU _ => some (.b "tuple")
 | .lst _ => some (.b "list")
 | .qK _ => some (.b "list")
 | .ref i => (match w[i]? with
  | some (.lst _) => some (.b "list")
  | some (.dK _) => some (.b "dict")
  | some (.dT _) => some (.b "dict")
  | some (.dF _) => some (.b "dict")
  | some (.dG _) => none
  | some (.ins C _) => some (.o C)
  | none => none)
 | .EZ _ _ => some (.b "dict")
 | _ => none
def names7 : List String := ["NoneType", "bool", "int", "str", "tuple", "list", "dict"]
def aCK (t n : String) : Bool := t == n || (t == "bool" && n == "int")
theorem aA8 : ∀ t ∈ names7, ∀ n ∈ ["bool", "int", "str", "tuple", "list", "dict"], kitB t n = some (aCK t n) := by decide +kernel
structure aHQ (K : PySem.W.Frag) (C : Addr) : Prop where
 cl : Cls K C
 ha : PySem.W.findIn K (.ref C) "__class__" = some (some (.builtin "object.__class__"))
 hn : PySem.W.specialIn K (.builtin "object.__class__") "__get__" = some (some (.builtin "getset_descriptor.__get__"))
 tk : PySem.W.takesIn K (.builtin "object.__class__") = some true
 hm : PySem.W.mroIn K C (.type "object") = some true
def aDe : List D → Option (List String)
 | [] => some []
 | .ty n :: ds => (aDe ds).map fun ns => n :: ns
 | _ :: _ => none
def gQ (kc : lT → lT → Option Bool) : MF := fun ds w => match ds with
 | [d, .ty n] => (match C6 d w with
  | some (.b t) => if t ∈ names7 ∧ n ∈ ["bool", "int", "str", "tuple", "list", "dict"] then .ok (.bl (aCK t n)) w else .bad
  | some (.o C) => (match kc (.o C) (.b n) with
   | some r => .ok (.bl r) w
   | none => .bad)
  | none => .bad)
 | [d, .con C] => (match C6 d w with
  | some t => (match kc t (.o C) with
   | some r => .ok (.bl r) w
   | none => .bad)
  | none => .bad)
 | [d, .tup cs] => (match C6 d w, aDe cs with
  | some (.b t), some ns => if t ∈ names7 ∧ ∀ n ∈ ns, n ∈ ["bool", "int", "str", "tuple", "list", "dict"] then .ok (.bl (ns.any (aCK t))) w else .bad
  | _, _ => .bad)
 | _ => .bad
structure aKE (K : PySem.W.Frag) (kc : lT → lT → Option Bool) : Prop where
 one : ∀ t c r, kc t c = some r → PySem.W.kitOne K t.v c.v = some r
 ins : ∀ C c r, kc (.o C) c = some r → aHQ K C
def g6 : lT → lT → Option Bool := fun _ _ => none
theorem lD {K : PySem.W.Frag} : aKE K g6 := ⟨fun _ _ _ h => (by cases h), fun _ _ _ h => (by cases h)⟩
theorem R3 {K : PySem.W.Frag} {I : List Addr} {F G H : Hp} {w : W} (rel : Rel K I F G w H) {d : D} {v : V} (h : aG K I F d v) {t : lT} (e : C6 d w = some t) (hi : ∀ C, t = .o C → aHQ K C) : TyX K H v t.v := by
 have hT : ∀ {a : Addr} {vs : List V}, SqT K H a vs → TyX K H (.ref a) (.type "tuple") := fun {a vs} q => by
  rcases q with (q | ⟨o, q⟩) | q
  ·exact .base (.tup q)
  ·exact .fTuple q
  ·obtain ⟨o, its, n, q1, q2, _⟩ := q
   exact .kTuple q1 q2
 have hL : ∀ {a : Addr} {vs : List V}, SqL K H a vs → TyX K H (.ref a) (.type "list") := fun {a vs} q => by
  rcases q with (q | ⟨o, q⟩) | q
  ·exact .base (.lst q)
  ·exact .base (.frz q)
  ·obtain ⟨o, its, n, q1, q2, _⟩ := q
   exact .kList q1 q2
 cases d <;> simp only [C6, aj, reduceCtorEq] at e <;> simp only [aG] at h
 case non => subst h; subst e; exact .base .non
 case bl => subst h; subst e; exact .base (.bl _)
 case int => subst h; subst e; exact .base (.int _)
 case str => subst h; subst e; exact .base (.str _)
 case tup => obtain ⟨a, vs, rfl, h1, _⟩ := h; subst e; exact hT (.of (rel.fz _ _ h1))
 case vU => obtain ⟨a, vs, rfl, h1, _⟩ := h; subst e; exact hT (rel.VB h1)
 case lst => obtain ⟨a, vs, rfl, h1, _⟩ := h; subst e; exact hL (.of (rel.fz _ _ h1))
 case qK => obtain ⟨a, vs, rfl, h1, _⟩ := h; subst e; exact hL (rel.sqL h1)
 case ref i =>
  obtain ⟨a, rfl, hi'⟩ := h
  split at e
  ·rename_i hw; cases e; obtain ⟨u, hu, vs, rfl, _⟩ := rel.ob i a _ hi' hw; exact .base (.lst hu)
  ·rename_i hw; cases e; obtain ⟨u, hu, vs, rfl, _⟩ := rel.ob i a _ hi' hw; exact .base (.dK hu)
  ·rename_i hw; cases e; obtain ⟨u, hu, vs, rfl, _⟩ := rel.ob i a _ hi' hw; exact .base (.dT hu)
  ·rename_i hw; cases e; obtain ⟨u, hu, o, vs, rfl, _⟩ := rel.ob i a _ hi' hw; exact .fDict hu
  ·cases e
  ·rename_i C fs hw
   cases e
   obtain ⟨u, hu, dx, r, rfl, _⟩ := rel.ob i a _ hi' hw
   have z := hi C rfl
   exact .base (.ins hu z.cl z.ha z.hn z.tk z.hm)
  ·cases e
 case EZ =>
  obtain ⟨a, kvs, rfl, h1, _⟩ := h
  subst e
  rcases h1 with h1 | ⟨o, h1⟩
  ·exact .base (.dK (rel.fz _ _ h1))
  ·exact .fDict (rel.fz _ _ h1)
theorem WG {K : PySem.W.Frag} {I : List Addr} {F : Hp} {t : String} (ht : t ∈ names7) : ∀ {cs : List D} {ns : List String} {vs : List V}, aDe cs = some ns → RepL K I F cs vs → (∀ n ∈ ns, n ∈ ["bool", "int", "str", "tuple", "list", "dict"]) → ∃ ws, Paired ClsV vs ws ∧ PySem.W.kitAny K (.type t) ws = some (ns.any (aCK t))
 | [], ns, vs, e, r, _ => by
  simp only [aDe, aj] at e
  subst e
  simp only [RepL] at r
  subst r
  exact ⟨[], .nil, kitAny_nil⟩
 | d :: ds, ns, vs, e, r, hn => by
  cases d <;> simp only [aDe, aq, reduceCtorEq] at e
  rename_i n
  obtain ⟨ns', e1, rfl⟩ := e
  simp only [RepL, aG] at r
  obtain ⟨v, r', rfl, rfl, r2⟩ := r
  obtain ⟨ws, p, q⟩ := WG ht e1 r2 fun m hm => hn m (bc _ hm)
  refine ⟨.type n :: ws, .cons (.ty n) p, ?_⟩
  have k1 : PySem.W.kitOne K (.type t) (.type n) = some (aCK t n) := kit_ty (aA8 t ht n (hn n (aw ..)))
  rw [List.any_cons]
  refine kitAny_cons k1 (fun hb => ?_) fun hb => ?_
  ·rw [hb, Bool.false_or]; exact q
  ·rw [hb, Bool.true_or]
theorem pN {S : aR} {kc : lT → lT → Option Bool} (hk : aKE S.K kc) : CB S (.builtin "isinstance") (gQ kc) := CZ fun X E c xo I F G ds w H vs Q rel rl p => by
 unfold gQ at p
 split at p
 ·rename_i d n
  obtain ⟨v, u, rfl, rv, ru⟩ := rl.two
  simp only [aG] at ru
  subst ru
  split at p
  ·rename_i t ht
   split at p
   ·rename_i hc
    exact ⟨_, call_isi, v, .ty n, _, .type n, _, rfl, .ty n, R3 rel rv ht (fun C z => by cases z), kit_ty (aA8 t hc.1 n hc.2), p.nM rel (by simp [aG])⟩
   ·exact p.elim
  ·rename_i C hC
   split at p
   ·rename_i r hr
    exact ⟨_, call_isi, v, .ty n, _, .type n, _, rfl, .ty n, R3 rel rv hC (fun C' z => by cases z; rw [c.K]; exact hk.ins _ _ _ hr), by rw [c.K]; exact hk.one _ _ _ hr, p.nM rel (by simp [aG])⟩
   ·exact p.elim
  ·exact p.elim
 ·rename_i d C
  obtain ⟨v, u, rfl, rv, ru⟩ := rl.two
  simp only [aG] at ru
  subst ru
  split at p
  ·rename_i t ht
   split at p
   ·rename_i r hr
    exact ⟨_, call_isi, v, .ref C, _, .ref C, _, rfl, .own C, R3 rel rv ht (fun C' z => by subst z; rw [c.K]; exact hk.ins _ _ _ hr), by rw [c.K]; exact hk.one _ _ _ hr, p.nM rel (by simp [aG])⟩
   ·exact p.elim
  ·exact p.elim
 ·rename_i d cs
  obtain ⟨v, u, rfl, rv, ru⟩ := rl.two
  simp only [aG] at ru
  obtain ⟨tp, vs, rfl, h2, h3⟩ := ru
  split at p
  ·rename_i t ns ht hn
   split at p
   ·rename_i hc
    obtain ⟨ws, hp, hk2⟩ := WG (K := X.K) hc.1 hn h3 hc.2
    exact ⟨_, call_isiT, v, tp, vs, _, ws, _, rfl, rel.fz _ _ h2, hp, R3 rel rv ht (fun C z => by cases z), hk2, p.nM rel (by simp [aG])⟩
   ·exact p.elim
  ·exact p.elim
 ·exact p.elim
def wR : List D → Option (List Bool)
 | [] => some []
 | .bl b :: r => (wR r).map (b :: ·)
 | _ :: _ => none
theorem JR {K : PySem.W.Frag} {I : List Addr} {F : Hp} : ∀ {ds : List D} {vs : List V} {ns : List Bool}, RepL K I F ds vs → wR ds = some ns → vs = ns.map V.bl
 | [], vs, ns, h, e => by simp only [wR, aj] at e; subst e; simp only [RepL] at h; exact h
 | d :: ds, vs, ns, h, e => by
  cases d <;> simp only [wR, aq, reduceCtorEq] at e
  obtain ⟨r, e1, rfl⟩ := e
  simp only [RepL, aG] at h
  obtain ⟨v, t, rfl, rfl, h2⟩ := h
  rw [JR h2 e1]
  rfl
def allM : MF := fun ds w => match ds with
 | [d] => (match (tL d w).bind wR with
  | some bs => .ok (.bl (bs.all id)) w
  | none => .bad)
 | _ => .bad
theorem D7 {S : aR} : CB S (.builtin "all") allM := CZ fun X E c xo I F G ds w H vs Q rel rl p => by
 unfold allM at p
 split at p
 ·rename_i d
  obtain ⟨v, rfl, rv⟩ := rl.one
  split at p
  ·rename_i bs hn
   obtain ⟨xs, h1, h2⟩ := dv.mp hn
   obtain ⟨a, us, rfl, hq, hr⟩ := G6 rel rv h1
   obtain rfl := JR hr h2
   exact ⟨_, cr_all c.calm, a, bs, rfl, hq, p.nM rel (by simp [aG])⟩
  ·exact p.elim
 ·exact p.elim
def TV (x y : D) (w : W) : Res D := match x, y with
 | .int a, .int b => .ok (.bl (decide (a < b))) w
 | x, y => match (AV x).bind mW, (AV y).bind mW with
  | some ns, some ms => .ok (.bl (HT.lexLt ns ms)) w
  | _, _ => .bad
theorem aBc {S : aR} : O2 S (compareOp .Lt) TV := gU fun X E c xo I F G d e w H x y Q rel rd re p => by
 unfold TV at p
 split at p
 ·simp only [aG] at rd re
  exact ⟨_, op_lt, _, _, rd, re, p.nM rel (by simp [aG])⟩
 ·split at p
  ·rename_i ns ms h1 h2
   obtain ⟨xs, q1, q2⟩ := dv.mp h1
   obtain ⟨ys, q3, q4⟩ := dv.mp h2
   obtain ⟨a, us, rfl, g1, g2⟩ := aDs rel rd q1
   obtain ⟨b, ts, rfl, g3, g4⟩ := aDs rel re q3
   obtain rfl := sW g2 q2
   obtain rfl := sW g4 q4
   exact ⟨_, op_ltT (by have := c.room.un; omega), a, b, ns, ms, rfl, rfl, g1, g3, p.nM rel (by simp [aG])⟩
  ·exact p.elim
theorem LM {K : PySem.W.Frag} {I : List Addr} {F G H : Hp} {w : W} {q : Addr} {u : HO} (rel : Rel K I F (upd G q u) w H) (hG : G q = none) : Rel K I F G w H :=
 ⟨rel.len, rel.nd, rel.ob, rel.fz, rel.ap, fun a v h => rel.gz a v (by rw [upd_ne (ne_of_none h hG)]; exact h), fun a v h => rel.gf a v (by rw [upd_ne (ne_of_none h hG)]; exact h), fun a xs h => rel.gt a xs (by rw [upd_ne (ne_of_none h hG)]; exact h)⟩
theorem bC.more {α : Type} {K : PySem.W.Frag} {I : List Addr} {F G : Hp} {E : XK} {R R' : List Addr → Hp → Hp → α → W → Prop} {r : Res α} {q : Addr} {u : HO} (p : bC K I F G E R r) (hG : G q = none)
  (k : ∀ I' F' H' a w, r = .ok a w → Ext I F I' F' → Rel K I' F' (upd G q u) w H' → R I' F' H' a w → R' I' F' H' a w) : bC K I F (upd G q u) E R' r := by
 cases r with
 | ok a w => exact fun I' F' H' e rel => k I' F' H' a w rfl e rel (p I' F' H' e (LM rel hG))
 | zC x w => exact fun I' F' H' c d e rel rx => p I' F' H' c d e (LM rel hG) rx
 | bad => exact p
abbrev MP := Sg → W → Res (List (D × D))
def aAl : MP := fun _ w => .ok [] w
def hX (mk mv : ME) (r : MP) : MP := fun σ w => (mk σ w).bind fun k w1 => (mv σ w1).bind fun v w2 => (r σ w2).bind fun ps w3 => .ok ((k, v) :: ps) w3
def keyed : List (D × D) → Option (List (Key × D))
 | [] => some []
 | (k, v) :: r => match keyD k, keyed r with
  | some j, some t => some ((j, v) :: t)
  | _, _ => none
def AM {κ : Type} [DecidableEq κ] (kvs more : List (κ × D)) : List (κ × D) := more.foldl (fun acc kv => putD acc kv.1 kv.2) kvs
def U6 (m : MP) : ME := fun σ w => (m σ w).bind fun ps w1 => match keyed ps with
 | some kvs => if kvs.length ≤ 15 then .ok (.ref w1.length) (w1 ++ [.dK (AM [] kvs)]) else .bad
 | none => .bad
def TJ : ME := fun _ w => .ok (.ref w.length) (w ++ [.dT []])
def aLb (K : PySem.W.Frag) (I : List Addr) (F : Hp) (ps : List (D × D)) (vs : List (V × V)) : Prop := RepL K I F (ps.map (·.1)) (vs.map (·.1)) ∧ RepL K I F (ps.map (·.2)) (vs.map (·.2))
def RPs (K : PySem.W.Frag) (Q : List (V × V) → Hp → Prop) : List Addr → Hp → Hp → List (D × D) → W → Prop := fun I' F' H' ps _ => ∀ vs, aLb K I' F' ps vs → Q vs H'
def lowP (K : PySem.W.Frag) (E : XK) (m : MP) : L2.St → Hp → (List (V × V) → Hp → Prop) → Prop := fun σ H Q => ∃ I F G ds w, Rel K I F G w H ∧ dU K I F ds σ ∧ bC K I F G E (RPs K Q) (m ds w)
def JD (S : aR) (pos : Pos) (ks : List (Option Expr)) (vs : List Expr) (m : MP) : Prop := ∀ X E, Ctx S X → vV X E → ∃ trs, PPs X pos ks vs trs ∧ ∀ σ H Q, lowP X.K E m σ H Q → tPairs trs σ H Q
theorem aS.merge {K : PySem.W.Frag} {I : List Addr} {F : Hp} {κ : Type} [DecidableEq κ] : ∀ {more : List (κ × D)} {rs : List (κ × V)} {kvs : List (κ × D)} {vs : List (κ × V)}, aS K I F more rs → aS K I F kvs vs → aS K I F (AM kvs more) (rs.foldl (fun acc kv => putK acc kv.1 kv.2) vs)
 | [], rs, kvs, vs, h, g => by simp only [aS] at h; subst h; exact g
 | (k, d) :: more, rs, kvs, vs, h, g => by
  simp only [aS] at h
  obtain ⟨v, r, rfl, h1, h2⟩ := h
  exact aS.merge (more := more) (rs := r) h2 (g.put k h1)
theorem NW {K : PySem.W.Frag} {I : List Addr} {F : Hp} : ∀ {ps : List (D × D)} {vs : List (V × V)} {kvs : List (Key × D)}, aLb K I F ps vs → keyed ps = some kvs → ∃ r : List (Key × V), vs = r.map (fun kv => (kV kv.1, kv.2)) ∧ aS K I F kvs r
 | [], vs, kvs, h, e => by
  simp only [keyed, aj] at e
  subst e
  have := h.1
  simp only [dz, RepL, List.map_eq_nil_iff] at this
  subst this
  exact ⟨[], rfl, by simp [aS]⟩
 | (k, d) :: ps, vs, kvs, h, e => by
  obtain ⟨h1, h2⟩ := h
  cases vs with
  | nil => simp only [bt, dz, RepL] at h1; obtain ⟨_, _, z, _⟩ := h1; cases z
  | cons x vs =>
   obtain ⟨x1, x2⟩ := x
   simp only [bt, RepL] at h1 h2
   obtain ⟨v, r, z1, g1, g2⟩ := h1
   obtain ⟨u, t, z2, g3, g4⟩ := h2
   cases z1
   cases z2
   simp only [keyed] at e
   split at e
   ·rename_i j tt e1 e2
    cases e
    obtain ⟨rr, e3, e4⟩ := NW ⟨g2, g4⟩ e2
    refine ⟨(j, x2) :: rr, ?_, ?_⟩
    ·rw [bt, ← e3, xZ g1 e1]
    ·simp only [aS]; exact ⟨x2, rr, rfl, g3, e4⟩
   ·cases e
section
variable {S : aR} {pos : Pos} {k v : Expr} {ks : List (Option Expr)} {vs : List Expr} {mk mv : ME} {m : MP}
theorem YZ : JD S pos [] [] aAl := fun X E cx xo => ⟨[], pps_nil, fun σ H Q ⟨I, F, G, ds, w, rel, rs, p⟩ => p I F H .refl rel [] ⟨by simp [RepL], by simp [RepL]⟩⟩
theorem gZ (hk : JE S k mk) (hv : JE S v mv) (hr : JD S pos ks vs m) : JD S pos (some k :: ks) (v :: vs) (hX mk mv m) := fun X E cx xo => by
 obtain ⟨trs, h1, h2⟩ := hr X E cx xo
 refine ⟨(y9 X.K E mk, y9 X.K E mv) :: trs, pps_cons (hk X E cx xo) (hv X E cx xo) h1, fun σ H Q ⟨I, F, G, ds, w, rel, rs, p⟩ => ?_⟩
 refine cF (f := fun ds x w1 => (mv ds w1).bind fun y w2 => (m ds w2).bind fun ps w3 => .ok ((x, y) :: ps) w3) rel rs p fun I1 F1 H1 x w1 a e1 rel1 rs1 ra p1 => ?_
 refine cF (f := fun ds y w2 => (m ds w2).bind fun ps w3 => .ok ((x, y) :: ps) w3) rel1 rs1 p1 fun I2 F2 H2 y w2 b e2 rel2 rs2 rb p2 => ?_
 refine h2 σ H2 _ ⟨I2, F2, G, ds, w2, rel2, rs2, (bC.bind p2).mono fun I3 F3 H3 ps w3 _ e3 rel3 p3 us ru => ?_⟩
 refine p3 I3 F3 H3 .refl rel3 ((a, b) :: us) ⟨?_, ?_⟩
 ·exact RepL.cons (aG.ext (e2.trans e3) _ _ ra) ru.1
 ·exact RepL.cons (aG.ext e3 _ _ rb) ru.2
theorem XQ (h : JD S pos ks vs m) (hall : ks.all (·.isSome) = true := by rfl) (hl : ks.length = vs.length := by rfl) (h0 : ks ≠ [] := by simp) (h15 : ks.length ≤ 15 := by exact ao rfl) : JE S (.Dict ks vs pos) (U6 m) := fun X E cx xo => by
 obtain ⟨trs, g1, g2⟩ := h X E cx xo
 refine cC (pe_disp g1 hall hl h0 h15) fun σ H Q ⟨I, F, G, ds, w, rel, rs, p⟩ q hq => ?_
 have hG : G q = none := by
  cases z : G q with
  | none => rfl
  | some u => rw [rel.gz _ _ z] at hq; cases hq
 refine g2 σ _ _ ⟨I, F, upd G q (.dK []), ds, w, rel.keep hq, rs, (bC.bind p).more hG fun I1 F1 H1 ps w1 _ e1 rel1 p1 us ru => ?_⟩
 refine ⟨rel1.gz q _ upd_same, ?_⟩
 split at p1
 ·rename_i kvs hk
  split at p1
  ·rename_i hl'
   obtain ⟨r, e2, e3⟩ := NW ru hk
   refine ⟨r, e2, by rw [← e3.length]; exact hl', ?_⟩
   obtain ⟨ee, rel2⟩ := (rel1.aDF (u' := .dK (mergeK [] r))).owned hG (o := .dK (AM [] kvs)) ⟨_, rfl, aS.merge e3 (by simp [aS])⟩
   refine p1 _ _ _ ee rel2 _ ?_
   simp only [aG]
   refine ⟨q, rfl, ?_⟩
   rw [← rel1.len, cy (az _)]
   simp
  ·exact p1.elim
 ·exact p1.elim
end
def getM : MMt := fun d ds w => match d, ds with
 | .ref i, [k, z] => (match w[i]? with
  | some o => (match qU o k with
   | some r => .ok (r.getD z) w
   | none => .bad)
  | none => .bad)
 | _, _ => .bad
theorem aDa {S : aR} : MB S "dict.get" getM := LG fun X E c xo I F G d ds w H x vs Q rel rd rl p => by
 unfold getM at p
 split at p
 ·rename_i i k z
  simp only [aG] at rd
  obtain ⟨a, rfl, hi⟩ := rd
  obtain ⟨vk, vz, rfl, rk, rz⟩ := rl.two
  split at p
  ·rename_i o hw
   split at p
   ·rename_i r hr
    obtain ⟨q, g, hq⟩ := G4 rel hi hw rk hr
    refine ⟨fun x xs H Q => ∃ a k z o, x = .ref a ∧ xs = [k, z] ∧ DGet H a k o ∧ Q (o.getD z) H, fun pins s σ H x xs v us Q J rx rxs h => ?_, a, vk, vz, q, rfl, rfl, g, ?_⟩
    ·obtain ⟨a, k, z, o, rfl, rfl, g, q⟩ := h
     cases rx
     obtain ⟨u1, u2, rfl, r1, r2⟩ := rxs.two
     exact d_get2 (by have := c.room.un; omega) J g r1 r2 fun w' s' J' r' => ⟨_, H, J', r', q⟩
    ·refine p.nM rel ?_
     cases r with
     | none => rw [show q = none from hq]; exact rz
     | some d => obtain ⟨v, rfl, hv⟩ := hq; exact hv
   ·exact p.elim
  ·exact p.elim
 ·exact p.elim
def aFR : Key → D
 | .inl i => .int i
 | .inr x => .str x
def aDt (d : D) (w : W) : Res lO := match d with
 | .ref i => (match w[i]? with
  | some (.dK kvs) => .ok ⟨kvs.map fun p => .tup [aFR p.1, p.2], always⟩ (w.set i (.dF kvs))
  | _ => .bad)
 | _ => .bad
def aAH (m : ME) : MI := fun σ w => (m σ w).bind aDt
theorem aS.get {K : PySem.W.Frag} {I : List Addr} {F : Hp} {κ : Type} : ∀ {kvs : List (κ × D)} {r : List (κ × V)} {i : Nat} {k : κ} {v : V}, aS K I F kvs r → r[i]? = some (k, v) → ∃ d, kvs[i]? = some (k, d) ∧ aG K I F d v
 | [], r, i, k, v, h, e => by simp only [aS] at h; subst h; simp at e
 | (j, d) :: kvs, r, 0, k, v, h, e => by
  simp only [aS] at h
  obtain ⟨u, t, rfl, h1, h2⟩ := h
  simp at e
  obtain ⟨rfl, rfl⟩ := e
  exact ⟨d, rfl, h1⟩
 | (j, d) :: kvs, r, i + 1, k, v, h, e => by
  simp only [aS] at h
  obtain ⟨u, t, rfl, h1, h2⟩ := h
  obtain ⟨d', h3, h4⟩ := aS.get (i := i) h2 (by simpa using e)
  exact ⟨d', by simpa using h3, h4⟩
theorem OI {K : PySem.W.Frag} {I : List Addr} {F G H : Hp} {w : W} {ds : List D} {vs : List V} (rel : Rel K I F G w H) (r : RepL K I F ds vs) {q : Addr} (hq : H q = none) : ∃ F2, Ext I F I F2 ∧ Rel K I F2 G w (upd H q (.tup vs)) ∧ aG K I F2 (.tup ds) (.ref q) := by
 have hF : F q = none := by
  cases h : F q with
  | none => rfl
  | some u => rw [rel.fz _ _ h] at hq; cases hq
 have e : Ext I F I (upd F q (.tup vs)) := ⟨List.prefix_refl _, fun a u h => by rw [upd_ne (ne_of_none h hF)]; exact h⟩
 refine ⟨_, e, ⟨rel.len, rel.nd, fun i a o h1 h2 => ?_, fun a u h => ?_, fun i a o h h0 hf => ?_, fun a u h => ?_, fun a u h => ?_, rel.gt⟩, ?_⟩
 ·obtain ⟨u, h3, h4⟩ := rel.ob i a o h1 h2
  exact ⟨u, by rw [upd_ne (ne_of_none h3 hq)]; exact h3, qL.ext e h4⟩
 ·by_cases ha : a = q
  ·subst ha; rw [upd_same] at h ⊢; exact h
  ·rw [upd_ne ha] at h ⊢; exact rel.fz a u h
 ·obtain ⟨u, h3, _⟩ := rel.ob i a o h h0
  rw [upd_ne (ne_of_none h3 hq)]; exact rel.ap i a o h h0 hf
 ·rw [upd_ne (ne_of_none (rel.gz a u h) hq)]; exact rel.gz a u h
 ·rw [upd_ne (ne_of_none (rel.gz a u h) hq)]; exact rel.gf a u h
 ·simp only [aG]
  exact ⟨q, vs, rfl, upd_same, RepL.ext e _ _ r⟩
open Classical in
open Classical in
theorem still {α : Type} {K : PySem.W.Frag} {R : List Addr → Hp → Hp → α → W → Prop} {r : Res α} {I : List Addr} {F G : Hp} {q : Addr} {u : HO} (hG : G q = none) (p : bC K I F G E0 R r) :
  bC K I F (upd G q u) E0 (fun I' F' H' a w => Rel K I' F' (upd G q u) w H' ∧ ∀ H'', Rel K I' F' G w H'' → R I' F' H'' a w) r := by
 cases r with
 | ok a w => exact fun I' F' H' e q => ⟨q, fun H'' q' => p I' F' H'' e q'⟩
 | zC x w => exact fun I' F' H' c d e q rx => p I' F' H' c d e (LM q hG) rx
 | bad => exact p
structure KTab (K : PySem.W.Frag) (w : World) (d : Addr) (tab : List (Str × Option D)) : Prop where
 ex : ∃ es n, KDict K w d es n
 hit : ∀ z x, tab.lookup z = some (some x) → ∃ u v, PySem.W.nsIn K d z = some (some u) ∧ RelV v u ∧ ∀ I F, aG K I F x v
 miss : ∀ z, tab.lookup z = some none → PySem.W.nsIn K d z = some none
 out : ∀ z, tab.lookup z = none → PySem.W.nsIn K d z = some none
def V5 (d : Addr) (tab : List (Str × Option D)) (x y : D) (w : W) : Res D := match x, y with
 | .str z, .con a => if a = d then (match tab.lookup z with
  | some o => .ok (.bl o.isSome) w
  | none => .ok (.bl false) w) else .bad
 | _, _ => .bad
def ZL (d : Addr) (tab : List (Str × Option D)) (x y : D) (w : W) : Res D := match x, y with
 | .con a, .str z => if a = d then (match tab.lookup z with
  | some (some v) => .ok v w
  | _ => .bad) else .bad
 | _, _ => .bad
theorem aJy {S : aR} {d : Addr} {tab : List (Str × Option D)} (T : KTab S.K S.w d tab) : O2 S (compareOp .In) (V5 d tab) := gU fun X E c xo I F G a b w H x y Q rel rd re p => by
 unfold V5 at p
 split at p
 ·rename_i z a'
  simp only [aG] at rd re
  subst rd re
  split at p
  ·rename_i hd
   subst hd
   obtain ⟨es, n, T1⟩ := T.ex
   rw [← c.K, ← c.w] at T1
   cases h : tab.lookup z with
   | none => rw [h] at p; exact ⟨_, op_in_kd T1, z, none, rfl, rfl, by rw [c.K]; exact T.out z h, p.nM rel (by simp [aG])⟩
   | some o =>
    rw [h] at p
    cases o with
    | none => exact ⟨_, op_in_kd T1, z, none, rfl, rfl, by rw [c.K]; exact T.miss z h, p.nM rel (by simp [aG])⟩
    | some v =>
     obtain ⟨u, v', h1, h2, h3⟩ := T.hit z v h
     exact ⟨_, op_in_kd T1, z, some u, rfl, rfl, by rw [c.K]; exact h1, p.nM rel (by simp [aG])⟩
  ·exact p.elim
 ·exact p.elim
theorem aJG {S : aR} {d : Addr} {tab : List (Str × Option D)} (T : KTab S.K S.w d tab) : aE3 S (ZL d tab) := VD fun X E c xo I F G a b w H x y Q rel rd re p => by
 unfold ZL at p
 split at p
 ·rename_i a' z
  simp only [aG] at rd re
  subst rd re
  split at p
  ·rename_i hd
   subst hd
   obtain ⟨es, n, T1⟩ := T.ex
   rw [← c.K, ← c.w] at T1
   cases h : tab.lookup z with
   | none => rw [h] at p; exact p.elim
   | some o =>
    cases o with
    | none => rw [h] at p; exact p.elim
    | some v =>
    rw [h] at p
    obtain ⟨u, v', h1, h2, h3⟩ := T.hit z v h
    exact ⟨_, ix_kdict, a', z, v', rfl, rfl, ⟨es, n, u, T1.at_, T1.lit, by rw [c.K]; exact h1, h2⟩, p.nM rel (by rw [c.K]; exact h3 _ _)⟩
  ·exact p.elim
 ·exact p.elim
theorem aJM {S : aR} {d : Addr} {tab : List (Str × Option D)} {a b : Expr} {ma mb : ME} {pos : Pos} (T : KTab S.K S.w d tab) (ha : JE S a ma) (hb : JE S b mb) (hs : PlainIx b := by intro _ _; rfl) : JE S (.Subscript a b pos) (aE (ZL d tab) ma mb) := fun X E c xo =>
 cC (pe_ix (aJG T X E c xo) (ha X E c xo) (hb X E c xo) hs) fun _ _ _ h => B3 h
open RZ (nextOf_tuple_item nextOf_tuple_end zipTH1 zipTH2 zipTH3 zipTH4)
abbrev vS (h : Heap) (z TI TO : Addr) (f0 : Value) : Prop :=
 h.get? z = some { cls := .type "zip", dict := none, data := .fields #[f0, .bool false, .bool true, .ref TI, .ref TO], slots := #[] }
abbrev zsH (h : Heap) (l1 l2 : Addr) : Heap := (zipTH4 h l1 l2).push { cls := .type "zip", data := .fields #[.none, .bool false, .bool true, .ref (zipTH2 h l1 l2).objs.size, .ref (zipTH3 h l1 l2).objs.size] }
theorem VH (a b c : Value) : checkTypeCall "zip" ⟨[a, b], [(Str.ofString "strict", c)]⟩ = pure () := by kernel_rfl
theorem aAi (a b c : Value) : checkBuiltinCall "zip.__new__" ⟨[.type "zip", a, b], [(Str.ofString "strict", c)]⟩ = pure () := by kernel_rfl
theorem aF1 (x a b c : Value) : argsOk "object.__init__" ⟨[x, a, b], [(Str.ofString "strict", c)]⟩ := by unfold argsOk; kernel_rfl
theorem aIZ (l1 l2 : Addr) (xs ys : Array Value) : Meets (Builtin.«zip.__new__» ⟨[.type "zip", .ref l1, .ref l2], [(Str.ofString "strict", .bool true)]⟩) (fun _ R s => s.heap.IsTuple l1 xs ∧ s.heap.IsTuple l2 ys ∧
   R (.ok (.ret (.ref (zipTH4 s.heap l1 l2).objs.size))) { s with heap := zsH s.heap l1 l2 }) :=
 .of_wp fun prog w A R s ⟨t1, t2, fin⟩ => by
  obtain ⟨hp, gs, dr, tk, os⟩ := s
  have sub0 := sub_zip
  have T1 : Heap.IsTuple (Shared.heap ⟨hp, gs, dr, tk, os⟩) l1 xs := t1
  have T2 : Heap.IsTuple (Shared.heap ⟨hp.push { cls := .type "tuple_iterator", data := .fields #[.ref l1, .int 0 0] }, gs, dr, tk, os⟩) l2 ys := Heap.IsTuple.push t2 _
  have s1 : (Str.ofString "strict" == ("strict" : Str)) = true := by decide +kernel
  have s2 : (Str.ofString "strict" != ("strict" : Str)) = false := by decide +kernel
  wp_walk using wpAny_pyIter_tuple T1, wpAny_pyIter_tuple T2
  exact ⟨_, rfl, fin⟩
open RZ (nextOf_tuple_item nextOf_tuple_end zipTH1 zipTH2 zipTH3 zipTH4)
section
variable {prog : Program} {w : World} {A : Around} {E : Value → Shared → Prop} {s : Shared}
theorem aFE {l1 l2 : Addr} {xs ys : Array Value} {Q : Value → Shared → Prop} (t1 : s.heap.IsTuple l1 xs) (t2 : s.heap.IsTuple l2 ys)
  (fin : ∀ g, vS g (s.heap.objs.size + 4) (s.heap.objs.size + 2) (s.heap.objs.size + 3) .none → IsPair g (s.heap.objs.size + 2) (.ref s.heap.objs.size) (.ref (s.heap.objs.size + 1)) → IsPair g (s.heap.objs.size + 3) .none .none →
   g.IsTupleIter s.heap.objs.size l1 0 → g.IsTupleIter (s.heap.objs.size + 1) l2 0 → (∀ c o, s.heap.get? c = some o → g.get? c = some o) → Q (.ref (s.heap.objs.size + 4)) { s with heap := g }) :
  wpAny (model prog w) A (call (.type "zip") [.ref l1, .ref l2] [(Str.ofString "strict", .bool true)]) Q E s := by
 refine callType_newKw F.called_zip (by decide) (VH _ _ _) (aAi _ _ _) (fun x => aF1 x _ _ _) F.entry_zip_new (aIZ l1 l2 xs ys) ⟨t1, t2, ?_⟩
 have n1 : (zipTH1 s.heap l1).objs.size = s.heap.objs.size + 1 := Heap.size_push ..
 have n2 : (zipTH2 s.heap l1 l2).objs.size = s.heap.objs.size + 2 := by rw [Heap.size_push, n1]
 have n3 : (zipTH3 s.heap l1 l2).objs.size = s.heap.objs.size + 3 := by rw [Heap.size_push, n2]
 have n4 : (zipTH4 s.heap l1 l2).objs.size = s.heap.objs.size + 4 := by rw [Heap.size_push, n3]
 have up1 : ∀ {c o}, (zipTH4 s.heap l1 l2).get? c = some o → (zsH s.heap l1 l2).get? c = some o := fun h => Heap.get?_push_of_some _ h
 have up2 : ∀ {c o}, (zipTH3 s.heap l1 l2).get? c = some o → (zsH s.heap l1 l2).get? c = some o := fun h => up1 (Heap.get?_push_of_some _ h)
 have up3 : ∀ {c o}, (zipTH2 s.heap l1 l2).get? c = some o → (zsH s.heap l1 l2).get? c = some o := fun h => up2 (Heap.get?_push_of_some _ h)
 have up4 : ∀ {c o}, (zipTH1 s.heap l1).get? c = some o → (zsH s.heap l1 l2).get? c = some o := fun h => up3 (Heap.get?_push_of_some _ h)
 have k5 : (zsH s.heap l1 l2).get? (zipTH4 s.heap l1 l2).objs.size = some _ := Heap.get?_push_size _ rfl
 have k4 : (zsH s.heap l1 l2).get? (zipTH3 s.heap l1 l2).objs.size = some _ := up1 (Heap.get?_push_size _ rfl)
 have k3 : (zsH s.heap l1 l2).get? (zipTH2 s.heap l1 l2).objs.size = some _ := up2 (Heap.get?_push_size _ rfl)
 have k2 : (zsH s.heap l1 l2).get? (zipTH1 s.heap l1).objs.size = some _ := up3 (Heap.get?_push_size _ rfl)
 have k1 : (zsH s.heap l1 l2).get? s.heap.objs.size = some _ := up4 (Heap.get?_push_size _ rfl)
 show _ ∧ _
 rw [n2, n3, n4] at k5
 rw [n1, n2] at k3
 rw [n3] at k4
 rw [n1] at k2
 rw [n4]
 exact ⟨⟨_, k5, rfl⟩, fin _ k5 k3 k4 ⟨_, k1, rfl, rfl⟩ ⟨_, k2, rfl, rfl⟩ fun c o h => up4 (Heap.get?_push_of_some _ h)⟩
theorem WV {it l : Addr} {i : Nat} {items : Array Value} {x : Value} {Q : Option Value → Shared → Prop} (a : s.heap.IsTupleIter it l i) (b : s.heap.IsTuple l items) (c : items[i]? = some x)
  (q : ∀ g, g.IsTupleIter it l (i + 1) → Heap.SameBut it s.heap g → Q (some x) { s with heap := g }) : wpAny (model prog w) A (Builtin.SmallTypes.nextOrEnd (.ref it)) Q E s := by
 unfold Builtin.SmallTypes.nextOrEnd
 exact wpAny_bind (wpAny_attempt (nextOf_tuple_item a b c fun g g1 g2 => wpAny_pure (q g g1 g2)))
theorem aAJ {it l : Addr} {i : Nat} {items : Array Value} {Q : Option Value → Shared → Prop} (hh : A.handled = none) (a : s.heap.IsTupleIter it l i) (b : s.heap.IsTuple l items) (c : items[i]? = none)
  (q : ∀ g, Heap.ExtBut it s.heap g → Q none { s with heap := g }) : wpAny (model prog w) A (Builtin.SmallTypes.nextOrEnd (.ref it)) Q E s := by
 unfold Builtin.SmallTypes.nextOrEnd
 refine wpAny_bind (wpAny_attempt (nextOf_tuple_end hh a b c fun g e g1 ⟨o, g2, g3⟩ => ?_))
 refine wpAny_bind (wpAny_isInstance (T := "StopIteration") (b := true) ⟨o, g2, g3⟩ isSubtype_stop ?_)
 exact wpAny_pure (q g g1)
theorem LO {T : Addr} {a b x : Value} {k : Nat} {Q : Unit → Shared → Prop} (h : IsPair s.heap T a b) (q : ∀ g, g.get? T = some { cls := .type "tuple", data := .seq ((#[a, b] : Array Value).setIfInBounds k x) } → Heap.SameBut T s.heap g → Q () { s with heap := g }) :
  wpAny (model prog w) A (updateSeq T (·.setIfInBounds k x)) Q E s := wpAny_updateSeq_pair h q
theorem aGw {z TI TO i1 i2 l1 l2 : Addr} {k : Nat} {xs ys : Array Value} {x y a b : Value} {Q : Value → Shared → Prop} (D : ZipApart z TI TO i1 i2 l1 l2)
  (hz : vS s.heap z TI TO .none) (hI : IsPair s.heap TI (.ref i1) (.ref i2)) (hO : IsPair s.heap TO a b) (a1 : s.heap.IsTupleIter i1 l1 k) (a2 : s.heap.IsTupleIter i2 l2 k) (b1 : s.heap.IsTuple l1 xs) (b2 : s.heap.IsTuple l2 ys) (c1 : xs[k]? = some x) (c2 : ys[k]? = some y)
  (fin : ∀ g, vS g z TI TO (rawInt s.heap.objs.size) → IsPair g TO x y → g.IsTupleIter i1 l1 (k + 1) → g.IsTupleIter i2 l2 (k + 1) → IsPair g s.heap.objs.size x y → (∀ c o, c ≠ z → c ≠ TO → c ≠ i1 → c ≠ i2 → s.heap.get? c = some o → g.get? c = some o) → Q (.ref s.heap.objs.size) { s with heap := g }) :
  wpAny (model prog w) A (Builtin.«zip.__next__» ⟨[.ref z], []⟩) (fun f t => ∃ v, f = .done (.ret v) ∧ Q v t) E s := by
 show wpAny _ _ (field (.ref z) 2 >>= _) _ _ _
 refine wpAny_bind (wpAny_field hz rfl (x := .bool true) rfl ?_)
 show wpAny _ _ (field (.ref z) 3 >>= _) _ _ _
 refine wpAny_bind (wpAny_field hz rfl (x := .ref TI) rfl ?_)
 refine wpAny_bind (wpAny_seqItems hI rfl ?_)
 show wpAny _ _ (Builtin.SmallTypes.ownedTupleIsFree (.ref z) >>= _) _ _ _
 refine wpAny_bind ?_
 unfold Builtin.SmallTypes.ownedTupleIsFree
 refine wpAny_bind (wpAny_field hz rfl (x := .none) rfl (wpAny_pure ?_))
 simp only [af]
 refine wpAny_bind (wpAny_rule ?_)
 refine wpAny_bind (wpAny_field hz rfl (x := .ref TO) rfl ?_)
 refine wpAny_bind (wpAny_setField_rec hz (by simp) fun g1 z1 s1 => ?_)
 have z1' : vS g1 z TI TO .ellipsis := z1
 refine wpAny_bind ?_
 simp only [List.zipIdx_cons, List.zipIdx_nil, List.forIn_cons, List.forIn_nil]
 refine wpAny_bind (wpAny_bind (wpAny_onRaise ?_))
 show wpAny _ _ (Builtin.SmallTypes.nextOrEnd (.ref i1)) _ _ _
 refine WV (a1.extBut s1.extBut D.i1z) (b1.extBut s1.extBut D.l1z) c1 fun g2 d1 s2 => ?_
 have O2 : IsPair g2 TO a b := s2.extBut _ _ D.TOi1 (s1.extBut _ _ D.TOz hO)
 refine wpAny_bind (wpAny_seqItems O2 rfl ?_)
 refine wpAny_bind (LO O2 fun g3 O3 s3 => ?_)
 have O3' : IsPair g3 TO x b := O3
 refine wpAny_bind (wpAny_letGo (wpAny_pure ?_))
 refine wpAny_bind (wpAny_bind (wpAny_onRaise ?_))
 show wpAny _ _ (Builtin.SmallTypes.nextOrEnd (.ref i2)) _ _ _
 refine WV (((a2.extBut s1.extBut D.i2z).extBut s2.extBut D.i12.symm).extBut s3.extBut D.TOi2.symm) (((b2.extBut s1.extBut D.l2z).extBut s2.extBut D.l2i1).extBut s3.extBut D.l2TO) c2 fun g4 d2 s4 => ?_
 have O4 : IsPair g4 TO x b := s4.extBut _ _ D.TOi2 O3'
 refine wpAny_bind (wpAny_seqItems O4 rfl ?_)
 refine wpAny_bind (LO O4 fun g5 O5 s5 => ?_)
 have O5' : IsPair g5 TO x y := O5
 refine wpAny_bind (wpAny_letGo (wpAny_pure (wpAny_pure ?_)))
 refine wpAny_bind (wpAny_seqItems O5' rfl ?_)
 refine wpAny_bind (wpAny_newTuple ?_)
 have size5 : g5.objs.size = s.heap.objs.size := by rw [s5.1, s4.1, s3.1, s2.1, s1.1]
 have z5 : vS g5 z TI TO .ellipsis := s5.extBut _ _ D.TOz.symm (s4.extBut _ _ D.i2z.symm (s3.extBut _ _ D.TOz.symm (s2.extBut _ _ D.i1z.symm z1')))
 have kp : ∀ c o, c ≠ z → c ≠ TO → c ≠ i1 → c ≠ i2 → s.heap.get? c = some o → g5.get? c = some o := fun c o n1 n2 n3 n4 e =>
  s5.extBut _ _ n2 (s4.extBut _ _ n4 (s3.extBut _ _ n2 (s2.extBut _ _ n3 (s1.extBut _ _ n1 e))))
 have d1' : g5.IsTupleIter i1 l1 (k + 1) := ((d1.extBut s3.extBut D.TOi1.symm).extBut s4.extBut D.i12).extBut s5.extBut D.TOi1.symm
 have d2' : g5.IsTupleIter i2 l2 (k + 1) := d2.extBut s5.extBut D.TOi2.symm
 have zl : z < g5.objs.size := Heap.lt_size z5
 show wpAny _ _ (Builtin.SmallTypes.ownedTupleHandOut (.ref z) (.ref g5.objs.size) >>= _) _ _ _
 refine wpAny_bind ?_
 unfold Builtin.SmallTypes.ownedTupleHandOut
 have z6 : vS (g5.push { cls := .type "tuple", data := .seq #[x, y] }) z TI TO .ellipsis := Heap.get?_push_of_some _ z5
 refine wpAny_bind (wpAny_setField_rec z6 (by simp) fun g7 z7 s7 => ?_)
 have z7' : vS g7 z TI TO (rawInt g5.objs.size) := z7
 refine wpAny_setField_rec z7' (by simp) fun g8 z8 s8 => ?_
 have z8' : vS g8 z TI TO (rawInt g5.objs.size) := z8
 have up : ∀ c o, c ≠ z → g5.get? c = some o → g8.get? c = some o := fun c o n e => s8.extBut _ _ n (s7.extBut _ _ n (Heap.get?_push_of_some _ e))
 have T8 : IsPair g8 g5.objs.size x y := s8.extBut _ _ (Nat.ne_of_gt zl) (s7.extBut _ _ (Nat.ne_of_gt zl) (Heap.get?_push_size _ rfl))
 rw [size5] at z8' T8
 refine wpAny_pure ⟨_, rfl, ?_⟩
 show Q (.ref g5.objs.size) _
 rw [size5]
 exact fin g8 z8' (up _ _ D.TOz O5') (d1'.at fun o e => up _ o D.i1z e) (d2'.at fun o e => up _ o D.i2z e) T8 fun c o n1 n2 n3 n4 e => up c o n1 (kp c o n1 n2 n3 n4 e)
theorem aJJ {z TI TO i1 i2 l1 l2 : Addr} {k : Nat} {xs ys : Array Value} {a b : Value} {Q : Fin → Shared → Prop} (hh : A.handled = none) (D : ZipApart z TI TO i1 i2 l1 l2)
  (hz : vS s.heap z TI TO .none) (hI : IsPair s.heap TI (.ref i1) (.ref i2)) (hO : IsPair s.heap TO a b) (a1 : s.heap.IsTupleIter i1 l1 k) (a2 : s.heap.IsTupleIter i2 l2 k) (b1 : s.heap.IsTuple l1 xs) (b2 : s.heap.IsTuple l2 ys) (c1 : xs[k]? = none) (c2 : ys[k]? = none)
  (fin : ∀ g e, (∀ c o, c ≠ z → c ≠ TO → c ≠ i1 → c ≠ i2 → s.heap.get? c = some o → g.get? c = some o) → (∃ o, g.get? e = some o ∧ o.cls = .type "StopIteration") → E (.ref e) { s with heap := g }) :
  wpAny (model prog w) A (Builtin.«zip.__next__» ⟨[.ref z], []⟩) Q E s := by
 show wpAny _ _ (field (.ref z) 2 >>= _) _ _ _
 refine wpAny_bind (wpAny_field hz rfl (x := .bool true) rfl ?_)
 show wpAny _ _ (field (.ref z) 3 >>= _) _ _ _
 refine wpAny_bind (wpAny_field hz rfl (x := .ref TI) rfl ?_)
 refine wpAny_bind (wpAny_seqItems hI rfl ?_)
 show wpAny _ _ (Builtin.SmallTypes.ownedTupleIsFree (.ref z) >>= _) _ _ _
 refine wpAny_bind ?_
 unfold Builtin.SmallTypes.ownedTupleIsFree
 refine wpAny_bind (wpAny_field hz rfl (x := .none) rfl (wpAny_pure ?_))
 simp only [af]
 refine wpAny_bind (wpAny_rule ?_)
 refine wpAny_bind (wpAny_field hz rfl (x := .ref TO) rfl ?_)
 refine wpAny_bind (wpAny_setField_rec hz (by simp) fun g1 z1 s1 => ?_)
 have z1' : vS g1 z TI TO .ellipsis := z1
 refine wpAny_bind ?_
 simp only [List.zipIdx_cons, List.zipIdx_nil, List.forIn_cons, List.forIn_nil]
 refine wpAny_bind (wpAny_bind (wpAny_onRaise ?_))
 show wpAny _ _ (Builtin.SmallTypes.nextOrEnd (.ref i1)) _ _ _
 refine aAJ hh (a1.extBut s1.extBut D.i1z) (b1.extBut s1.extBut D.l1z) c1 fun g2 s2 => ?_
 have z2 : vS g2 z TI TO .ellipsis := s2 _ _ D.i1z.symm z1'
 refine wpAny_bind (wpAny_setField_rec z2 (by simp) fun g3 _ s3 => ?_)
 refine wpAny_bind (wpAny_bind ?_)
 show wpAny _ _ (forIn ((List.drop 1 [Value.ref i1, Value.ref i2]).zipIdx 1) PUnit.unit _) _ _ _
 simp only [List.drop_succ_cons, dk, List.zipIdx_cons, List.zipIdx_nil, List.forIn_cons, List.forIn_nil]
 refine wpAny_bind (wpAny_bind (aAJ hh (((a2.extBut s1.extBut D.i2z).extBut s2 D.i12.symm).extBut s3.extBut D.i2z) (((b2.extBut s1.extBut D.l2z).extBut s2 D.l2i1).extBut s3.extBut D.l2z) c2 fun g4 s4 => ?_))
 show wpAny _ _ (pure (ForInStep.yield PUnit.unit)) _ _ _
 refine wpAny_pure ?_
 refine wpAny_pure ?_
 refine wpAny_bind (wpAny_rule ?_)
 unfold Builtin.SmallTypes.stopIteration
 refine wpAny_bind ?_
 simp only [newExc, newTuple]
 refine wpAny_bind (wpAny_newObj_type ?_ (by size_fits))
 refine wpAny_bind (m := firstArgMember _ _) (wpAny_of_eq (a := Value.none) (by first | rfl | (simp only [firstArgMember]; rfl)) ?_)
 refine wpAny_newObj_type ?_ (by size_fits)
 simp only [raiseNew]
 refine wpAny_bind (wpAny_handled ?_)
 rw [hh]
 refine wpAny_bind (wpAny_pure (wpAny_throw ?_))
 refine fin _ _ (fun c o n1 _ n3 n4 e => ?_) ⟨_, Heap.get?_push_size _ rfl, rfl⟩
 exact Heap.get?_push_of_some _ (Heap.get?_push_of_some _ (s4 _ _ n4 (s3.extBut _ _ n1 (s2 _ _ n3 (s1.extBut _ _ n1 e)))))
theorem XI {z TI TO i1 i2 l1 l2 : Addr} {k : Nat} {xs ys : Array Value} {x y a b : Value} {Q : Option Value → Shared → Prop} (D : ZipApart z TI TO i1 i2 l1 l2)
  (hz : vS s.heap z TI TO .none) (hI : IsPair s.heap TI (.ref i1) (.ref i2)) (hO : IsPair s.heap TO a b) (a1 : s.heap.IsTupleIter i1 l1 k) (a2 : s.heap.IsTupleIter i2 l2 k) (b1 : s.heap.IsTuple l1 xs) (b2 : s.heap.IsTuple l2 ys) (c1 : xs[k]? = some x) (c2 : ys[k]? = some y)
  (fin : ∀ g, vS g z TI TO (rawInt s.heap.objs.size) → IsPair g TO x y → g.IsTupleIter i1 l1 (k + 1) → g.IsTupleIter i2 l2 (k + 1) → IsPair g s.heap.objs.size x y → (∀ c o, c ≠ z → c ≠ TO → c ≠ i1 → c ≠ i2 → s.heap.get? c = some o → g.get? c = some o) → Q (some (.ref s.heap.objs.size)) { s with heap := g }) :
  wpAny (model prog w) A (pyNext (.ref z)) Q E s := by
 have ty : s.TypeIs (.ref z) "zip" := ⟨_, hz, rfl⟩
 unfold pyNext
 exact wpAny_bind (wpAny_attempt (wpAny_callSpecial?_slot (name := Str.ofString "__next__") ty F.slot_zip_next (wpAny_call_entry F.slot_zip_next ty F.entry_zip_next (aGw D hz hI hO a1 a2 b1 b2 c1 c2 fun g e1 e2 e3 e4 e5 e6 => wpAny_pure (fin g e1 e2 e3 e4 e5 e6)) (F.args_zip_next_1 _))))
theorem XW {z TI TO i1 i2 l1 l2 : Addr} {k : Nat} {xs ys : Array Value} {a b : Value} {Q : Option Value → Shared → Prop} (hh : A.handled = none) (D : ZipApart z TI TO i1 i2 l1 l2)
  (hz : vS s.heap z TI TO .none) (hI : IsPair s.heap TI (.ref i1) (.ref i2)) (hO : IsPair s.heap TO a b) (a1 : s.heap.IsTupleIter i1 l1 k) (a2 : s.heap.IsTupleIter i2 l2 k) (b1 : s.heap.IsTuple l1 xs) (b2 : s.heap.IsTuple l2 ys) (c1 : xs[k]? = none) (c2 : ys[k]? = none)
  (fin : ∀ g, (∀ c o, c ≠ z → c ≠ TO → c ≠ i1 → c ≠ i2 → s.heap.get? c = some o → g.get? c = some o) → Q none { s with heap := g }) : wpAny (model prog w) A (pyNext (.ref z)) Q E s := by
 have ty : s.TypeIs (.ref z) "zip" := ⟨_, hz, rfl⟩
 unfold pyNext
 refine wpAny_bind (wpAny_attempt (wpAny_callSpecial?_slot (name := Str.ofString "__next__") ty F.slot_zip_next (wpAny_call_entry F.slot_zip_next ty F.entry_zip_next (aJJ hh D hz hI hO a1 a2 b1 b2 c1 c2 fun g e kp he => ?_) (F.args_zip_next_1 _))))
 obtain ⟨o, h1, h2⟩ := he
 refine wpAny_bind (wpAny_isInstance (T := "StopIteration") (b := true) ⟨o, h1, h2⟩ isSubtype_stop ?_)
 exact wpAny_pure (fin _ kp)
theorem aAG {z TI TO : Addr} {f0 : Value} {Q : Value → Shared → Prop} (hz : vS s.heap z TI TO f0) (h : Q (.ref z) s) : wpAny (model prog w) A (pyIter (.ref z)) Q E s := by
 have ty : s.TypeIs (.ref z) "zip" := ⟨_, hz, rfl⟩
 refine wpAny_pyIter_slot ty F.slot_zip_iter (wpAny_call_entry F.slot_zip_iter ty F.entry_zip_iter ?_ (F.args_zip_iter_1 _))
 show wpAny _ _ (ret (.ref z)) _ _ s
 exact wpAny_pure ⟨_, rfl, "zip", _, ty, F.slot_zip_next.lookup, h⟩
theorem aD5 {elts : List Expr} {x1 : Nat} {pos : Pos} {z TI TO T : Addr} {Q : Unit → Shared → Prop} (hz : vS s.heap z TI TO (rawInt T))
  (fin : ∀ g, vS g z TI TO .none → Heap.SameBut z s.heap g → Q () { s with heap := g }) : wpAny (model prog w) A (letOwnedTupleGo (.Tuple elts x1 pos) (.ref z) (.ref T)) Q E s := by
 unfold letOwnedTupleGo
 refine wpAny_bind (wpAny_load hz ?_)
 show wpAny _ _ (if (["enumerate", "zip", "dict_itemiterator", "dict_reverseitemiterator", "odict_iterator", "itertools.zip_longest", "itertools.pairwise"].contains "zip" &&
   (#[rawInt T, .bool false, .bool true, .ref TI, .ref TO] : Array Value)[0]? == some (rawInt T)) = true then _ else _) Q E s
 rw [if_pos (by simp)]
 refine wpAny_bind (wpAny_rule ?_)
 show wpAny _ _ (setField (.ref z) 0 .none) Q E s
 exact wpAny_setField_rec hz (by simp) fun g h1 h2 => fin g h1 h2
end
def aLA (K : PySem.W.Frag) (a b : Addr) : It :=
 ⟨fun i H => ∃ (xs ys : List V) (x y : V), SqT K H a xs ∧ SqT K H b ys ∧ xs[i]? = some x ∧ ys[i]? = some y,
  fun i H v H' => ∃ T x y, v = .ref T ∧ H T = none ∧ H' = upd H T (.tup [x, y]) ∧ (∀ xs, SqT K H a xs → xs[i]? = some x) ∧ ∀ ys, SqT K H b ys → ys[i]? = some y,
  fun i H => ∃ xs ys : List V, SqT K H a xs ∧ SqT K H b ys ∧ xs.length ≤ i ∧ ys.length ≤ i⟩
theorem aGx {P : Program} {w : World} {K : PySem.W.Frag} {elts : List Expr} {kk : Nat} {tpos : Pos} {a b z TI TO i1 i2 : Addr} (D : ZipApart z TI TO i1 i2 a b) :
  Turn P w K (.Tuple elts kk tpos) (aLA K a b) [z, TI, TO, i1, i2] z (fun i h => vS h z TI TO .none ∧ IsPair h TI (.ref i1) (.ref i2) ∧ (∃ x y, IsPair h TO x y) ∧ h.IsTupleIter i1 a i ∧ h.IsTupleIter i2 b i) where
 mem := by simp
 obj := fun i h st c hc => by
  obtain ⟨f1, f2, ⟨x, y, f3⟩, ⟨o1, e1, _, d1⟩, ⟨o2, e2, _, d2⟩⟩ := st
  have cs : c = z ∨ c = TI ∨ c = TO ∨ c = i1 ∨ c = i2 := by simpa using hc
  rcases cs with rfl | rfl | rfl | rfl | rfl
  ·exact ⟨_, f1, fun v q => nomatch q⟩
  ·exact ⟨_, f2, fun v q => nomatch q⟩
  ·exact ⟨_, f3, fun v q => nomatch q⟩
  ·exact ⟨o1, e1, fun v q => by rw [d1] at q; cases q⟩
  ·exact ⟨o2, e2, fun v q => by rw [d2] at q; cases q⟩
 keep := fun i h h' st k => by
  obtain ⟨f1, f2, ⟨x, y, f3⟩, f4, f5⟩ := st
  exact ⟨k z (by simp) _ f1, k TI (by simp) _ f2, ⟨x, y, k TO (by simp) _ f3⟩, f4.at fun o q => k i1 (by simp) o q, f5.at fun o q => k i2 (by simp) o q⟩
 item := by
  intro X hP hw hK hc i pins s σ H E I fp st go
  subst hP hw hK
  obtain ⟨f1, f2, ⟨x0, y0, f3⟩, f4, f5⟩ := st
  obtain ⟨xs, ys, x, y, qx, qy, gx, gy⟩ := go
  obtain ⟨us, rv, p, _⟩ := I.tuple qx
  obtain ⟨us2, rv2, p2, _⟩ := I.tuple qy
  obtain ⟨u, hu, ru⟩ := rv.get gx
  obtain ⟨u2, hu2, ru2⟩ := rv2.get gy
  have zl : z < s.heap.objs.size := Heap.lt_size f1
  refine XI D f1 f2 f3 f4 f5 p p2 (x := u) (y := u2) (by simpa using hu) (by simpa using hu2) fun g z' TO' h1' h2' hT hk => ?_
  refine ⟨_, rfl, aD5 (s := { s with heap := g }) z' fun g2 z'' sb => ?_⟩
  have hT2 : g2.get? s.heap.objs.size = some { cls := .type "tuple", data := .seq #[u, u2] } := (sb.2 _ (Nat.ne_of_gt zl)).trans hT
  have new : ObjOk X.prog X.w (upd H s.heap.objs.size (.tup [x, y])) g2 s.heap.objs.size (.tup [x, y]) := ⟨by show 2 ≤ sizeLine; decide, [u, u2], .cons ru (.cons ru2 .nil), ⟨_, hT2, rfl, _, rfl⟩⟩
  have I1 : Inv X pins σ (upd H s.heap.objs.size (.tup [x, y])) { s with heap := g2 } :=
   I.turnedNew (t' := s.toks) (ch := [z, TI, TO, i1, i2]) (fun c o hb q => by
    simp only [ay, br, df, not_or] at hb
    exact (sb.2 c hb.1).trans (hk c o hb.1 hb.2.2.1 hb.2.2.2.1 hb.2.2.2.2 q)) fp (az _) new
  refine ⟨.ref s.heap.objs.size, _, I1, rfl, ⟨_, x, y, rfl, I.hok.fresh (az _), rfl, fun l hl => by rw [I.tuple_inj hl qx]; exact gx, fun l hl => by rw [I.tuple_inj hl qy]; exact gy⟩, ⟨z'', ?_, ⟨u, u2, ?_⟩, ?_, ?_⟩, fun c hcm => ?_⟩
  ·exact (sb.2 _ D.TIz).trans (hk _ _ D.TIz D.TITO D.TIi1 D.TIi2 f2)
  ·exact (sb.2 _ D.TOz).trans TO'
  ·exact h1'.at fun o q => (sb.2 _ D.i1z).trans q
  ·exact h2'.at fun o q => (sb.2 _ D.i2z).trans q
  ·have hlt : c < s.heap.objs.size := by
    have cs : c = z ∨ c = TI ∨ c = TO ∨ c = i1 ∨ c = i2 := by simpa using hcm
    rcases cs with rfl | rfl | rfl | rfl | rfl
    ·exact zl
    ·exact Heap.lt_size f2
    ·exact Heap.lt_size f3
    ·obtain ⟨_, e1, _⟩ := f4; exact Heap.lt_size e1
    ·obtain ⟨_, e2, _⟩ := f5; exact Heap.lt_size e2
   rw [upd_ne (Nat.ne_of_lt hlt)]
   exact (fp c hcm).1
 done := by
  intro X hP hw hK hc i pins s σ H E I fp st go
  subst hP hw hK
  obtain ⟨f1, f2, ⟨x0, y0, f3⟩, f4, f5⟩ := st
  obtain ⟨xs, ys, qx, qy, e1, e2⟩ := go
  obtain ⟨us, rv, p, _⟩ := I.tuple qx
  obtain ⟨us2, rv2, p2, _⟩ := I.tuple qy
  have l1 := rv.length
  have l2 := rv2.length
  refine XW (I.ok.hd hc) D f1 f2 f3 f4 f5 p p2 (by simp; omega) (by simp; omega) fun g hk => ⟨rfl, I.turnedL (t' := s.toks) (ch := [z, TI, TO, i1, i2]) (fun c o hb q => ?_) fp⟩
  simp only [ay, br, df, not_or] at hb
  exact hk c o hb.1 hb.2.2.1 hb.2.2.2.1 hb.2.2.2.2 q
 self := fun A i s Q E st h => aAG st.1 h
section
variable {M : Model} {A : Around} {E : Value → Shared → Prop} {s : Shared} {env : Env}
theorem L8 {pos : Pos} {T : String} {first : List Value} {args : List (Bool × Sem Value)} {kws : List (Option Str × Sem Value)} {Q : Value → Shared → Prop} (p1 : args.any (·.1) = false) (p2 : kws.any (·.1.isNone) = false)
  (h : wpAny M A (evalArgs (.type T) true args kws) (fun a t => wpAny M A (call (.type T) (first ++ a.pos) a.kw) Q E t) E s) : wpAny M A (callWith pos (.type T) first args kws) Q E s := by
 unfold callWith
 refine wpAny_bind (wpAny_holding (wpAny_mono h (fun a t g => wpAny_bind (wpAny_standAt ?_)) fun _ _ z => z))
 simp only [p1, p2, Bool.or_false]
 refine wpAny_bind (wpAny_pure ?_)
 exact wpAny_bind (wpAny_mono g (fun r t2 hr => wpAny_bind (wpAny_holding (wpAny_point (wpAny_pure hr)))) fun _ _ z => z)
end
section
variable {X : Cx} {e e2 : Expr} {ta : TA} {p pos tpos cp kp : Pos} {elts : List Expr} {kk k : Nat}
def iZs (K : PySem.W.Frag) (ta : TA) : TI := fun σ H R => ta σ H fun vs H1 => ∃ a b xs ys, vs = [V.ref a, V.ref b] ∧ SqT K H1 a xs ∧ SqT K H1 b ys ∧ R (aLA K a b) H1
theorem aK8 (hg : Gl X "zip") (hm : X.mg "zip" = none) (ha : PA X [e, e2] ta) (hs : starEach [e, e2] X.env = (false, eval e X.env) :: starEach [e2] X.env := by rfl) (hpl : (backTo pos (starEach [e, e2] X.env)).any (·.1) = false := by rfl)
  (hk1 : (backToKw pos (keywordEach [⟨some "strict", .Constant (.bool true) k cp, kp⟩] X.env)).any (·.1.isNone) = false := by rfl) (hk2 : (backToKw pos (keywordEach [⟨some "strict", .Constant (.bool true) k cp, kp⟩] X.env)).all (·.1.isSome) = true := by rfl)
  (hk3 : (backToKw pos (keywordEach [⟨some "strict", .Constant (.bool true) k cp, kp⟩] X.env)).filterMap (·.1) = [Str.ofString "strict"] := by rfl) :
  PI X (.Tuple elts kk tpos) (.Call (.Name "zip" p) [e, e2] [⟨some "strict", .Constant (.bool true) k cp, kp⟩] pos) (iZs X.K ta) := by
 refine ⟨fun pins s σ H R I h => ?_⟩
 refine wpAny_Call_Name_kw (ld_blt I hg hm PyProof.Rows.boot_zip (L8 hpl hk1 ?_))
 have hA := ha.run pos pins s σ H _ I h
 rw [hs] at hA ⊢
 refine evalArgs_kwB hk2 (thn hA fun us s1 ⟨vs, H1, I1, r1, a, b, xs, ys, ex, qx, qy, q⟩ => ?_)
 subst ex
 rw [hk3]
 refine thn ((pk_cons (nm := some "strict") (kpos := kp) (pe_bl (b := true) (j := k) (pos := cp)) pk_nil).run pos pins s1 σ H1 (fun zs H2 => zs = [V.bl true] ∧ H2 = H1) I1 ⟨rfl, rfl⟩) fun ws s2 ⟨zs, H2, I2, rz, ez, eH⟩ => ?_
 subst ez eH
 obtain ⟨w1, rfl, rw1⟩ := rz.one
 cases rw1
 obtain ⟨u1, u2, rfl, ra, rb⟩ := r1.two
 cases ra
 cases rb
 obtain ⟨us1, rv, p1, _⟩ := I2.tuple qx
 obtain ⟨us2, rv2, p2, _⟩ := I2.tuple qy
 obtain ⟨o1, ho1, _⟩ := id p1
 obtain ⟨o2, ho2, _⟩ := id p2
 refine aFE (show s2.heap.IsTuple a us1.toArray from p1) (show s2.heap.IsTuple b us2.toArray from p2) fun g hz hI hO h1 h2 hk => aAG hz ?_
 have I3 : Inv X pins σ H2 { s2 with heap := g } := I2.kept (t' := s2.toks) hk
 refine ⟨s2.heap.objs.size + 4, [s2.heap.objs.size + 4, s2.heap.objs.size + 2, s2.heap.objs.size + 3, s2.heap.objs.size, s2.heap.objs.size + 1], _, _, H2, rfl, I3, aGx (PySem.W.ktu_apart s2.heap.objs.size a b (Heap.lt_size ho1) (Heap.lt_size ho2)), ⟨hz, hI, ⟨_, _, hO⟩, h1, h2⟩, fun c hc => ?_, q⟩
 have le : s2.heap.objs.size ≤ c := by
  simp only [ay, br, df] at hc
  rcases hc with rfl | rfl | rfl | rfl | rfl <;> omega
 exact I2.fpOk le (I2.hok.fresh le)
end
def zsM (ds : List D) (w : W) : Res lO := match ds with
 | [x, y] => (match AV x, AV y with
  | some xs, some ys => if xs.length = ys.length then .ok ⟨(xs.zip ys).map fun p => .tup [p.1, p.2], always⟩ w else .bad
  | _, _ => .bad)
 | _ => .bad
theorem U7 {K : PySem.W.Frag} {I : List Addr} {F : Hp} {d : D} {v : V} {xs : List D} (h : aG K I F d v) (e : AV d = some xs) : ∃ a vs, v = .ref a ∧ SqT K F a vs ∧ RepL K I F xs vs := by
 cases d <;> simp only [AV, aj, reduceCtorEq] at e <;> simp only [aG] at h
 case tup => subst e; obtain ⟨a, vs, h0, h1, h2⟩ := h; exact ⟨a, vs, h0, .of h1, h2⟩
 case vU => subst e; obtain ⟨a, vs, h0, h1, h2⟩ := h; exact ⟨a, vs, h0, h1, h2⟩
theorem aKP {S : aR} {e e2 : Expr} {ma : MA} {p pos tpos cp kp : Pos} {elts : List Expr} {kk k : Nat} (hg : S.sc.names.lookup ("zip" : Str) = some .globalImplicit) (hm : S.mg "zip" = none) (ha : JA S [e, e2] ma)
  (hs : ∀ env : Env, starEach [e, e2] env = (false, eval e env) :: starEach [e2] env := by intro _; rfl) (hpl : ∀ env : Env, (backTo pos (starEach [e, e2] env)).any (·.1) = false := by intro _; rfl) :
  JI S (.Tuple elts kk tpos) (.Call (.Name "zip" p) [e, e2] [⟨some "strict", .Constant (.bool true) k cp, kp⟩] pos) (dB zsM ma) := fun X E cx xo =>
 B9 (aK8 (by show X.env.scope.names.lookup _ = _; rw [cx.sc]; exact hg) (by rw [cx.mg]; exact hm) (ha X E cx xo) (hs X.env) (hpl X.env)) fun σ H R ⟨I, F, G, ds, w, rel, rs, p⟩ => gO (f := fun _ => zsM) rel rs p fun I1 F1 H1 xs w1 vs e1 rel1 rs1 rv p1 => by
  unfold zsM at p1
  split at p1
  ·rename_i x y
   obtain ⟨v, u, rfl, rx, ry⟩ := rv.two
   split at p1
   ·rename_i xs ys hx hy
    split at p1
    ·rename_i hl
     obtain ⟨a, us, rfl, q1, q2⟩ := U7 rx hx
     obtain ⟨b, ts, rfl, q3, q4⟩ := U7 ry hy
     refine ⟨a, b, us, ts, rfl, rel1.VB q1, rel1.VB q3, p1 I1 F1 H1 .refl rel1 trivial _ fun I' F' G' w' H' j e' rel' _ => ?_⟩
     have t1 := rel'.VB (HM e' q1)
     have t2 := rel'.VB (HM e' q3)
     have r1 := RepL.ext e' _ _ q2
     have r2 := RepL.ext e' _ _ q4
     have l1 : xs.length = us.length := r1.length
     have l2 : ys.length = ts.length := r2.length
     refine ⟨fun x hx => ?_, fun hj => ⟨us, ts, t1, t2, ?_, ?_⟩⟩
     ·rw [da] at hx
      cases hz : (xs.zip ys)[j]? with
      | none => rw [hz] at hx; cases hx
      | some pr =>
       rw [hz] at hx
       cases hx
       obtain ⟨pa, pb⟩ := pr
       rw [List.getElem?_zip_eq_some] at hz
       obtain ⟨v1, g1, g2⟩ := r1.get hz.1
       obtain ⟨v2, g3, g4⟩ := r2.get hz.2
       refine ⟨⟨us, ts, v1, v2, t1, t2, g1, g3⟩, fun v H'' y => ?_⟩
       obtain ⟨T, x', y', rfl, k1, rfl, k2, k3⟩ := y
       have z1 := k2 us t1
       have z2 := k3 ts t2
       rw [g1] at z1
       rw [g3] at z2
       cases z1
       cases z2
       exact OI rel' (RepL.cons g2 (RepL.cons g4 (by simp [RepL]))) k1
     ·simp only [av, List.length_zip] at hj; omega
     ·simp only [av, List.length_zip] at hj; omega
    ·exact p1.elim
   ·exact p1.elim
  ·exact p1.elim
def aA0 : D → Value → Bool
 | .non, .none => true
 | .bl b, .bool c => b == c
 | .int i, .int j _ => decide (i = j)
 | .str x, .str y _ => decide (x = y)
 | _, _ => false
def FA : D → V
 | .bl b => .bl b
 | .int i => .int i
 | .str x => .str x
 | _ => .non
theorem UG {d : D} {u : Value} (h : aA0 d u = true) : RelV (FA d) u ∧ ∀ K I F, aG K I F d (FA d) := by
 cases d <;> cases u <;> simp only [aA0, dc, beq_iff_eq, ai] at h
 ·exact ⟨rfl, fun _ _ _ => by simp [aG, FA]⟩
 ·subst h; exact ⟨rfl, fun _ _ _ => by simp [aG, FA]⟩
 ·subst h; exact ⟨⟨_, rfl⟩, fun _ _ _ => by simp [aG, FA]⟩
 ·subst h; exact ⟨⟨_, rfl⟩, fun _ _ _ => by simp [aG, FA]⟩
def EO : List D → List Value → Bool
 | [], [] => true
 | d :: ds, u :: us => aA0 d u && EO ds us
 | _, _ => false
theorem OK : ∀ {ds : List D} {us : List Value}, EO ds us = true → Vals (ds.map FA) us ∧ ∀ K I F, RepL K I F ds (ds.map FA)
 | [], [], _ => ⟨.nil, fun _ _ _ => by simp [RepL]⟩
 | d :: ds, u :: us, h => by
  simp only [EO, ak] at h
  obtain ⟨h1, h2⟩ := UG h.1
  obtain ⟨h3, h4⟩ := OK h.2
  exact ⟨.cons h1 h3, fun K I F => RepL.cons (h2 K I F) (h4 K I F)⟩
 | [], _ :: _, h => by simp [EO] at h
 | _ :: _, [], h => by simp [EO] at h
def SR (K : PySem.W.Frag) (d : D) (u : Value) : Bool := match d, u with
 | .vU ds, .ref a => (match K.lookup a with
  | some ⟨.type c, _, .seq its _, _⟩ => decide (c = "tuple") && (decide (its.size ≤ sizeLine) && EO ds its.toList)
  | _ => false)
 | .con a, .ref b => decide (a = b)
 | d, u => aA0 d u
theorem OO {K : PySem.W.Frag} {d : D} {u : Value} (h : SR K d u = true) : ∃ v, RelV v u ∧ ∀ I F, aG K I F d v := by
 unfold SR at h
 split at h
 ·rename_i ds a
  split at h
  ·rename_i c od its n sl hl
   simp only [ak, ai] at h
   obtain ⟨rfl, h2, h3⟩ := h
   obtain ⟨h4, h5⟩ := OK h3
   refine ⟨.ref a, rfl, fun I F => ?_⟩
   simp only [aG]
   exact ⟨a, _, rfl, .inr ⟨_, its, n, hl, rfl, rfl, h2, h4⟩, h5 K I F⟩
  ·cases h
 ·rename_i a b
  simp only [ai] at h
  subst h
  exact ⟨.ref a, rfl, fun I F => by simp [aG]⟩
 ·obtain ⟨h1, h2⟩ := UG h
  exact ⟨_, h1, h2 K⟩
def QG (S : aR) (x : Str) (d : D) : Prop := ∃ v u, S.mg x = some u ∧ RelV v u ∧ ∀ I F, aG S.K I F d v
theorem tR {S : aR} {x : Str} {d : D} {pos : Pos} (G : QG S x d) (hg : S.sc.names.lookup x = some .globalImplicit := by rfl) (hd : (x == ("__debug__" : Str)) = false := by decide) : JE S (.Name x pos) (eC d) := by
 obtain ⟨v, u, h1, h2, h3⟩ := G
 exact aGQ hg h1 h2 h3 hd
def KW (K : PySem.W.Frag) (x : Str) (d : D) : Bool := match PySem.W.nsIn K mainGlobals x with
 | some (some u) => SR K d u
 | _ => false
theorem oK {S : aR} {h : Heap} {x : Str} {d : D} (kin : S.K.In h) (ns : h.Ns mainGlobals S.mg) (c : KW S.K x d = true) : QG S x d := by
 unfold KW at c
 split at c
 ·rename_i u hu
  obtain ⟨v, h1, h2⟩ := OO c
  exact ⟨v, u, PySem.W.mg_of kin ns hu, h1, h2⟩
 ·cases c
def aDW (K : PySem.W.Frag) (a : Addr) (tab : List (Str × Option D)) : Bool := match K.lookup a with
 | some ⟨_, _, .dict es _, _⟩ => es.toList.all fun e => !e.refKey && tab.any fun p => e.key.isStr p.1
 | _ => false
def aEK (K : PySem.W.Frag) (a : Addr) (tab : List (Str × Option D)) : Bool := aDW K a tab && tab.all fun p => match p.2 with
 | some d => (match PySem.W.nsIn K a p.1 with
  | some (some u) => SR K d u
  | _ => false)
 | none => He.eqO (PySem.W.nsIn K a p.1) (some none)
theorem aBx {v : Value} {x y : Str} (h1 : v.isStr x = true) (h2 : v.isStr y = true) : x = y := by
 cases v <;> simp only [Value.isStr, dc] at h1 h2
 simp only [beq_iff_eq] at h1 h2
 rw [← h1, ← h2]
theorem aC3 {K : PySem.W.Frag} {a : Addr} {tab : List (Str × Option D)} (h : aDW K a tab = true) (z : Str) (hz : tab.lookup z = none) : PySem.W.nsIn K a z = some none := by
 unfold aDW at h
 unfold PySem.W.nsIn
 split at h
 ·rename_i c od es n sl hl
  simp only [hl]
  rw [au] at h
  have no : ∀ p ∈ tab, p.1 ≠ z := fun p hp e => by
   rw [List.lookup_eq_none_iff] at hz
   have := hz p hp
   rw [e] at this
   simp at this
  have h1 : es.toList.find? (·.key.isStr z) = none := by
   rw [List.find?_eq_none]
   intro e he q
   have := h e he
   simp only [ak, List.any_eq_true] at this
   obtain ⟨_, p, hp, hk⟩ := this
   exact no p hp (aBx hk q)
  have h2 : es.toList.any (·.refKey) = false := by
   rw [List.any_eq_false]
   intro e he
   have := h e he
   simp only [ak, Bool.not_eq_true'] at this
   simp [this.1]
  rw [h1, h2]
  rfl
 ·cases h
theorem lookup_mem {α : Type} {k : Str} {x : α} : ∀ {l : List (Str × α)}, l.lookup k = some x → (k, x) ∈ l
 | [], h => by simp at h
 | (j, y) :: r, h => by
  simp only [List.lookup] at h
  split at h
  ·rename_i e
   cases h
   rw [beq_iff_eq] at e
   subst e
   exact aw ..
  ·exact bc _ (lookup_mem h)
theorem aEy {K : PySem.W.Frag} {w : World} {a : Addr} {tab : List (Str × Option D)} (ex : ∃ es n, KDict K w a es n) (c : aEK K a tab = true) : KTab K w a tab := by
 unfold aEK at c
 rw [ak] at c
 obtain ⟨c0, c⟩ := c
 rw [au] at c
 refine ⟨ex, fun z x h => ?_, fun z h => ?_, fun z h => aC3 c0 z h⟩
 ·have := c _ (lookup_mem h)
  dsimp only at this
  split at this
  ·rename_i u hu
   obtain ⟨v, h1, h2⟩ := OO this
   exact ⟨u, v, hu, h1, h2⟩
  ·cases this
 ·exact He.eqO_ok (c _ (lookup_mem h))
def aKa {α : Type} (is : List (Nat × Nat)) (us ws mv : List α) : List α := is.filterMap fun p => match p.1 with
 | 0 => us[p.2]?
 | 1 => ws[p.2]?
 | _ => mv[p.2]?
theorem WW {S : aR} {pos : Pos} {a b c : Expr} {ma mb mc : ME} {f g : D → D → W → Res D} {op op' : CmpOp} (ho : O2 S (compareOp op) f) (ho' : O2 S (compareOp op') g) (ha : JE S a ma) (hb : JE S b mb) (hc : JE S c mc) (hm : lastMarks [op, op'] [b, c] = false := by with_unfolding_all rfl) :
  JT S (.Compare a [op, op'] [b, c] pos) (aV (eCh f g ma mb mc)) := fun X E cx xo => HI (pt_chain (ho X E cx xo) (ho' X E cx xo) (ha X E cx xo) (hb X E cx xo) (hc X E cx xo) hm) fun σ H Q ⟨I, F, G, ds, w, rel, rs, p⟩ => by
  show tChain _ _ _ _ _ σ H fun x H' => ∃ k, x = .bl k ∧ Q k H'
  refine aDh ⟨I, F, G, ds, w, rel, rs, (bC.bind p).mono fun I1 F1 H1 x w1 _ e1 rel1 p1 v rv => ?_⟩
  cases x <;> first | exact p1.elim | skip
  simp only [aG] at rv
  exact ⟨_, rv, p1 I1 F1 H1 .refl rel1⟩
def aDo (i j : Nat) (ma : MA) : MS := fun σ w => (ma σ w).bind fun xs w1 => match xs with
 | [u, v] => .ok (.nx ((σ.set i (some u)).set j (some v))) w1
 | _ => .bad
section
variable {S : aR} {elt tg iter : Expr} {ifs : List Expr} {scope : Scope} {pos py spos : Pos} {y : Str} {mi : MI} {g : MG} {t : MT} {me : ME} {own : List (Str × Nat)}
theorem jsc (i : Nat) (hi : JI S tg iter mi) (hb : blkC S.N S.sc scope own = true) (hg : JC (S.blk scope) (own.map (·.2)) tg g) (ht : JTs (S.blk scope) ifs t) (he : JE (S.blk scope) elt me)
  (hy : S.N[i]? = some y := by rfl) (hyl : S.sc.names.lookup y = some .local := by rfl) (hl : (py.line == pos.line) = true := by rfl) (ha : (scope.names.any fun (n, k) => n == y && (k == .local || k == .cell)) = false := by rfl)
  (hk : S.sc.kind = .function := by rfl) (hs : ∀ (env : Env) x, foldedSetIterable iter env x = pure x := by intro _ _; rfl) : JS S (.Assign [.Name y py] (.ListComp elt [⟨tg, iter, ifs, 0⟩] scope pos) spos) (aO (a8 mi (own.map (·.2)) g t me) (aQ i)) :=
 ZF hy hyl (fun env e k => sw_true k (by rw [e]; exact hyl) hl ha) hi hb hg ht he hk hs
end
def T4 (C : Addr) (m : MF) : MF := fun ds w => match ds with
 | [.ref i] => (match w[i]? with
  | some (.ins C' _) => if C' = C then (m [.ref i] w).bind fun d w1 => (match d with
    | .int n => if 0 ≤ n ∧ n < 2 ^ 62 then .ok (.int n) w1 else .bad
    | _ => .bad) else .bad
  | _ => cZ [.ref i] w)
 | _ => cZ ds w
open AutoSeq1 (wpAny_loadPart')
open RZ (nextOf_tuple_item nextOf_tuple_end)
def LY (ds : List D) (w : W) : Res lO := match ds with
 | [x] => (match AV x with
  | some xs => .ok ⟨(List.range xs.length).zipWith (fun i x => D.tup [.int (i : Nat), x]) xs, always⟩ w
  | none => .bad)
 | _ => .bad
def aGF (d : D) (w : W) : Option (List D) := match d with
 | .lst xs => some xs
 | .ref i => (match w[i]? with
  | some (.lst xs) => some xs
  | _ => none)
 | _ => none
section
variable {P : Program} {w : World} {A : Around} {E : Value → Shared → Prop} {s : Shared}
set_option maxRecDepth 100000 in
set_option maxHeartbeats 3200000 in
theorem MH {l : Addr} {items : Array Value} (ns : List Int) {Q : Value → Shared → Prop} (hh : A.handled = none) (hl : s.heap.IsList l items) (hit : IntsAre items.toList ns) (hb : ns.length + 1 < scanBound)
  (h : ∀ (h' : Heap) (tk c : Nat), SetR w h' s.heap.objs.size (fun j => decide (j ∈ ns)) c → c ≤ ns.length → (∀ b o, s.heap.get? b = some o → h'.get? b = some o) → Q (.ref s.heap.objs.size) { s with heap := h', toks := tk }) :
  wpAny (model P w) A (call (.type "set") [.ref l]) Q E s := by
 have hisz : items.size = ns.length := by
  have q := IntsAre.length hit
  rw [Array.length_toList] at q
  exact q
 obtain ⟨c, tl, hmro⟩ := F.called_set.mro
 have hmade := F.called_set.made
 have hsub := F.called_set.sub
 refine wpAny_call (codeAny_of_tree ?_)
 show wpAny _ _ (callAny (.type "set") _) _ _ _
 refine wpAny_pure ⟨Code.quiet_builtin _ (by decide +kernel), codeAny_builtin F.entry_type_call ?_⟩
 rw [Around.under_plain (weight_type_call_type "set" [.ref l] []) rfl]
 have h1 := F.called_set.notType
 have h2 := F.called_set.canCreate
 have hct := F.typeCall_set_1 (.ref l)
 repeat (any_goals (first | assumption | wp_step))
 refine codeAny_mono (code_set_led1 (.ref l) (E := E) (Q₁ := fun obj s₁ => obj = .ref s.heap.objs.size ∧ s₁ = { s with heap := s.heap.push { cls := .type "set", dict := none, data := .set #[] 0 (.fresh 0 0 (!w.params.followText "set-order")) } }) ⟨rfl, rfl⟩) fun r s₁ hr => ?_
 cases r with
 | error e => exact hr
 | ok fl =>
  cases fl with
  | ret obj =>
   obtain ⟨rfl, rfl⟩ := hr
   have hS : (s.heap.push { cls := .type "set", dict := none, data := .set #[] 0 (.fresh 0 0 (!w.params.followText "set-order")) }).get? s.heap.objs.size = some { cls := .type "set", dict := none, data := .set #[] 0 (.fresh 0 0 (!w.params.followText "set-order")) } := Heap.get?_push_size _ rfl
   have hT : Shared.TypeIs { s with heap := s.heap.push { cls := .type "set", dict := none, data := .set #[] 0 (.fresh 0 0 (!w.params.followText "set-order")) } } (.ref s.heap.objs.size) "set" := ⟨_, hS, rfl⟩
   have hli := F.called_set.init.lookup
   have hbi := F.called_set.init.bind (.ref s.heap.objs.size)
   repeat (any_goals (first | assumption | wp_step))
   refine codeAny_mono (codeAny_call_builtin (R := wants (fun r s₂ => r = .none ∧ ∃ h' tk c, s₂ = { s with heap := h', toks := tk } ∧ SetR w h' s.heap.objs.size (fun j => decide (j ∈ ns)) c ∧ c ≤ ns.length ∧
     (∀ b o, s.heap.get? b = some o → h'.get? b = some o)) E) F.called_set.init.plain F.entry_set_init (check_set_init_1 hT ?_)) fun r₂ s₂ hr₂ => ?_
   ·obtain ⟨ol, hol, hcl, nl, hdl⟩ := hl
    obtain ⟨ocls, odict, odata, oslots⟩ := ol
    simp only at hcl hdl
    subst hcl; subst hdl
    have hol' : (s.heap.push { cls := .type "set", dict := none, data := .set #[] 0 (.fresh 0 0 (!w.params.followText "set-order")) }).get? l = some { cls := .type "list", dict := odict, data := .seq items nl, slots := oslots } := Heap.get?_push_of_some _ hol
    have hsls := PySem.F.sub_list_set
    have hslf := PySem.F.sub_list_frozenset
    have hne : (Value.type "list" == Value.type "dict") = false := by decide
    have hl1 : (s.heap.push { cls := .type "set", dict := none, data := .set #[] 0 (.fresh 0 0 (!w.params.followText "set-order")) }).IsList l items := ⟨_, hol', rfl, nl, rfl⟩
    unfold Builtin.«set.__init__» noKeywords Builtin.Frozenset.updateFrom
    generalize hPI : pyIter = PI
    wp_walk
    subst hPI
    refine wpAny_pyIter_list hl1 ?_
    refine wpAny_bind (wpAny_runValue ?_)
    have hlS : l < s.heap.objs.size := Heap.lt_size hol
    have hh3 : A.in1.in1.in1.handled = none := by simp [hh]
    have hz1 : (s.heap.push { cls := .type "set", dict := none, data := .set #[] 0 (.fresh 0 0 (!w.params.followText "set-order")) }).objs.size = s.heap.objs.size + 1 := Heap.size_push ..
    have hneI : l ≠ (s.heap.push { cls := .type "set", dict := none, data := .set #[] 0 (.fresh 0 0 (!w.params.followText "set-order")) }).objs.size := by
     rw [Heap.size_push]; exact Nat.ne_of_lt (Nat.lt_succ_of_lt hlS)
    have hSf : s.heap.objs.size ∉ [(s.heap.push { cls := .type "set", dict := none, data := .set #[] 0 (.fresh 0 0 (!w.params.followText "set-order")) }).objs.size, l] := by
     rw [Heap.size_push]; simp only [ay, bp, br, df, not_or]
     exact ⟨Nat.ne_of_lt (Nat.lt_succ_self _), Nat.ne_of_gt hlS⟩
    have hval : ∀ (i : Nat) (v : Value), items[i]? = some v → ∃ k t, ns[i]? = some k ∧ v = .int k t := fun i v hv => by
     have hi : i < ns.length := by rw [← hisz]; exact (Array.getElem?_eq_some_iff.mp hv).1
     obtain ⟨t, e⟩ := PyProof.Rows.IntsAre.int_at hit i v (by rw [Array.getElem?_toList]; exact hv)
     refine ⟨ns[i], t, bo hi, ?_⟩
     rw [e, List.getD_eq_getElem?_getD, bo hi] <;> rfl
    refine set_update_ints ((Walks.list hh3 _ l hneI items).toS) s.heap.objs.size
     hSf ns hisz hb hval (items.size - 0) 0 _ (by omega) (Nat.zero_le _)
     ⟨⟨_, Heap.get?_push_size _ rfl, rfl, rfl⟩, (hl1.push _)⟩ ?hS0 ?hR
    case hS0 =>
     have hget : ((s.heap.push { cls := .type "set", dict := none, data := .set #[] 0 (.fresh 0 0 (!w.params.followText "set-order")) }).push { cls := .type "list_iterator", data := .fields #[.ref l, .int 0 0] }).get? s.heap.objs.size
       = some { cls := .type "set", dict := none, data := .set #[] 0 (.fresh 0 0 (!w.params.followText "set-order")) } := Heap.get?_push_of_some _ hS
     exact ⟨0, az 0, setR_new_at hget⟩
    case hR =>
     intro s' c' hm hc' hS'
     obtain ⟨h', g2, d', tk', os'⟩ := s'
     have eg : g2 = s.gens := hm.gens
     have ed : d' = s.drawn := hm.drawn
     have eo : os' = s.os := hm.os
     subst eg; subst ed; subst eo
     show wpAny _ _ _ _ _ _
     refine wpAny_pure ?_
     show wpAny _ _ (ret Value.none) _ _ _
     rw [hisz] at hc'
     refine wpAny_pure ⟨rfl, h', tk', c', rfl, hS', hc', fun b o e => ?_⟩
     have hb0 : b < s.heap.objs.size := Heap.lt_size e
     have hb1 : b ≠ s.heap.objs.size := Nat.ne_of_lt hb0
     have hb2 : b ≠ (s.heap.push { cls := .type "set", dict := none, data := .set #[] 0 (.fresh 0 0 (!w.params.followText "set-order")) }).objs.size := by
      rw [Heap.size_push]; exact Nat.ne_of_lt (Nat.lt_succ_of_lt hb0)
     exact hm.heap b o (by simp only [ay, bp, br, df, not_or]; exact ⟨hb1, hb2⟩) (Heap.get?_push_of_some _ (Heap.get?_push_of_some _ e))
   ·cases r₂ with
    | error e => exact hr₂
    | ok fl₂ =>
     cases fl₂ with
     | ret r =>
      obtain ⟨rfl, h', tk, c', rfl, hS', hc', hk'⟩ := hr₂
      repeat (any_goals (first | assumption | wp_step))
      exact h _ _ _ hS' hc' hk'
     | _ => exact hr₂.elim
  | _ => exact hr.elim
end
section
variable {X : Cx}
def aHC (K : PySem.W.Frag) (w : World) : List V → Hp → VK → Prop := fun xs H Q => ∃ (a : Addr) (ns : List Int), xs = [V.ref a] ∧ (SqL K H a (ns.map V.int) ∨ SqT K H a (ns.map V.int)) ∧ ns.length + 1 < scanBound ∧
 ∀ p c, c ≤ ns.length → H p = none → Q (.ref p) (upd H p (SetO w p (fun j => decide (j ∈ ns)) c))
theorem aFN (hc : X.calm = true) : CallR X (.type "set") (aHC X.K X.w) := by
 intro pins s σ H xs us Q I r h
 obtain ⟨a, ns, rfl, hs, hb, q⟩ := h
 rw [Vals.ref1 r]
 rcases hs with hs | hs
 ·obtain ⟨its, rv, hl, hlen⟩ := I.list hs
  have hi := ints_of_vals rv
  refine MH ns (I.ok.hd hc) hl.isList (by simpa using hi) hb fun h' tk c R hc' k => ?_
  exact ⟨.ref _, upd H s.heap.objs.size (SetO X.w s.heap.objs.size (fun j => decide (j ∈ ns)) c), I.laid (t' := tk) k (az _) (setO_new R), rfl, q _ c hc' (I.hok.fresh (az _))⟩
 ·obtain ⟨its, rv, hl, hlen⟩ := I.tuple hs
  have hi := ints_of_vals rv
  refine call_set_tupI ns (I.ok.hd hc) hl (by simpa using hi) hb fun h' tk c R hc' k => ?_
  exact ⟨.ref _, upd H s.heap.objs.size (SetO X.w s.heap.objs.size (fun j => decide (j ∈ ns)) c), I.laid (t' := tk) k (az _) (setO_new R), rfl, q _ c hc' (I.hok.fresh (az _))⟩
end
def EG (k : Int) : List Int → List Int
 | [] => [k]
 | x :: xs => if k < x then k :: x :: xs else if k = x then x :: xs else x :: EG k xs
def fV (ns : List Int) : List Int := ns.foldr EG []
theorem KD {k j : Int} : ∀ {xs : List Int}, j ∈ EG k xs ↔ j = k ∨ j ∈ xs
 | [] => by simp [EG]
 | x :: xs => by
  unfold EG
  split
  ·simp
  ·split
   ·rename_i h; subst h; simp
   ·rw [ay, KD (xs := xs), ay]
    constructor
    ·rintro (h | h | h)
     ·exact .inr (.inl h)
     ·exact .inl h
     ·exact .inr (.inr h)
    ·rintro (h | h | h)
     ·exact .inr (.inl h)
     ·exact .inl h
     ·exact .inr (.inr h)
theorem JN {k : Int} : ∀ {xs : List Int}, xs.Pairwise (· < ·) → (EG k xs).Pairwise (· < ·)
 | [], _ => by simp [EG]
 | x :: xs, h => by
  obtain ⟨h1, h2⟩ := List.pairwise_cons.mp h
  unfold EG
  split
  ·rename_i hk
   refine List.pairwise_cons.mpr ⟨fun y hy => ?_, h⟩
   rcases ay.mp hy with rfl | hy
   ·exact hk
   ·have := h1 y hy; omega
  ·split
   ·exact h
   ·refine List.pairwise_cons.mpr ⟨fun y hy => ?_, JN h2⟩
    rcases KD.mp hy with rfl | hy
    ·omega
    ·exact h1 y hy
theorem lS {j : Int} : ∀ {ns : List Int}, j ∈ fV ns ↔ j ∈ ns
 | [] => by simp [fV]
 | n :: ns => by
  have : fV (n :: ns) = EG n (fV ns) := rfl
  rw [this, KD, lS (ns := ns), ay]
theorem kA : ∀ {ns : List Int}, (fV ns).Pairwise (· < ·)
 | [] => List.Pairwise.nil
 | n :: ns => JN (kA (ns := ns))
theorem yV : ∀ {xs ys : List Int}, xs.Pairwise (· < ·) → ys.Pairwise (· < ·) → (∀ k, k ∈ xs ↔ k ∈ ys) → xs = ys
 | [], [], _, _, _ => rfl
 | [], y :: ys, _, _, h => by have := (h y).mpr (aw ..); simp at this
 | x :: xs, [], _, _, h => by have := (h x).mp (aw ..); simp at this
 | x :: xs, y :: ys, hx, hy, h => by
  obtain ⟨x1, x2⟩ := List.pairwise_cons.mp hx
  obtain ⟨y1, y2⟩ := List.pairwise_cons.mp hy
  have e : x = y := by
   have a := (h x).mp (aw ..)
   have b := (h y).mpr (aw ..)
   rcases ay.mp a with a | a
   ·exact a
   ·rcases ay.mp b with b | b
    ·exact b.symm
    ·have := y1 x a; have := x1 y b; omega
  subst e
  rw [yV x2 y2 fun k => ?_]
  constructor
  ·intro hk
   have := (h k).mp (bc _ hk)
   rcases ay.mp this with e | e
   ·have := x1 k hk; omega
   ·exact e
  ·intro hk
   have := (h k).mpr (bc _ hk)
   rcases ay.mp this with e | e
   ·have := y1 k hk; omega
   ·exact e
def wH (d : D) (w : W) : Res D := match (d.items w).bind mW with
 | some ns => if ns.length < 64 then .ok (.lst ((fV ns).map D.int)) w else .bad
 | none => .bad
theorem Rel.less {K : PySem.W.Frag} {I : List Addr} {F G H : Hp} {w : W} {q : Addr} {u : HO} (rel : Rel K I F (L2.upd G q u) w H) (hG : G q = none) : Rel K I F G w H :=
 ⟨rel.len, rel.nd, rel.ob, rel.fz, rel.ap, fun a v h => rel.gz a v (by rw [upd_ne (ne_of_none h hG)]; exact h), fun a v h => rel.gf a v (by rw [upd_ne (ne_of_none h hG)]; exact h), fun a xs h => rel.gt a xs (by rw [upd_ne (ne_of_none h hG)]; exact h)⟩
theorem Rel.aHJ {K : PySem.W.Frag} {I : List Addr} {F G H : Hp} {w : W} (rel : Rel K I F G w H) {q : Addr} {u : HO} (hq : H q = none) : Rel K I F G w (L2.upd H q u) := Y1 rel hq u
section
variable {S : aR} {p p2 pos pos2 : Pos} {e : Expr} {me : ME}
theorem aCS {X : Cx} {E : XK} {I1 : List Addr} {F1 G H1 : Hp} {x : D} {w1 : W} {v : V} {Q : VK} {ns : List Int} (rel1 : Rel X.K I1 F1 G w1 H1) (rv : aG X.K I1 F1 x v) (hx : (x.items w1).bind mW = some ns) (hn : ns.length < 64)
  (k : ∀ H2, Rel X.K I1 F1 G w1 H2 → ∀ p, H2 p = none → Q (.ref p) (upd H2 p (.lst ((fV ns).map V.int)))) :
  aHC X.K X.w [v] H1 fun y H2 => rSortedSet X.w [y] H2 Q := by
 obtain ⟨xs, e1, e2⟩ := dv.mp hx
 obtain ⟨a, vs, rfl, hq, hr⟩ := CQ rel1 rv e1
 obtain rfl := sW hr e2
 refine ⟨a, ns, rfl, hq, by unfold scanBound; omega, fun p c hc hp => ⟨p, _, c, rfl, by rw [upd_same], by omega, fun ms q hm1 hm2 hm3 hq2 => ?_⟩⟩
 have : ms = fV ns := yV hm1 kA fun k => by rw [hm2, lS, ai]
 rw [this]
 exact k _ (rel1.aHJ hp) q hq2
theorem aBe (hl : S.sc.names.lookup ("sorted" : Str) = some .globalImplicit) (hm : S.mg "sorted" = none) (hg : S.sc.names.lookup ("set" : Str) = some .globalImplicit) (hn : S.mg "set" = none) (he : JE S e me)
  (n1 : ∀ env : Env, starEach [e] env = (false, eval e env) :: starEach [] env := by intro _; rfl) (n2 : ∀ env : Env, starEach [.Call (.Name "set" p2) [e] [] pos2] env = (false, eval (.Call (.Name "set" p2) [e] [] pos2) env) :: starEach [] env := by intro _; rfl) :
  JE S (.Call (.Name "sorted" p) [.Call (.Name "set" p2) [e] [] pos2] [] pos) (AZ wH me) := fun X E cx xo =>
 cC (pe_callB (cr_sortedSet cx.calm) (by show X.env.scope.names.lookup _ = _; rw [cx.sc]; exact hl) (by rw [cx.mg]; exact hm) rfl
  (pa_cons (hs := n2 X.env) (pe_callTy (aFN cx.calm) (by show X.env.scope.names.lookup _ = _; rw [cx.sc]; exact hg) (by rw [cx.mg]; exact hn) rfl (pa_cons (hs := n1 X.env) (he X E cx xo) pa_nil) (he := n1 X.env)) pa_nil) (he := n2 X.env)) fun σ H Q ⟨I, F, G, ds, w, rel, rs, p⟩ =>
  cF (f := fun _ x w1 => wH x w1) rel rs p fun I1 F1 H1 x w1 v e1 rel1 rs1 rv pp => by
   unfold wH at pp
   split at pp
   ·rename_i ns hx
    split at pp
    ·rename_i hlt
     exact aCS (E := E) rel1 rv hx hlt fun H2 rel2 => iY rel2 (RepL.ints _) pp
    ·exact pp.elim
   ·exact pp.elim
end
theorem RepL.three {K : PySem.W.Frag} {I : List Addr} {F : Hp} {d e f : D} {vs : List V} (h : RepL K I F [d, e, f] vs) : ∃ v u t, vs = [v, u, t] ∧ aG K I F d v ∧ aG K I F e u ∧ aG K I F f t := by
 simp only [RepL] at h
 obtain ⟨v, r, rfl, h1, u, r2, rfl, h2, t, r3, rfl, h3, rfl⟩ := h
 exact ⟨v, u, t, rfl, h1, h2, h3⟩
def noM : MF := fun _ _ => .bad
theorem fZ.bad {P : Program} {w : World} {K : PySem.W.Frag} {mg : Str → Option Value} {base : Heap} {k : Nat} {f : Addr} {fd : FuncData} {ps : List Str} : fZ P w K mg base k f fd ps noM :=
 ⟨fun A outer s H args us vs Q E hr hg e0 hb r hl ⟨_, _, _, _, _, _, _, p⟩ => p.elim⟩
end Pc
namespace L2
open PySem PySem.Spec PyProof.Rows
section
variable {prog : Program} {w : World} {A : Around} {E : Value → Shared → Prop} {s : Shared}
theorem QR (hh : A.handled = none) (I ax : Addr) (hne : ax ≠ I) (items : Array Value) (i0 : Nat) (h0 : i0 ≤ items.size) :
  Walks prog w A I [I, ax] [I] (items.size - i0) (fun i v => items[i0 + i]? = some v) (fun i h => IsTupIter h I ax (i0 + i) ∧ IsTup h ax items) where
 sub := fun b hb => by simp at hb; simp [hb]
 frame := fun _ _ _ st hk => ⟨Heap.IsTupleIter.at st.1 fun o e => hk I (by simp) o e, Heap.IsTuple.at st.2 fun o e => hk ax (by simp) o e⟩
 item := fun i s Q E hi st hQ => by
  refine next_tuple_item st.1 st.2 (x := items[i0 + i]'(by omega)) (by rw [Array.getElem?_eq_getElem]) fun h' hit' hs' => ?_
  exact hQ _ h' s.toks (by rw [Array.getElem?_eq_getElem]) ⟨hit', st.2.extBut hs'.extBut hne⟩ fun b o hb e => hs'.extBut b o (fun h => hb (by simp [h])) e
 done := fun s Q E st hQ => next_tuple_end hh st.1 st.2 (by simp; omega) fun h' he' => hQ h' s.toks fun b o hb e => he' b o (fun h => hb (by simp [h])) e
 self := fun _ _ _ _ st hQ => wpAny_pyIter_tupleiter st.1 hQ
theorem DV {t : Addr} {items : Array Value} {n : Nat} {Q : List Value → Shared → Prop} (hh : A.handled = none) (ht : IsTup s.heap t items) (hn : n ≤ items.size) (hz : items.size ≤ sizeLine)
  (hQ : ∀ (h' : Heap) (tk : Nat), (∀ b o, s.heap.get? b = some o → h'.get? b = some o) → Q (items.toList.take n ++ [.ref h'.objs.size]) { s with heap := h'.push { cls := .type "list", data := .seq (items.toList.drop n).toArray }, toks := tk }) :
  wpAny (model prog w) A (unpackItems (.ref t) (n + 1) (some n)) Q E s := by
 have hlt : t ≠ s.heap.objs.size := by obtain ⟨o, ho, _⟩ := ht; exact Nat.ne_of_lt (Heap.lt_size ho)
 have hltt : t < s.heap.objs.size := by obtain ⟨o, ho, _⟩ := ht; exact Heap.lt_size ho
 unfold unpackItems
 refine wpAny_bind ?_
 unfold notIterableAtAll
 refine wpAny_bind (wpAny_specialOf ht.typeIs slot_tuple_iter.lookup ?_)
 refine wpAny_pure ?_
 simp only [dc, ae]
 refine wpAny_bind (wpAny_holding (iter_tuple ht ?_))
 refine wpAny_bind (wpAny_holding (draw_tuple hlt n 0 _ _ ⟨_, Heap.get?_push_size _ rfl, rfl, rfl⟩ (ht.push _) (by omega) fun h₁ hit₁ hs₁ => ?_))
 have hl : (List.take n (List.drop 0 items.toList)).length = n := by simp; omega
 rw [if_neg (by rw [hl]; omega)]
 have ht₁ : IsTup h₁ t items := (ht.push _).extBut hs₁.extBut hlt
 rw [Nat.zero_add] at hit₁
 have hk1 : ∀ b o, s.heap.get? b = some o → h₁.get? b = some o := fun b o e => hs₁.extBut b o (Nat.ne_of_lt (Heap.lt_size e)) (Heap.get?_push_of_some _ e)
 have hsz : s.heap.objs.size < h₁.objs.size := by obtain ⟨o, ho, _⟩ := hit₁; exact Heap.lt_size ho
 refine wpAny_bind (wpAny_holding (wpAny_collect_iter (T := "tuple_iterator") (.inr (.inr (.inr rfl))) (QR (A := A.in1) hh s.heap.objs.size t hlt items n hn).toS (fun i s' st => Heap.IsTupleIter.typeIs st.1) ⟨by rw [Nat.add_zero]; exact hit₁, ht₁⟩ (fun b hb => ?_) (by simp) (fun s' acc mv hi => ?_) (by omega)))
 ·simp only [ay, br, df] at hb
  rcases hb with rfl | rfl
  ·exact hsz
  ·exact Nat.lt_trans hltt hsz
 have ha : acc.toList = items.toList.drop n := by
  refine List.ext_getElem? fun i => ?_
  rw [List.getElem?_drop, Array.getElem?_toList, Array.getElem?_toList]
  by_cases h : i < acc.size
  ·obtain ⟨v, hv⟩ : ∃ v, acc[i]? = some v := ⟨acc[i], by simp [h]⟩
   rw [hv, hi.2 i v hv]
  ·have h1 := hi.1
   rw [Array.getElem?_eq_none (by omega), Array.getElem?_eq_none (by omega)]
 rw [ha]
 have hm : n + 1 - 1 - n = 0 := by omega
 simp only [hm, Nat.sub_zero, Nat.not_lt_zero, ae]
 rw [dh (az _), List.drop_of_length_le (az _)]
 refine wpAny_bind (wpAny_newList ?_ (by simp; omega))
 refine wpAny_pure ?_
 rw [du, dk]
 have hk2 : ∀ b o, s.heap.get? b = some o → s'.heap.get? b = some o := fun b o e => mv.heap b o (fun hb => absurd (Heap.lt_size e) (by rw [bp.mp hb]; exact Nat.lt_irrefl _)) (hk1 b o e)
 have := hQ s'.heap s'.toks hk2
 obtain ⟨hp, g, d, tk, os⟩ := s'
 have h1 : g = s.gens := mv.gens
 have h2 : d = s.drawn := mv.drawn
 have h3 : os = s.os := mv.os
 subst h1
 subst h2
 subst h3
 exact this
end
section
variable {X : Cx} {pos : Pos}
def aIg (K : PySem.W.Frag) (n : Nat) (t : TGs) : TG := fun v σ H Q => ∃ a xs, v = .ref a ∧ SqT K H a xs ∧ n ≤ xs.length ∧ xs.length ≤ sizeLine ∧ ∀ q, H q = none → t (xs.take n ++ [.ref q]) σ (upd H q (.lst (xs.drop n))) Q
theorem aGi {es : List Expr} {k : Nat} {t : TGs} {n : Nat} (hc : X.calm = true) (h : PGs X es t)
  (hn : (assignEach es X.env).length = n + 1) (hst : (assignEach es X.env).findIdx? (·.1) = some n) : PG X (.Tuple es k pos) (aIg X.K n t) := by
 refine ⟨fun pins s σ H v u Q I r hw => ?_⟩
 obtain ⟨a, xs, e1, hq, hl, hz, hw⟩ := hw
 subst e1
 cases r
 obtain ⟨its, rv, ht, hz'⟩ := I.tuple hq
 rw [assign_Tuple]
 refine wpAny_bind (wpAny_standAt ?_)
 unfold unpack
 rw [hn, hst]
 refine wpAny_bind (wpAny_holding (DV (I.ok.hd hc) ht (by simp [← rv.length]; exact hl) (by simp [← rv.length]; exact hz) fun h' tk hx => ?_))
 have I1 : Inv X pins σ H { s with heap := h', toks := tk } := I.kept (t' := tk) hx
 have hf : H h'.objs.size = none := I1.hok.fresh (az _)
 have I2 : Inv X pins σ (upd H h'.objs.size (.lst (xs.drop n))) { s with heap := h'.push { cls := .type "list", data := .seq (its.drop n).toArray }, toks := tk } :=
  I1.laid (t' := tk) (fun b u e => Heap.get?_push_of_some _ e) (az _) ⟨by simp; omega, its.drop n, 0, rv.drop n, Heap.get?_push_size _ rfl⟩
 have vr : Vals (xs.take n ++ [.ref h'.objs.size]) (its.take n ++ [.ref h'.objs.size]) := (rv.take n).append (.cons rfl .nil)
 exact h.run pins _ σ _ _ _ Q I2 (by simpa using vr) (hw _ hf)
theorem aEH {e : Expr} {p : Pos} {t : TG} (h1 : PG X e t) : PGs X [.Starred e p] (gCons t gNil) := by
 refine ⟨fun pins s σ H vs us Q I r h => ?_⟩
 obtain ⟨v, vr, e1, h⟩ := h
 subst e1
 cases r with
 | cons r rr =>
  have e : (assignEach [.Starred e p] X.env).map (·.2) = [assign e X.env] := rfl
  rw [e]
  refine assignInOrder_cons (thn (h1.run pins s σ H _ _ _ I r h) fun _ s1 ⟨σ1, H1, I1, q1⟩ => ?_)
  exact pgs_nil.run pins s1 σ1 H1 _ _ Q I1 rr q1
end
end L2
namespace Pc
open PySem PySem.Spec PyProof.Rows L2
def zJ (n : Nat) (r : TZ) : MG := fun d σ w => match AV d with
 | some xs => if n ≤ xs.length ∧ xs.length ≤ sizeLine then r (xs.take n ++ [.lst (xs.drop n)]) σ w else .bad
 | none => .bad
section
variable {S : aR} {pos pos' : Pos} {e : Expr} {es : List Expr} {g : MG} {r : TZ}
theorem VE (h1 : JG S e g) : JGs S [.Starred e pos] (aI g bO) := fun X E cx xo =>
 xR (aEH (h1 X E cx xo)) fun vs σ H Q ⟨I, F, G, xs, ds, w, rel, rs, rv, p⟩ => by
  cases xs with
  | nil => exact p.elim
  | cons d ds' =>
   simp only [RepL] at rv
   obtain ⟨v, u, rfl, h2, h3⟩ := rv
   simp only [aI] at p
   refine ⟨v, u, rfl, I, F, G, d, ds, w, rel, rs, h2, bC.mono (bC.bind p) fun I1 F1 H1 s1 w1 _ e1 rel1 q => ?_⟩
   intro s' rs'
   cases ds' with
   | cons _ _ => exact q.elim
   | nil =>
    simp only [RepL] at h3
    subst h3
    exact ⟨rfl, q I1 F1 H1 .refl rel1 s' rs'⟩
theorem aGa {k n : Nat} (h : JGs S es r) (hn : ∀ env : Env, (assignEach es env).length = n + 1 := by intro _; rfl) (hst : ∀ env : Env, (assignEach es env).findIdx? (·.1) = some n := by intro _; rfl) : JG S (.Tuple es k pos) (zJ n r) := fun X E cx xo =>
 uV (aGi cx.calm (h X E cx xo) (hn X.env) (hst X.env)) fun v σ H Q ⟨I, F, G, d, ds, w, rel, rs, rv, p⟩ => by
  simp only [zJ] at p
  cases e : AV d with
  | none => rw [e] at p; exact p.elim
  | some xs =>
   rw [e] at p
   obtain ⟨a, vs, rfl, h1, h2⟩ : ∃ a vs, v = .ref a ∧ SqT X.K H a vs ∧ RepL X.K I F xs vs := by
    cases d <;> simp only [AV, aj, reduceCtorEq] at e <;> subst e <;> simp only [aG] at rv
    ·obtain ⟨a, vs, h0, h1, h2⟩ := rv; exact ⟨a, vs, h0, .of (rel.fz _ _ h1), h2⟩
    ·obtain ⟨a, vs, h0, h1, h2⟩ := rv; exact ⟨a, vs, h0, rel.VB h1, h2⟩
   simp only at p
   split at p
   ·rename_i hl
    refine ⟨a, vs, rfl, h1, by rw [← h2.length]; exact hl.1, by rw [← h2.length]; exact hl.2, fun q hq => ?_⟩
    have hd := h2.drop n
    obtain ⟨I', F', e1, rel1, rl⟩ := iY (E := E) (w := w) (Q := fun v H' => ∃ I' F', Ext I F I' F' ∧ Rel X.K I' F' G w H' ∧ aG X.K I' F' (.lst (xs.drop n)) v) rel hd (fun I' F' H' e1 rel' v rv => ⟨I', F', e1, rel', rv⟩) q hq
    exact ⟨I', F', G, _, ds, w, rel1, rs.ext e1, ((h2.take n).ext e1).append (RepL.cons rl (by simp [RepL])), p.ext e1⟩
   ·exact p.elim
end
def anyM : MF := fun ds w => match ds with
 | [d] => (match (AV d).bind mW with
  | some ns => .ok (.bl (ns.any fun n => n != 0)) w
  | none => match (tL d w).bind wR with
   | some bs => .ok (.bl (bs.any id)) w
   | none => .bad)
 | _ => .bad
def dE (xs : List D) : List D := (List.range xs.length).zipWith (fun i x => D.tup [.int (i : Nat), x]) xs
theorem K2 (xs : List D) : (dE xs).length = xs.length := by simp [dE]
theorem ZV {xs : List D} {j : Nat} {x : D} (h : (dE xs)[j]? = some x) : ∃ d, xs[j]? = some d ∧ x = .tup [.int (j : Nat), d] := by
 have hl : j < (dE xs).length := (ar.mp h).1
 rw [K2] at hl
 refine ⟨xs[j], bo hl, ?_⟩
 simp only [dE, List.getElem?_zipWith, List.getElem?_range hl, bo hl] at h
 cases h
 rfl
def lJ (ds : List D) (w : W) : Res lO := match ds with
 | [.lst xs] => .ok ⟨dE xs, always⟩ w
 | [.ref i] => (match w[i]? with
  | some (.lst xs) => .ok ⟨dE xs, holds i (.lst xs)⟩ w
  | _ => .bad)
 | _ => .bad
theorem aDN {K : PySem.W.Frag} {I : List Addr} {F : Hp} {a : Addr} {it : lO} {xs : List D} (hx : it.xs = dE xs) (h : ∀ I' F' G w H, Ext I F I' F' → Rel K I' F' G w H → it.ok w → ∃ vs, SqL K H a vs ∧ RepL K I' F' xs vs) : DE K I F (Ite K a) it := fun I' F' G w H j e rel ok => by
 obtain ⟨vs, hq, r⟩ := h I' F' G w H e rel ok
 refine ⟨fun x hx' => ?_, fun hl => ⟨vs, hq, by rw [hx, K2] at hl; rw [← r.length, hl]; exact az _⟩⟩
 rw [hx] at hx'
 obtain ⟨d, hd, rfl⟩ := ZV hx'
 obtain ⟨v, hv, rv⟩ := r.get hd
 refine ⟨⟨vs, v, hq, hv⟩, fun u H' y => ?_⟩
 obtain ⟨T, x', rfl, k1, rfl, k2⟩ := y
 have := k2 vs hq
 rw [hv] at this; cases this
 exact OI rel (RepL.cons (by simp [aG]) (RepL.cons rv (by simp [RepL]))) k1
theorem IW {S : aR} {e : Expr} {ma : MA} {p pos tpos : Pos} {elts : List Expr} {kk : Nat} (hg : S.sc.names.lookup ("enumerate" : Str) = some .globalImplicit) (hm : S.mg "enumerate" = none) (ha : JA S [e] ma)
  (hs : ∀ env : Env, starEach [e] env = [(false, eval e env)] := by intro _; rfl) : JI S (.Tuple elts kk tpos) (.Call (.Name "enumerate" p) [e] [] pos) (dB lJ ma) := fun X E cx xo =>
 B9 (pi_enum (by show X.env.scope.names.lookup _ = _; rw [cx.sc]; exact hg) (by rw [cx.mg]; exact hm) (ha X E cx xo) (hs X.env)) fun σ H R ⟨I, F, G, ds, w, rel, rs, p⟩ => gO (f := fun _ => lJ) rel rs p fun I1 F1 H1 xs w1 vs e1 rel1 rs1 rv p1 => by
  unfold lJ at p1
  split at p1
  ·rename_i xs
   obtain ⟨v, rfl, rx⟩ := rv.one
   simp only [aG] at rx
   obtain ⟨a, us, rfl, h1, h2⟩ := rx
   exact ⟨a, us, rfl, .of (rel1.fz _ _ h1), p1 I1 F1 H1 .refl rel1 trivial _ (aDN rfl fun I' F' G w H e rel ok => ⟨us, .of (rel.fz _ _ (e.f _ _ h1)), RepL.ext e _ _ h2⟩)⟩
  ·rename_i i
   obtain ⟨v, rfl, rx⟩ := rv.one
   simp only [aG] at rx
   obtain ⟨a, rfl, ha⟩ := rx
   split at p1
   ·rename_i xs hw
    obtain ⟨u, g1, g2⟩ := rel1.ob i a _ ha hw
    obtain ⟨us, rfl, g3⟩ := g2
    refine ⟨a, us, rfl, .of g1, p1 I1 F1 H1 .refl rel1 hw _ (aDN rfl fun I' F' G w H e rel ok => ?_)⟩
    obtain ⟨u', k1, k2⟩ := rel.ob i a _ (e.get ha) ok
    obtain ⟨us', rfl, k3⟩ := k2
    exact ⟨us', .of k1, k3⟩
   ·exact p1.elim
  ·exact p1.elim
end Pc
namespace L2
open PySem PySem.Spec PyProof.Rows
def smallKey : List Key → Bool
 | [.inl a, .inl s, .inl r] => (decide (0 ≤ a) && decide (a < 4)) && ((decide (0 ≤ s) && decide (s < 6)) && (decide (0 ≤ r) && decide (r < 10)))
 | _ => false
section
variable {X : Cx}
theorem pairs_at {pins : List (Addr × Obj)} {σ : St} {H : Hp} {s : Shared} (I : Inv X pins σ H s) : ∀ {ps : List Addr} {kvs : List (List Key × V)}, Paired (fun p kv => ∃ b, H p = some (.tup [.ref b, kv.2]) ∧ H b = some (.tup (kv.1.map kV))) ps kvs →
  ∃ xs : List (List Key × Addr × Value), KT H kvs xs ∧ xs.length = ps.length ∧ ∀ (j : Nat) (x : List Key × Addr × Value), xs[j]? = some x → ∃ p, ps[j]? = some p ∧ IsTup s.heap p #[.ref x.2.1, x.2.2] ∧ (tupleKind (mixKind X.prog X.w)).is s.heap x.1 x.2.1
 | [], _, .nil => ⟨[], .nil, rfl, fun j x e => by simp at e⟩
 | p :: ps, kv :: kvs, .cons ⟨b, h1, h2⟩ t => by
  obtain ⟨xs, g1, g2, g3⟩ := pairs_at I t
  obtain ⟨its, rv, ht, _⟩ := I.tuple (.inl (.inl h1))
  obtain ⟨u, y, rfl, ru, ry⟩ := vals2 rv
  cases (show u = Value.ref b from ru)
  refine ⟨(kv.1, b, y) :: xs, .cons ⟨rfl, h2, ry⟩ g1, by simp [g2], fun j x e => ?_⟩
  cases j with
  | zero =>
   cases e
   exact ⟨p, rfl, ht, key_of I.hok h2⟩
  | succ j => exact g3 j x e
end
end L2
namespace Pc
open PySem PySem.Spec PyProof.Rows L2
open Classical in
def dcL (it : lO) (vs : List Nat) (g : MG) (t : MT) (ek ev : ME) : List D → List (List Key × D) → Sg → W → Res (List (List Key × D))
 | [], acc, σ, w => if it.ok w then .ok acc w else .bad
 | x :: xs, acc, σ, w => if it.ok w then (g x (cQ σ vs) w).noX.bind fun σ1 w1 => (t σ1 w1).noX.bind fun b w2 =>
   if b = true then (ek σ1 w2).noX.bind fun k w3 => (ev σ1 w3).noX.bind fun v w4 => match k with
    | .tup ks => (match BC ks with
     | some kk => if acc.length < sizeLine then dcL it vs g t ek ev xs (putD acc kk v) σ w4 else .bad
     | none => .bad)
    | _ => .bad
   else dcL it vs g t ek ev xs acc σ w2
  else .bad
def aMm (m : MI) (vs : List Nat) (g : MG) (t : MT) (ek ev : ME) : ME := fun σ w => (m σ w).bind fun it w1 => (dcL it vs g t ek ev it.xs [] σ w1).bind fun kvs w2 => .ok (.ref w2.length) (w2 ++ [.dT kvs])
theorem aS.len {κ : Type} {K : PySem.W.Frag} {I : List Addr} {F : Hp} : ∀ {ds : List (κ × D)} {vs : List (κ × V)}, aS K I F ds vs → ds.length = vs.length
 | [], vs, h => by simp only [aS] at h; subst h; rfl
 | (k, d) :: ds, vs, h => by
  simp only [aS] at h
  obtain ⟨v, r, rfl, _, h3⟩ := h
  simp [aS.len h3]
def pairOf : D → Option (List Key × D)
 | .tup [.tup ks, v] => (BC ks).map fun k => (k, v)
 | _ => none
def pairsOf : List D → Option (List (List Key × D))
 | [] => some []
 | d :: ds => match pairOf d, pairsOf ds with
  | some p, some ps => some (p :: ps)
  | _, _ => none
def aLs : MF := fun ds w => match ds with
 | [.ref i] => (match w[i]? with
  | some (.dK kvs) => .ok (.ref w.length) (w ++ [.dK kvs])
  | some (.dT kvs) => if (kvs.all fun p => smallKey p.1) = true then .ok (.ref w.length) (w ++ [.dT kvs]) else .bad
  | _ => .bad)
 | [.lst ps] => (match pairsOf ps with
  | some kvs => .ok (.ref w.length) (w ++ [.dT (AM [] kvs)])
  | none => .bad)
 | _ => .bad
def aKz (tab : List (Str × Option D)) (ys : List D) (w : W) : Res D := match ys with
 | [.str z, y] => (match tab.lookup z with
  | some o => .ok (o.getD y) w
  | none => .ok y w)
 | _ => .bad
def aLx (d : Addr) (tab : List (Str × Option D)) (mo : ME) (ma : MA) : ME := fun σ w => (mo σ w).bind fun x w1 => match x with
 | .con a => if a = d then (ma σ w1).bind fun ys w2 => aKz tab ys w2 else .bad
 | _ => .bad
end Pc
namespace L2
open PySem PySem.Spec PyProof.Rows
open PySem.W (EachIs AllAlike Sortable dataLe)
def leI (a b : Int) : Bool := decide (a ≤ b)
end L2
namespace Pc
open PySem PySem.Spec PyProof.Rows L2
def aGM : MF := fun ds w => match ds with
 | [.tup xs] => (match mW xs with
  | some ns => .ok (.lst ((ns.mergeSort leI).map D.int)) w
  | none => .bad)
 | ds => aAp ds w
def aHB (n : Nat) (r : TZ) : MG := fun d σ w => match aGF d w with
 | some xs => if xs.length = n then r xs σ w else .bad
 | none => .bad
open RZ (nextOf_tuple_item nextOf_tuple_end)
def zmM (ds : List D) (w : W) : Res lO := match ds with
 | [.tup xs, .lst ys] => if xs.length = ys.length then .ok ⟨(xs.zip ys).map fun p => .tup [p.1, p.2], always⟩ w else .bad
 | _ => .bad
end Pc
namespace Pc
open PySem PySem.Spec PyProof.Rows L2 PySem.W
def eqE (x y : D) (w : W) : Res D := match x, y with
 | .ref i, .ref j => (match w[i]?, w[j]? with
  | some (.dT kvs), some (.dT []) => .ok (.bl kvs.isEmpty) w
  | _, _ => .bad)
 | _, _ => .bad
end Pc
namespace Pc
open PySem PySem.Spec PyProof.Rows L2
def aMl (C : Addr) (nm : Str) (x : D) (w : W) : Option Nat := match x with
 | .ref i => (match w[i]? with
  | some (.ins C' fs) => if C' = C ∧ fs.lookup nm = none then some i else none
  | _ => none)
 | _ => none
def C8 (C : Addr) (nm : Str) (m : MF) (n : Nat) (gd : List D → List D → List D) (mo : ME) (ma : MA) : ME := fun σ w => (mo σ w).bind fun x w1 => match aMl C nm x w1 with
 | some i => (ma σ w1).bind fun xs w2 => if xs.length + 1 = n then m (gd (.ref i :: xs) []) w2 else .bad
 | none => .bad
def aGk : MMt := fun d ds w => match d, ds with
 | .ref i, [.tup zs] => (match w[i]? with
  | some (.lst xs) => if xs.length + zs.length ≤ sizeLine then .ok .non (w.set i (.lst (xs ++ zs))) else .bad
  | _ => .bad)
 | _, _ => .bad
def lexLeI (ns ms : List Int) : Bool := Ob.lexAt (fun j => decide (ns.getD j 0 = ms.getD j 0)) (fun j => decide (ns.getD j 0 ≤ ms.getD j 0)) (decide (ns.length ≤ ms.length)) 0 (min ns.length ms.length)
def leA (x y : D) (w : W) : Res D := match x, y with
 | .int a, .int b => .ok (.bl (decide (a ≤ b))) w
 | .tup a, .tup b => (match mW a, mW b with
  | some ns, some ms => .ok (.bl (lexLeI ns ms)) w
  | _, _ => .bad)
 | _, _ => .bad
def aLo (x y : D) (w : W) : Res D := match aGF x w, aGF y w with
 | some a, some b => if a.length + b.length ≤ sizeLine then .ok (.ref w.length) (w ++ [.lst (a ++ b)]) else .bad
 | _, _ => .bad
end Pc
namespace He
open PySem PySem.Spec PyProof.Rows L2
abbrev AlY : Type := AlT × Bool
def aGp (as : List Addr) (fa : List Fa) (fn : List DefD) (ts : List Tab) (ex : PySem.W.Frag → Bool) (g : Addr → Option Obj) : AlY := (obsT fa fn ts (frT g as), ex (frT g as))
def aKM (fn : List DefD) (ts : List Tab) (w : World) : AlY := (valT fn ts w, true)
theorem aEL {as : List Addr} {fa : List Fa} {fn : List DefD} {ts : List Tab} {ex : PySem.W.Frag → Bool} {w : World} {h : Heap} (e : aGp as fa fn ts ex h.get? = aKM fn ts w) : SaysX fa fn ts [] ex w h (frT h.get? as) :=
 ⟨congrArg (fun z : AlY => z.1) e, congrArg (fun z : AlY => z.2) e, (fun _ hp => nomatch hp), (fun _ hp => nomatch hp), (fun _ hp => nomatch hp)⟩
def aHU (as : List Addr) (fa : List Fa) (fn : List DefD) (ts : List Tab) (ex : PySem.W.Frag → Bool) : PySem.W.Hook where
 α := AlY
 obs := fun s => aGp as fa fn ts ex s.heap.get?
 val := fun w => aKM fn ts w
 says := fun w h => ∃ K : PySem.W.Frag, K.In h ∧ SaysX fa fn ts [] ex w h K
 of := fun _ _ e => ⟨_, frT_in, aEL e⟩
 keeps := fun _ _ _ ⟨K, hK, c⟩ k => ⟨K, PySem.W.Frag.In.keeps hK k, ⟨c.t, c.more, c.hd, c.out, (fun _ hp => nomatch hp)⟩⟩
theorem aFr {as : List Addr} {fa : List Fa} {fn : List DefD} {ts : List Tab} {ex : PySem.W.Frag → Bool} {g : Addr → Option Obj} {s : Shared} (h : ∀ a, g a = s.heap.get? a) : aGp as fa fn ts ex g = (aHU as fa fn ts ex).obs s := by
 have e : g = s.heap.get? := funext h
 rw [e]
 rfl
theorem aHv {α β γ δ : Type} {e : Option α} {f : α → β} {g : α → γ} {h : α → δ} {a : β} {b : γ} {c : δ} (h1 : e.map (fun s => (f s, g s)) = some (a, b)) (h2 : e.map h = some c) : e.map (fun s => (f s, g s, h s)) = some (a, b, c) := by
 cases e with
 | none => exact nomatch h1
 | some s => 
  have q : (f s, g s) = (a, b) := Option.some.inj h1
  have q2 : h s = c := Option.some.inj h2
  have q3 := congrArg Prod.fst q
  have q4 := congrArg Prod.snd q
  show some (f s, g s, h s) = some (a, b, c)
  rw [q2, show f s = a from q3, show g s = b from q4]
end He
namespace Pc
open PySem PySem.Spec PyProof.Rows L2
def yX : MMt := fun d ds w => match d, ds with
 | .ref i, [.int j, y] => (match w[i]? with
  | some (.lst xs) => if xs.length < sizeLine ∧ 0 ≤ j ∧ j < 2 ^ 63 then .ok .non (w.set i (.lst (xs.take j.toNat ++ [y] ++ xs.drop j.toNat))) else .bad
  | _ => .bad)
 | _, _ => .bad
theorem aBN {S : aR} : MB S "list.insert" yX := LG fun X E c xo I F G d ds w H x vs Q rel rd rl p => by
 unfold yX at p
 split at p
 ·rename_i i j y
  simp only [aG] at rd
  obtain ⟨a, rfl, hi⟩ := rd
  obtain ⟨v, u0, rfl, rj, ry⟩ := rl.two
  simp only [aG] at rj
  subst rj
  split at p
  ·rename_i xs hw
   obtain ⟨u, hu, us, rfl, hr⟩ := rel.ob i a _ hi hw
   split at p
   ·rename_i hl
    exact ⟨_, mt_insert, a, us, j, u0, rfl, rfl, hu, by rw [← hr.length]; exact hl.1, hl.2.1, hl.2.2, p.nM (rel.upd hi hw ⟨_, rfl, ((hr.take _).append (RepL.cons ry (by simp [RepL]))).append (hr.drop _)⟩) (by simp [aG])⟩
   ·exact p.elim
  ·exact p.elim
 ·exact p.elim
end Pc
namespace L2
open PySem PySem.Spec PyProof.Rows
section
variable {X : Cx} {e : Expr} {es : List Expr} {ta : TA} {p1 p2 pos : Pos} {x : Str} {N : Addr}
theorem aEi {pl : Sem Bool} (hg : Gl X x) (hm : X.mg x = some (.ref N)) (hdb : (x == ("__debug__" : Str)) = false) (rd : ClX.CRead X.K N (.type "type")) (vN : PySem.W.findCls X.K (.ref N) (.type "type") "__init__" = some (.val (.builtin "ValueError.__init__"))) (ha : PA X (e :: es) ta)
  (hc : eval (.Call (.Attribute (.Name x p1) "__init__" p2) (e :: es) [] pos) X.env = (do
   let ov ← eval (.Name x p1) X.env
   standAt p2.atName
   let (f, first) ← holding [ov] (getMethod ov "__init__" pl)
   callWith pos f first (backTo pos (starEach (e :: es) X.env)) (backToKw pos (keywordEach [] X.env))) := by rfl)
  (he : starEach (e :: es) X.env = (false, eval e X.env) :: starEach es X.env := by rfl) (hpl : (backTo pos (starEach es X.env)).any (·.1) = false := by rfl) :
  PE X (.Call (.Attribute (.Name x p1) "__init__" p2) (e :: es) [] pos) (tVeI X.K ta) := by
 refine ⟨fun pins s σ H Q I h => ?_⟩
 refine PySem.W.methodCall_KW (ld_glob I hg hm ?_ hdb) hc
 refine PySem.W.method_cls I.kIn rd.ga (PySem.W.cls_value I.kIn rd.rd vN (by decide +kernel) ?_)
 show wpAny _ _ (callWith pos (Value.builtin "ValueError.__init__") [] (backTo pos (starEach (e :: es) X.env)) []) _ _ _
 refine PyProof.Rows.callWith_method1 (thn (ha.run pos pins _ σ H _ (I.tok _) h) fun us s1 ⟨vs, H1, I1, r1, a, C, ws, ev, hl, T, ea, q⟩ => ?_) he hpl
 subst ev
 cases r1 with
 | @cons _ u0 _ ur ra rw' =>
  obtain rfl : u0 = Value.ref a := ra
  have hlen : ur.length ≤ sizeLine := by
   rw [← Paired.length rw', sizeLine_eq]
   omega
  exact oinit_ok T I1 ea hlen fun s' J => ⟨.non, H1, J, rfl, q⟩
end
end L2
namespace Pc
open PySem PySem.Spec PyProof.Rows L2
structure ExF (K : PySem.W.Frag) (C N fI : Addr) (f : Str) : Prop where
 oex : OexC K C
 iC : PySem.W.findIn K (.ref C) "__init__" = some (some (.ref fI))
 tI : PySem.W.typeIn K (.ref fI) = some (.type "function")
 no : PySem.W.findIn K (.ref C) f = some none
 xf : XfC K C
 rd : ClX.CRead K N (.type "type")
 vN : PySem.W.findCls K (.ref N) (.type "type") "__init__" = some (.val (.builtin "ValueError.__init__"))
def spX (C : Addr) (f : Str) : Sp := fun vs H Q E => ∃ (a : Addr) (v : V), vs = [.ref a, v] ∧ H a = some (exo a C none) ∧ ∀ dx, H dx = none → dx ≠ a → Q .non (upd (upd H dx (exd dx [(f, v)])) a (exo a C (some dx)))
def CXn : CXT := fun _ _ _ _ _ _ => False
theorem aKs {X : Cx} {E : XK} : Passes CXn X E := fun _ _ _ _ _ _ _ h => h.elim
theorem aFo {P : Program} {w : World} {K : PySem.W.Frag} {mg : Str → Option Value} {base : Heap} {C N fI : Addr} {f xN a qual txt : Str} {fd : FuncData} {params : Arguments} {scope : Scope} {body : List Stmt} {p1 p2 p3 p4 p5 p6 p7 p8 p9 p10 : Pos} {j : Nat}
  (T : ExF K C N fI f) (F : FunD K "__init__" qual params body scope [] [] fI fd) (Sc : FnScope ["self", a] ["self", a] scope)
  (hb : body = [.Expr (.Call (.Attribute (.Name xN p1) "__init__" p2) [.Name "self" p3, .Constant (.str txt) j p4] [] p5) p6, .Assign [.Attribute (.Name "self" p7) f p8] (.Name a p9) p10])
  (hg : scope.names.lookup xN = some .globalImplicit) (hm : mg xN = some (.ref N)) (hdb : (xN == ("__debug__" : Str)) = false) (v0 : Vis scope "self") (v1 : Vis scope a) (d1 : (a == ("__debug__" : Str)) = false) (d2 : (a == ("__classdict__" : Str)) = false)
  {pl : Env → Sem Bool} (hc : ∀ env : Env, eval (.Call (.Attribute (.Name xN p1) "__init__" p2) [.Name "self" p3, .Constant (.str txt) j p4] [] p5) env = (do
   let ov ← eval (.Name xN p1) env
   standAt p2.atName
   let (f, first) ← holding [ov] (getMethod ov "__init__" (pl env))
   callWith p5 f first (backTo p5 (starEach [.Name "self" p3, .Constant (.str txt) j p4] env)) (backToKw p5 (keywordEach [] env))))
  (hs1 : ∀ env : Env, swapsWith (.Call (.Attribute (.Name xN p1) "__init__" p2) [.Name "self" p3, .Constant (.str txt) j p4] [] p5) none p6.line env = pure false)
  (hs2 : ∀ env : Env, swapsWith (.Name a p9) (some (.Attribute (.Name "self" p7) f p8)) p10.line env = pure false) :
  FnOk P w K mg base CXn 1 fI fd ["self", a] (spX C f) := by
 subst hb
 refine F.ok Sc (fun vs H Q E ⟨b, v, e, _⟩ => by rw [e]; rfl) fun cdv A outer s H vs Q E hr ⟨b, v, e, hb, k⟩ => ?_
 subst e
 refine ⟨_, pss_cons (ps_expr (aEi (by exact hg) (by exact hm) hdb (by exact T.rd) (by exact T.vN) (pa_cons (pe_var (i := 0) rfl (by exact v0)) (pa_cons pe_str pa_nil)) (hc _)) (hs1 _)) (pss_one (ps_ost (pe_var (i := 0) rfl (by exact v0)) (pe_var (i := 1) rfl (by exact v1) d1 d2) (hs2 _))), ?_⟩
 refine ⟨.ref b, rfl, b, C, [.str txt], rfl, by simp, T.oex, hb, ?_⟩
 refine ⟨v, rfl, .ref b, rfl, b, C, rfl, T.oex, T.no, .inl ⟨hb, fun dx n ne => ?_⟩⟩
 exact k dx n ne
def EW (C : Addr) (f : Str) (me : ME) : MS := fun σ w => (me σ w).bind fun d w1 => .zC ⟨.ref C, some [(f, d)]⟩ w1
theorem W5 {S : aR} {C N fI : Addr} {f x : Str} {fd : FuncData} {ps : List Str} {e : Expr} {me : ME} {p cpos pos : Pos} (hk : 2 ≤ S.k) (T : ExF S.K C N fI f) (F1 : FnOk S.P S.w S.K S.mg S.base CXn 1 fI fd ps (spX C f)) (hb : Binds S.K fd ps [])
  (hg : S.sc.names.lookup x = some .globalImplicit) (hm : S.mg x = some (.ref C)) (he : JE S e me) (hdb : (x == ("__debug__" : Str)) = false := by decide)
  (hst : ∀ env : Env, starEach [e] env = (false, eval e env) :: starEach [] env := by intro _; rfl) (hpl : ∀ env : Env, (backTo cpos (starEach [] env)).any (·.1) = false := by intro _; rfl) :
  JS S (.Raise (some (.Call (.Name x p) [e] [] cpos)) none pos) (EW C f me) := fun X E cx xo => by
 have T' : ExF X.K C N fI f := by rw [cx.K]; exact T
 have F' : FnOk X.prog X.w X.K X.mg X.base CXn 1 fI fd ps (spX C f) := by rw [cx.P, cx.w, cx.K, cx.mg, cx.base]; exact F1
 refine mK (ps_raise cx.calm xo.tk (pmk_oex (dvs := []) T'.oex T'.iC T'.tI F' (cx.room.mono hk) (by rw [cx.K]; exact hb) .nil aKs (by show X.env.scope.names.lookup x = _; rw [cx.sc]; exact hg) (by rw [cx.mg]; exact hm) (pa_cons (he X E cx xo) pa_nil (hst X.env)) hdb (hst X.env) (hpl X.env))) fun Z σ H ⟨I, F, G, ds, w, rel, rs, p⟩ => ?_
 refine cF (f := fun _ d w1 => (Res.zC ⟨.ref C, some [(f, d)]⟩ w1 : Res Fl)) rel rs p fun I1 F1 H1 y w1 v e1 rel1 rs1 rv p1 => ?_
 refine ⟨by simp, fun a na => ⟨a, v, rfl, upd_same, fun dx n ne => ⟨rfl, dx, [(f, v)], upd_same, ?_, ?_, ?_⟩⟩⟩
 ·rw [upd_ne ne, upd_same]
 ·rw [upd_ne ne] at n
  exact n
 have n' : H1 dx = none := by rw [upd_ne ne] at n; exact n
 have eH : upd (del (upd (upd (upd H1 a (exo a C none)) dx (exd dx [(f, v)])) a (exo a C (some dx))) a) dx (.xd [(f, v)]) = upd H1 dx (.xd [(f, v)]) := by
  funext b
  by_cases h1 : b = dx
  ·rw [h1, upd_same, upd_same]
  ·rw [upd_ne h1, upd_ne h1]
   by_cases h2 : b = a
   ·rw [h2, del_same, na]
   ·rw [del_ne h2, upd_ne h2, upd_ne h1, upd_ne h2]
 rw [eH]
 exact p1 I1 F1 _ (.ref C) (some dx) .refl (rel1.aHJ n') ⟨rfl, dx, [(f, v)], rfl, upd_same, ⟨v, [], rfl, rv, rfl⟩⟩
def kmL (l : List (Addr × Bool)) : Value → Option Bool
 | .ref a => l.lookup a
 | _ => none
def aDR (K : PySem.W.Frag) (Hc : Addr) (l : List (Addr × Bool)) : Prop := ∀ a b, l.lookup a = some b → PySem.W.exmOne K (.ref a) (.ref Hc) = some b
def unI (i : Nat) : Fl → Fl
 | .nx s => .nx (s.set i none)
 | .rt d => .rt d
 | .bk s => .bk (s.set i none)
 | .ct s => .ct (s.set i none)
def forget (σ : Sg) : Sg := List.replicate σ.length none
def calm {α : Type} : Res α → Res α
 | .ok a w => .ok a w
 | _ => .bad
def ZE (mb : MS) (l : List (Addr × Bool)) (i : Nat) (ms : XD → MS) : MS := fun σ w => match mb σ w with
 | .ok f w1 => .ok f w1
 | .bad => .bad
 | .zC x w1 => match kmL l x.cls with
  | some true => (calm (ms x (forget σ) w1)).bind fun f w2 => .ok (unI i f) w2
  | some false => .zC x w1
  | none => .bad
def aHG (K : PySem.W.Frag) (i : Nat) (a : Addr) (cls : Value) (d : Option Addr) (ms : XD → MS) : TS := fun Z σ H => σ[i]? = some (some (.ref a)) ∧ ∃ I F G ds w x, Rel K I F G w H ∧ dU K I F ds σ ∧ A0 K I F H x cls d ∧ bC K I F G (fun _ _ _ => False) (RFl K Z) (calm (ms x ds w))
def JSu (S : aR) (i : Nat) (suite : List Stmt) (ms : XD → MS) : Prop := ∀ (X : Cx) (a : Addr) (oe : Obj) (cls : Value) (d : Option Addr) (pn : List (Addr × Obj)), Ctx S X → Zc cls d oe → (∃ vs, oe.data = .fields vs) → PSs (X.suite a ((a, oe) :: pn)) suite (aHG X.K i a cls d ms)
theorem dU.forget {K : PySem.W.Frag} {I : List Addr} {F : Hp} {ds : Sg} {s : L2.St} (h : ds.length = s.length) : dU K I F (forget ds) s := by
 refine ⟨by simp [Pc.forget, h], fun i d e => ?_⟩
 unfold Pc.forget at e
 rw [List.getElem?_replicate] at e
 split at e <;> cases e
def Top (X : Cx) : Prop := X.stack = X.env :: X.outer ∧ X.env.frame = some X.env.locals
def JST (S : aR) (st : Stmt) (m : MS) : Prop := ∀ X E, Ctx S X → vV X E → Top X → PS X st (TN X.K E m)
def aBH (S : aR) (st : List Stmt) (m : MS) : Prop := ∀ X E, Ctx S X → vV X E → Top X → PSs X st (TN X.K E m)
theorem JS.t {S : aR} {st : Stmt} {m : MS} (h : JS S st m) : JST S st m := fun X E cx xo _ => h X E cx xo
theorem sH.t {S : aR} {st : List Stmt} {m : MS} (h : sH S st m) : aBH S st m := fun X E cx xo _ => h X E cx xo
theorem WH {S : aR} {st : Stmt} {sts : List Stmt} {a b : MS} (h1 : JST S st a) (h2 : aBH S sts b) : aBH S (st :: sts) (aJ a b) := fun X E cx xo t =>
 BR (pss_cons (h1 X E cx xo t) (h2 X E cx xo t)) fun Z σ H h => VM h
theorem aFk {S : aR} {st : Stmt} {a : MS} (h1 : JST S st a) : aBH S [st] a := fun X E cx xo t => pss_one (h1 X E cx xo t)
theorem aIm {S : aR} {Hc : Addr} {l : List (Addr × Bool)} {i : Nat} {x n : Str} {body suite : List Stmt} {b₀ : Stmt} {np pos pos' : Pos} {mb : MS} {ms : XD → MS} (hi : S.N[i]? = some n) (hln : S.sc.names.lookup n = some .local) (hg : S.sc.names.lookup x = some .globalImplicit) (hm : S.mg x = some (.ref Hc))
  (km : aDR S.K Hc l) (hb : sH S body mb) (hs : JSu S i (b₀ :: suite) ms) (hdb : (x == ("__debug__" : Str)) = false := by decide) :
  JST S (.Try body [.ExceptHandler (some (.Name x np)) (some n) (b₀ :: suite) pos'] [] [] pos) (ZE mb l i ms) := fun X E cx xo ⟨s1, s2⟩ => by
 have hi' : X.N[i]? = some n := by rw [cx.N]; exact hi
 have PT := ps_try_as (X := X) (i := i) (x := x) (n := n) (np := np) (pos := pos) (pos' := pos') (body := body) (b₀ := b₀) (suite := suite) (c := .ref Hc) (tb := fun W => TN X.K (fun cls d H => ∀ σ' : L2.St, σ'.length = X.N.length → W cls d σ' H) mb) (ts := fun a cls d => aHG X.K i a cls d ms) (Wout := fun cls d _ H => E cls d H) s1 s2 cx.nd hi' (by show X.env.scope.names.lookup n = _; rw [cx.sc]; exact hln)
  ⟨by show X.env.scope.names.lookup x = _; rw [cx.sc]; exact hg, hdb, .inl (by rw [cx.mg]; exact hm)⟩ xo.tk (fun W pn xe tk ow => by
   have cx' : Ctx S (X.tr pn xe) := ⟨cx.P, cx.w, cx.K, cx.mg, cx.base, cx.N, cx.sc, cx.fn, cx.calm, cx.room, cx.gds, cx.nd⟩
   refine hb (X.tr pn xe) _ cx' ⟨fun u s' ⟨a, B, sI, pins, σ, H, cls, d, e, J, nb, up, sky, na, os, ag, w⟩ => ?_, ow⟩
   exact tk u s' ⟨a, B, sI, pins, σ, H, cls, d, e, J, nb, up, sky, na, os, ag, w σ J.len⟩) (fun a oe cls d pn hz hf => hs X a oe cls d pn cx hz hf)
 refine ⟨fun pins s σ H Z J ⟨I, F, G, ds, w, rel, rs, p⟩ => PT.run pins s σ H Z J ?_⟩
 have hlen0 : ds.length = X.N.length := by rw [rs.1]; exact J.len
 refine ⟨I, F, G, ds, w, rel, rs, ?_⟩
 unfold ZE at p
 cases hr : mb ds w with
 | ok f w1 => rw [hr] at p; exact p
 | bad => rw [hr] at p; exact p.elim
 | zC z w1 =>
  rw [hr] at p
  intro I' F' H' c d e rel' rx σ' hlen
  have ec : c = z.cls := rx.1
  have hl : ds.length = σ'.length := by rw [hlen, hlen0]
  simp only at p
  cases hk : kmL l z.cls with
  | none => rw [hk] at p; exact p.elim
  | some b =>
   rw [hk] at p
   have hex : PySem.W.exmOne X.K c (.ref Hc) = some b := by
    rw [ec, cx.K]
    unfold kmL at hk
    split at hk
    ·rename_i a ha
     rw [ha]
     exact km a b hk
    ·cases hk
   refine ⟨b, hex, fun hb a na => ?_, fun hb => ?_⟩
   ·subst hb
    simp only at p
    have hin : i < σ'.length := by rw [hlen]; exact (ar.mp hi').1
    refine ⟨cc hin, I', F', G, forget ds, w1, z, rel', dU.forget (by rw [List.length_set]; exact hl), rx, ?_⟩
    have p' := (bC.ext (bC.bind p) e)
    cases hq : calm (ms z (forget ds) w1) with
    | bad => rw [hq] at p'; exact p'.elim
    | zC y w2 => unfold calm at hq; split at hq <;> cases hq
    | ok f w2 =>
     rw [hq] at p'
     intro I2 F2 H2 e2 rel2
     have p2 := p' I2 F2 H2 e2 rel2
     have p3 := p2 I2 F2 H2 .refl rel2
     cases f with
     | nx s => exact fun s' hs' => p3 (s'.set i none) (hs'.unset i none)
     | rt d => exact fun v hv => p3 v hv
     | bk s => exact fun s' hs' => p3 (s'.set i none) (hs'.unset i none)
     | ct s => exact fun s' hs' => p3 (s'.set i none) (hs'.unset i none)
   ·subst hb
    exact p I' F' H' c d e rel' rx
theorem fZ.ofT {S : aR} {x qual : Str} {params : Arguments} {body : List Stmt} {scope : Scope} {dvs : List V} {kws : List (Str × V)} {f : Addr} {fd : FuncData} {N ps : List Str} {k : Nat} {mb : MS} {m : MF}
  (F : FunD S.K x qual params body scope dvs kws f fd) (Sc : FnScope N ps scope) (hb : aBH (S.body k N scope) body mb) (hm : ∀ ds w, ds.length = ps.length → Fits w (m ds w) (bF mb N ds w)) : fZ S.P S.w S.K S.mg S.base (k + 1) f fd ps m := by
 refine ⟨fun A outer s H args us vs Q E hr hg e0 hbt r hl hsp => ?_⟩
 obtain ⟨oc, od, dV, kV, doc, pm, an, cdv, ct, osl, rfl, lk, hcd, _, _⟩ := F.ex
 have KX : S.K.In s.heap := e0.mod.kin.keeps fun b o e => (e0.bs b o e).1
 have lim : s.heap.NoLimit := e0.mod.nolimit.keeps fun b o e => (e0.bs b o e).1
 have kinds : ∀ y ∈ ps.zip us, scope.names.lookup y.1 = some .local ∨ (scope.names.lookup y.1 = some .cell ∧ ((cellsFrom (s.heap.objs.size + 1) scope.names []).lookup y.1).isSome = true) := by
  rintro ⟨n, v⟩ hy
  have hn : n ∈ ps := (List.of_mem_zip hy).1
  rcases Sc.par n hn with q | q
  ·exact Or.inl q
  ·exact Or.inr ⟨q, PySem.W.cellsFrom_some _ _ _ (.inl q)⟩
 refine codeAny_call_function hr.depth (KX _ _ lk) rfl Sc.co Sc.gen rfl (PySem.W.codeRec_of KX hcd) (hbt _ _ _ _ ?_)
 refine wpAny_newFunctionEnv_cells Sc.kind kinds fun env he s1 y => ?_
 subst he
 refine ⟨lim.keeps y.toInCall.keep, codeAny_func ?_⟩
 obtain ⟨I, F0, G, ds, w, rel, rl, p⟩ := hsp
 have J : Inv (cxOf (L2.CX S.P S.w) S.P S.w S.K S.mg S.base N qual scope f cdv A outer s H E) [] (start N vs) H s1 := inv_start Sc hr.hd e0 hl r y
 have cx : Ctx (S.body k N scope) (cxOf (L2.CX S.P S.w) S.P S.w S.K S.mg S.base N qual scope f cdv A outer s H E) := ⟨rfl, rfl, rfl, rfl, rfl, rfl, rfl, fun _ _ => rfl, rfl, hr.deeper _, hg, Sc.nd⟩
 have xo : vV (cxOf (L2.CX S.P S.w) S.P S.w S.K S.mg S.base N qual scope f cdv A outer s H E) E := ⟨takes_of rfl rfl rfl rfl, passes_of rfl⟩
 have p' : bC S.K I F0 G E (RV S.K Q) (bF mb N ds w) := p.fits rel (hm ds w (by rw [rl.length]; exact hl))
 have go := (hb _ E cx xo ⟨rfl, rfl⟩).run [] s1 (start N vs) H { nx := fun _ H' => Q .non H', rt := Q } J ⟨I, F0, G, begin N ds, w, rel, rl.aDE N, (bC.bind p').mono fun I1 F1 H1 fl w1 _ e1 rel1 p1 => ?_⟩
 ·refine wpAny_mono go (fun fl s' hs => ?_) fun e s' hs => hs
  cases fl with
  | ret u =>
   obtain ⟨v, σ', H', J', rv, q⟩ := hs
   exact ⟨v, H', J'.os, J'.bare, J'.base, J'.hok, rv, q⟩
  | next =>
   obtain ⟨σ', H', J', q⟩ := hs
   exact ⟨V.non, H', J'.os, J'.bare, J'.base, J'.hok, rfl, q⟩
  | brk =>
   obtain ⟨_, _, _, q⟩ := hs
   exact q.elim
  | cont =>
   obtain ⟨_, _, _, q⟩ := hs
   exact q.elim
 ·cases fl with
  | nx z => exact fun s' _ => p1.nM rel1 (by simp [aG])
  | rt d => exact fun v rv => p1.nM rel1 rv
  | bk z => exact p1.elim
  | ct z => exact p1.elim
def AE (Cs : List Addr) (f : Str) (x : XD) : Option D := match x.cls, x.fs with
 | .ref C, some fs => if Cs.contains C = true then fs.lookup f else none
 | _, _ => none
def aEr (K : PySem.W.Frag) (Cs : List Addr) (f : Str) : Prop := ∀ C ∈ Cs, XfC K C ∧ PySem.W.findIn K (.ref C) f = some none
theorem aDm {K : PySem.W.Frag} {I : List Addr} {F H : Hp} {x : XD} {cls : Value} {d : Option Addr} {Cs : List Addr} {f : Str} {y : D} (rx : A0 K I F H x cls d) (e : AE Cs f x = some y) :
  ∃ C dd fs v, C ∈ Cs ∧ cls = .ref C ∧ d = some dd ∧ H dd = some (.xd fs) ∧ fs.lookup f = some v ∧ aG K I F y v := by
 obtain ⟨ec, h⟩ := rx
 unfold AE at e
 split at e
 ·rename_i C gs h1 h2
  rw [h2] at h
  obtain ⟨dd, r, e1, e2, e3⟩ := h
  split at e
  ·rename_i hc
   have := aS.lookup f e3
   rw [e] at this
   obtain ⟨v, e4, e5⟩ := this
   exact ⟨C, dd, r, v, by simpa using hc, by rw [ec, h1], e1, e2, e4, e5⟩
  ·cases e
 ·cases e
theorem aIE {K : PySem.W.Frag} {Hc : Addr} : aDR K Hc [] := fun a b e => nomatch e
theorem aFJ {K : PySem.W.Frag} {Hc a : Addr} {b : Bool} {l : List (Addr × Bool)} (h : PySem.W.exmOne K (.ref a) (.ref Hc) = some b) (t : aDR K Hc l) : aDR K Hc ((a, b) :: l) := fun a' b' e => by
 rw [List.lookup_cons] at e
 by_cases q : a' = a
 ·subst q
  simp at e
  rw [← e]
  exact h
 ·have : (a' == a) = false := by simpa using q
  rw [this] at e
  exact t a' b' e
theorem aIM {K : PySem.W.Frag} {f : Str} : aEr K [] f := fun C h => nomatch h
theorem aGN {K : PySem.W.Frag} {C N fI : Addr} {f : Str} {l : List Addr} (h : ExF K C N fI f) (t : aEr K l f) : aEr K (C :: l) f := fun C' hC => by
 rcases ay.mp hC with rfl | hC
 ·exact ⟨h.xf, h.no⟩
 ·exact t C' hC
def aJ0 (K : PySem.W.Frag) (C : Addr) : Bool := match K.lookup C with
 | some ⟨.type t, _, .cls ⟨_, _, .ref C' :: bm, _, _, hd, _, _, _, _, del⟩, ⟨[_, _, _, _, some (.builtin n), _]⟩⟩ => t == "type" && decide (C' = C) && hd && !del && n == "ValueError.__new__" && PySem.HandSPX.refsVE bm
 | _ => false
theorem aG1 {K : PySem.W.Frag} {C : Addr} (h : aJ0 K C = true) : ∃ nm q N bs bm sn sub ab col dd k0 k1 k2 k3 k5, K.lookup C = some (excClassObj nm q C N bs bm true sn sub ab col dd k0 k1 k2 k3 k5 "ValueError.__new__") ∧ PySem.HandSPX.refsVE bm = true := by
 unfold aJ0 at h
 split at h
 ·rename_i t dd nm bs C' bm N q hd sn sub ab col del k0 k1 k2 k3 n k5 e
  simp only [ak, beq_iff_eq, ai, Bool.not_eq_true'] at h
  obtain ⟨⟨⟨⟨⟨rfl, rfl⟩, rfl⟩, rfl⟩, rfl⟩, h6⟩ := h
  exact ⟨nm, q, N, bs, bm, sn, sub, ab, col, dd, k0, k1, k2, k3, k5, e, h6⟩
 ·cases h
def aIF : Option PySem.W.CFound → String → Bool
 | some (.val (.builtin n)), x => n == x
 | _, _ => false
theorem aGo {r : Option PySem.W.CFound} {x : String} (h : aIF r x = true) : r = some (.val (.builtin x)) := by
 unfold aIF at h
 split at h
 ·rw [beq_iff_eq] at h
  rw [h]
 ·cases h
def aJz (K : PySem.W.Frag) (C N fI : Addr) (f : Str) : Bool :=
 aJ0 K C && He.eqO (PySem.W.findIn K (.ref C) "__setattr__") (some (some (.builtin "object.__setattr__"))) && decide (PySem.W.subIn K (.ref C) (.type "BaseException") = some true) && decide (PySem.W.typeIn K (.ref C) = some (.type "type")) && PySem.W.keepIn K (.ref C) &&
 He.eqO (PySem.W.findIn K (.ref C) "__init__") (some (some (.ref fI))) && decide (PySem.W.typeIn K (.ref fI) = some (.type "function")) && He.eqO (PySem.W.findIn K (.ref C) f) (some none) && xfB K C &&
 PySem.W.readsIn K N (.type "type") && He.eqO (PySem.W.specialIn K (.ref N) "__getattribute__") (some (some (.builtin "type.__getattribute__"))) && aIF (PySem.W.findCls K (.ref N) (.type "type") "__init__") "ValueError.__init__"
theorem aGm {K : PySem.W.Frag} {C N fI : Addr} {f : Str} (h : aJz K C N fI f = true) : ExF K C N fI f := by
 unfold aJz at h
 simp only [ak, ai] at h
 obtain ⟨⟨⟨⟨⟨⟨⟨⟨⟨⟨⟨h1, h2⟩, h3⟩, h4⟩, h5⟩, h6⟩, h7⟩, h8⟩, h9⟩, h10⟩, h11⟩, h12⟩ := h
 exact ⟨⟨aG1 h1, He.eqO_ok h2, h3, h4, h5⟩, He.eqO_ok h6, h7, He.eqO_ok h8, xfB_ok h9, ⟨h10, He.eqO_ok h11⟩, aGo h12⟩
def aLp (K : PySem.W.Frag) (C Hc : Addr) (b : Bool) : Bool := decide (PySem.W.exmOne K (.ref C) (.ref Hc) = some b)
theorem aGj {K : PySem.W.Frag} {C Hc : Addr} {b : Bool} (h : aLp K C Hc b = true) : PySem.W.exmOne K (.ref C) (.ref Hc) = some b := of_decide_eq_true h
theorem aEf {K : PySem.W.Frag} {fd : FuncData} {ps : List Str} (h : ∀ (s : Shared) (us : List Value), us.length = ps.length → BindsTo s fd ⟨us, []⟩ (ps.zip us)) : Binds K fd ps [] := fun s us _ hl => by
 rw [du] at hl ⊢
 exact h s us hl
abbrev Ez : XK := fun _ _ _ => False
theorem bC.calm {α β : Type} {K : PySem.W.Frag} {I : List Addr} {F G : Hp} {E : XK} {R : List Addr → Hp → Hp → β → W → Prop} {r : Res α} {f : α → W → Res β} (p : bC K I F G E R ((Pc.calm r).bind f)) : bC K I F G Ez (fun I1 F1 _ x w1 => bC K I1 F1 G E R (f x w1)) r := by
 cases r with
 | ok a w => exact fun I' F' H' e rel => bC.ext p e
 | zC x w => exact False.elim p
 | bad => exact False.elim p
theorem Rel.hold {K : PySem.W.Frag} {I : List Addr} {F G H : Hp} {w : W} {x : XD} {c : Value} {d : Option Addr} (rel : Rel K I F G w H) (rx : A0 K I F H x c d) :
  ∃ G', Rel K I F G' w H ∧ (∀ I2 F2 w2 H2, Ext I F I2 F2 → Rel K I2 F2 G' w2 H2 → Rel K I2 F2 G w2 H2 ∧ A0 K I2 F2 H2 x c d) := by
 obtain ⟨ec, hx⟩ := rx
 cases hf : x.fs with
 | none =>
  rw [hf] at hx
  exact ⟨G, rel, fun I2 F2 w2 H2 e r2 => ⟨r2, ec, by rw [hf]; exact hx⟩⟩
 | some fs =>
  rw [hf] at hx
  obtain ⟨a, r, e1, e2, e3⟩ := hx
  have fin : ∀ {I2 F2 H2}, Ext I F I2 F2 → H2 a = some (.xd r) → A0 K I2 F2 H2 x c d := fun e h => ⟨ec, by rw [hf]; exact ⟨a, r, e1, h, aS.ext e _ _ e3⟩⟩
  have nI : a ∉ I := fun hm => by
   obtain ⟨i, hi⟩ := List.mem_iff_getElem?.mp hm
   have li : i < w.length := by rw [← rel.len]; exact (ar.mp hi).1
   obtain ⟨u, h1, h2⟩ := rel.ob i a w[i] hi (bo li)
   rw [e2] at h1
   cases h1
   cases hw : w[i] with
   | lst xs => rw [hw] at h2; obtain ⟨_, z, _⟩ := h2; cases z
   | dK xs => rw [hw] at h2; obtain ⟨_, z, _⟩ := h2; cases z
   | dT xs => rw [hw] at h2; obtain ⟨_, z, _⟩ := h2; cases z
   | dF xs => rw [hw] at h2; obtain ⟨_, _, z, _⟩ := h2; cases z
   | dG xs => rw [hw] at h2; obtain ⟨_, _, z, _⟩ := h2; cases z
   | ins C xs => rw [hw] at h2; obtain ⟨_, _, z, _⟩ := h2; cases z
  cases hF : F a with
  | some u =>
   have hu := rel.fz a u hF
   rw [e2] at hu
   cases hu
   exact ⟨G, rel, fun I2 F2 w2 H2 e r2 => ⟨r2, fin e (r2.fz a _ (e.f a _ hF))⟩⟩
  | none =>
   cases hG : G a with
   | some u =>
    have hu := rel.gz a u hG
    rw [e2] at hu
    cases hu
    exact ⟨G, rel, fun I2 F2 w2 H2 e r2 => ⟨r2, fin e (r2.gz a _ hG)⟩⟩
   | none =>
    refine ⟨L2.upd G a (.xd r), ⟨rel.len, rel.nd, rel.ob, rel.fz, rel.ap, fun b v hb => ?_, fun b v hb => ?_, fun b xs hb => ?_⟩, fun I2 F2 w2 H2 e r2 => ⟨r2.less hG, fin e (r2.gz a _ upd_same)⟩⟩
    ·by_cases q : b = a
     ·subst q
      rw [upd_same] at hb
      cases hb
      exact e2
     ·rw [upd_ne q] at hb
      exact rel.gz b v hb
    ·by_cases q : b = a
     ·subst q
      exact ⟨hF, nI⟩
     ·rw [upd_ne q] at hb
      exact rel.gf b v hb
    ·by_cases q : b = a
     ·subst q
      rw [upd_same] at hb
      cases hb
     ·rw [upd_ne q] at hb
      exact rel.gt b xs hb
end Pc
namespace PySem.W
open PySem PySem.Spec PySem.Calls PyProof.Rows
section
variable {prog : Program} {w : World} {A : Around} {E : Value → Shared → Prop} {s : Shared} {K : Frag} {x D : Addr} {ox od : Obj}
structure XcC (K : Frag) (D : Addr) : Prop where
 hg : findIn K (.ref D) "__getattribute__" = some (some (.builtin "BaseException.__getattribute__"))
 hk : findIn K (.ref D) "__getattr__" = some none
 hs : subIn K (.ref D) (.type "BaseException") = some true
 hd : hasDictIn K D = true
 ha : findIn K (.ref D) "__class__" = some (some (.builtin "object.__class__"))
 hn : specialIn K (.builtin "object.__class__") "__get__" = some (some (.builtin "getset_descriptor.__get__"))
 ht : takesIn K (.builtin "object.__class__") = some true
 hm : mroIn K D (.type "object") = some true
def xcB (K : Frag) (D : Addr) : Bool := decide (findIn K (.ref D) "__getattribute__" = some (some (.builtin "BaseException.__getattribute__"))) && (decide (findIn K (.ref D) "__getattr__" = some none) && (decide (subIn K (.ref D) (.type "BaseException") = some true) && (hasDictIn K D && (decide (findIn K (.ref D) "__class__" = some (some (.builtin "object.__class__"))) &&
 (decide (specialIn K (.builtin "object.__class__") "__get__" = some (some (.builtin "getset_descriptor.__get__"))) && (decide (takesIn K (.builtin "object.__class__") = some true) && decide (mroIn K D (.type "object") = some true)))))))
theorem aI7 (h : xcB K D = true) : XcC K D := by
 unfold xcB at h
 simp only [ak, ai] at h
 obtain ⟨h1, h2, h3, h4, h5, h6, h7, h8⟩ := h
 exact ⟨h1, h2, h3, h4, h5, h6, h7, h8⟩
theorem XcC.cls (C : XcC K D) : ∃ cd, clsIn K D = some cd := by
 obtain ⟨cd, h, _⟩ := any_some C.hd
 exact ⟨cd, h⟩
theorem XcC.aJS (C : XcC K D) {Q : Option Value → Shared → Prop} (X : K.In s.heap) (I : InstAt s.heap x ox D (some od)) (h : Q (some (.ref D)) { s with toks := s.toks + 1 }) : wpAny (model prog w) A (getAttr? (.ref x) "__class__") Q E s := by
 obtain ⟨cd, hcd⟩ := C.cls
 have own : findObj K D (some od) "__class__" = some (.bind (.builtin "getset_descriptor.__get__") (.builtin "object.__class__")) := findObj_data (by rw [hcd]; rfl) C.ha C.hn C.ht
 obtain ⟨hp, gs, dr, tk, os⟩ := s
 have T0 := I.type (M := model prog w)
 have T1 := looks_findIn (M := model prog w) X C.hg
 have T2 := looks_findIn (M := model prog w) X C.hk
 have T3 := looks_find (M := model prog w) X I own
 have isB : Looks (model prog w) hp (isInstance (.ref x) (.type "BaseException")) true := T0.andThen (looks_subIn X C.hs)
 have n0 : (false && onTheHeap (Value.builtin "BaseException.__getattribute__")) = false := rfl
 have n1 : (onTheHeap (Value.ref D) && Value.builtin "BaseException.__getattribute__" == Value.builtin "object.__getattribute__") = false := by
  have : (Value.builtin "BaseException.__getattribute__" == Value.builtin "object.__getattribute__") = false := by decide +kernel
  rw [this]
  rfl
 unfold getAttr? getAttrBy? getAttrBy
 apply wpAny_bind
 apply wpAny_mkText
 apply wpAny_bind
 apply wpAny_attempt
 apply wpAny_holding
 apply wpAny_bind
 apply T0.at
 apply wpAny_bind
 apply T1.at
 show wpAny _ _ (if (onTheHeap (Value.ref D) && Value.builtin "BaseException.__getattribute__" == Value.builtin "object.__getattribute__") = true then _ else _) _ _ _
 rw [n1, if_neg Bool.false_ne_true]
 unfold getAttrByItsOwn hookBefore
 apply wpAny_bind
 rw [if_pos (show onTheHeap (Value.ref D) = true from rfl)]
 apply T2.at
 apply wpAny_bind
 apply wpAny_attempt
 apply wpAny_holding
 unfold callGetattribute
 rw [n0, if_neg Bool.false_ne_true]
 unfold boundAndCalled
 rw [PySem.F.excAttr_ValueError.ga.bind (.ref x)]
 apply wpAny_bind
 apply wpAny_pure
 show wpAny _ _ (call (.builtin "BaseException.__getattribute__") [.ref x, .str "__class__" tk]) _ _ _
 apply wpAny_call
 refine codeAny_call_builtin PySem.F.excAttr_ValueError.ga.plain PySem.F.entry_bexc_ga ?_
 refine @check_slot (model prog w) _ _ ⟨hp, gs, dr, tk + 1, os⟩ "BaseException.__getattribute__" "BaseException" "__getattribute__" (.ref x) [.str "__class__" tk] [] _ (by decide +kernel) (by decide +kernel) isB (PySem.F.args_bexc_ga (.ref x) (.str "__class__" tk)) ?_
 unfold Builtin.«object.__getattribute__»
 apply wpAny_bind
 refine wpAny_of_eq (a := ((Value.ref x : Value), [Value.str "__class__" tk])) (by first | rfl | (simp only [slotArgs]; rfl)) ?_
 apply wpAny_bind
 apply wpAny_pure
 apply wpAny_bind
 apply T0.at
 apply wpAny_bind
 apply T3.at
 show wpAny _ _ (holding [Value.builtin "object.__class__"] (call (.builtin "getset_descriptor.__get__") [.builtin "object.__class__", .ref x, .ref D]) >>= ret) _ _ _
 apply wpAny_bind
 apply wpAny_holding
 apply wpAny_call
 refine class_get (s := ⟨hp, gs, dr, tk + 1, os⟩) (ox := ox) (od := some od) X I C.hm ?_
 apply wpAny_pure
 show wpAny _ _ (handedOut (.ref D)) _ _ _
 rw [handedOut_of (v := .ref D) rfl]
 first
  | exact wpAny_pure (wpAny_pure h)
  | exact wpAny_pure h
  | exact wpAny_pure (wpAny_bind (wpAny_pure (wpAny_pure h)))
theorem XcC.kit (C : XcC K D) : KitX K (.ref x) (.ref D) (fun h => InstAt h x ox D (some od)) where
 ty := fun _ _ _ I => I.type
 it := fun _ _ X _ => by
  obtain ⟨cd, hcd⟩ := C.cls
  unfold clsIn at hcd
  split at hcd
  ·rename_i ho
   intro _ _ _ _ k q
   unfold isType loadHead
   exact wpAny_bind (wpAny_loadPart (k _ _ (X _ _ ho)) (wpAny_pure q))
  ·cases hcd
 ne := fun _ tp _ _ _ _ X htp => by
  obtain ⟨cd, hcd⟩ := C.cls
  cases hb : ((Value.ref D : Value) == .ref tp) with
  | false => rfl
  | true =>
   obtain rfl : D = tp := Value.ref.inj (beq_iff_eq.mp hb)
   unfold clsIn at hcd
   split at hcd
   ·rename_i ho
    rw [X _ _ ho] at htp
    cases htp
   ·cases hcd
 ca := fun X I k => C.aJS X I k
end
end PySem.W
namespace L2
open PySem PySem.Spec PyProof.Rows
section
variable {X : Cx}
def aLN (K : PySem.W.Frag) (a : Addr) (cls : Value) (d : Option Addr) : List V → Hp → VK → Prop := fun xs H Q => ∃ (c : V) (cv : Value) (b : Bool) (D dd : Addr) (fs : List (Str × V)), xs = [.ref a, c] ∧ ClsV c cv ∧ cls = .ref D ∧ d = some dd ∧ H dd = some (.xd fs) ∧ PySem.W.XcC K D ∧ PySem.W.kitOne K (.ref D) cv = some b ∧ Q (.bl b) H
def aHq (K : PySem.W.Frag) (a : Addr) (cls : Value) (d : Option Addr) : List V → Hp → VK → Prop := fun xs H Q => ∃ (tp : Addr) (cs : List V) (us : List Value) (b : Bool) (D dd : Addr) (fs : List (Str × V)), xs = [.ref a, .ref tp] ∧ H tp = some (.tup cs) ∧ Paired ClsV cs us ∧ cls = .ref D ∧ d = some dd ∧ H dd = some (.xd fs) ∧ PySem.W.XcC K D ∧ PySem.W.kitAny K (.ref D) us = some b ∧ Q (.bl b) H
theorem aDk {a : Addr} {oe : Obj} {cls : Value} {d : Option Addr} {pn : List (Addr × Obj)} {pins : List (Addr × Obj)} {σ : St} {H : Hp} {s : Shared} {D dd : Addr} {fs : List (Str × V)} (I : Inv (X.suite a ((a, oe) :: pn)) pins σ H s) (hz : Zc cls d oe) (hf : ∃ vs, oe.data = .fields vs) (ec : cls = .ref D) (ed : d = some dd) (ea : H dd = some (.xd fs)) :
  ∃ od, PySem.W.InstAt s.heap a oe D (some od) := by
 subst ec ed
 obtain ⟨ha, _⟩ := I.pin (a, oe) (List.mem_append_left _ aw)
 obtain ⟨vs, hd⟩ := hf
 obtain ⟨mA, hns, _⟩ := (show ObjOk X.prog X.w H s.heap dd (.xd fs) from I.hok dd _ ea)
 obtain ⟨od, ho, _⟩ := lookIn_ns hns
 exact ⟨od, ha, hz.1, by unfold PySem.W.notCls; rw [hd] <;> rfl, by rw [hz.2]; exact ho⟩
theorem aFa {a : Addr} {oe : Obj} {cls : Value} {d : Option Addr} {pn : List (Addr × Obj)} (hz : Zc cls d oe) (hf : ∃ vs, oe.data = .fields vs) : CallR (X.suite a ((a, oe) :: pn)) (.builtin "isinstance") (aLN X.K a cls d) := by
 intro pins s σ H xs us Q I r h
 obtain ⟨c, cv, b, D, dd, fs, rfl, hcv, ec, ed, ea, C, e, q⟩ := h
 obtain ⟨u1, u2, rfl, r1, r2⟩ := vals2 r
 cases (show u1 = Value.ref a from r1)
 obtain rfl := hcv.eq r2
 obtain ⟨od, J⟩ := aDk I hz hf ec ed ea
 exact PySem.W.kia_one C.kit I.kIn J e (fun z => nomatch z) fun tk => ⟨.bl b, H, I.tok tk, rfl, q⟩
theorem aCo {a : Addr} {oe : Obj} {cls : Value} {d : Option Addr} {pn : List (Addr × Obj)} (hz : Zc cls d oe) (hf : ∃ vs, oe.data = .fields vs) : CallR (X.suite a ((a, oe) :: pn)) (.builtin "isinstance") (aHq X.K a cls d) := by
 intro pins s σ H xs us Q I r h
 obtain ⟨tp, cs, ws, b, D, dd, fs, rfl, hT, hk, ec, ed, ea, C, e, q⟩ := h
 obtain ⟨u1, u2, rfl, r1, r2⟩ := vals2 r
 cases (show u1 = Value.ref a from r1)
 cases (show u2 = Value.ref tp from r2)
 obtain ⟨od, J⟩ := aDk I hz hf ec ed ea
 obtain ⟨_, its, rv, o, h1, h2, n, h3⟩ := (show ObjOk X.prog X.w H s.heap tp (.tup cs) from I.hok tp _ hT)
 obtain rfl := ClsV.all hk rv
 obtain ⟨oc, od', dt, sl⟩ := o
 simp only at h2 h3
 subst h2 h3
 exact PySem.W.kia_tup C.kit I.kIn J h1 e (fun z => nomatch z) fun tk => ⟨.bl b, H, I.tok tk, rfl, q⟩
end
end L2
namespace Pc
open PySem PySem.Spec PyProof.Rows L2
structure XH where
 i : Nat
 a : Addr
 cls : Value
 d : Option Addr
 x : XD
def K0 (K : PySem.W.Frag) (h : XH) (I : List Addr) (F G : Hp) : Prop := ∀ I2 F2 w2 H2, Ext I F I2 F2 → Rel K I2 F2 G w2 H2 → A0 K I2 F2 H2 h.x h.cls h.d
theorem K0.ext {K : PySem.W.Frag} {h : XH} {I I1 : List Addr} {F F1 G : Hp} (hd : K0 K h I F G) (e : Ext I F I1 F1) : K0 K h I1 F1 G := fun I2 F2 w2 H2 e2 r => hd I2 F2 w2 H2 (e.trans e2) r
structure aFd (S : aR) (i : Nat) (X : Cx) (h : XH) : Prop where
 K : X.K = S.K
 N : X.N = S.N
 sc : X.env.scope = S.sc
 mg : X.mg = S.mg
 nd : X.N.Nodup
 gds : X.A.guards = some []
 un : X.A.units + 200 < cLine
 at_ : ∃ (Y : Cx) (oe : Obj) (pn : List (Addr × Obj)), X = Y.suite h.a ((h.a, oe) :: pn) ∧ Zc h.cls h.d oe ∧ ∃ vs, oe.data = .fields vs
 i : h.i = i
 P : X.prog = S.P
 w : X.w = S.w
 base : X.base = S.base
 rm : X.A.depth + 3 * S.k + 5 < recursionLimit ∧ X.A.units + 16 * S.k + 200 < cLine
abbrev H0 (h : XH) (σ : L2.St) : Prop := σ[h.i]? = some (some (.ref h.a))
def W2 (K : PySem.W.Frag) (h : XH) (m : ME) : TE := fun σ H Q => H0 h σ ∧ ∃ I F G ds w, Rel K I F G w H ∧ dU K I F ds σ ∧ K0 K h I F G ∧ bC K I F G Ez (RV K Q) (m ds w)
def aHK (K : PySem.W.Frag) (h : XH) (m : MA) : TA := fun σ H Q => H0 h σ ∧ ∃ I F G ds w, Rel K I F G w H ∧ dU K I F ds σ ∧ K0 K h I F G ∧ bC K I F G Ez (RL K Q) (m ds w)
def aLg (K : PySem.W.Frag) (h : XH) (Z : Ends) : List Addr → Hp → Hp → Fl → W → Prop := fun I' F' H' f _ => match f with
 | .nx s => ∀ s', dU K I' F' s s' → H0 h s' → Z.nx s' H'
 | .rt d => ∀ v, aG K I' F' d v → Z.rt v H'
 | .bk s => ∀ s', dU K I' F' s s' → Z.bk s' H'
 | .ct s => ∀ s', dU K I' F' s s' → Z.ct s' H'
def W3 (K : PySem.W.Frag) (h : XH) (m : MS) : TS := fun Z σ H => H0 h σ ∧ ∃ I F G ds w, Rel K I F G w H ∧ dU K I F ds σ ∧ K0 K h I F G ∧ bC K I F G Ez (aLg K h Z) (m ds w)
def Y8 (S : aR) (i : Nat) (e : Expr) (m : XD → ME) : Prop := ∀ X h, aFd S i X h → PE X e (W2 X.K h (m h.x))
def JUA (S : aR) (i : Nat) (es : List Expr) (m : XD → MA) : Prop := ∀ X h, aFd S i X h → PA X es (aHK X.K h (m h.x))
def JUS (S : aR) (i : Nat) (st : Stmt) (m : XD → MS) : Prop := ∀ X h, aFd S i X h → PS X st (W3 X.K h (m h.x))
def aBX (S : aR) (i : Nat) (st : List Stmt) (m : XD → MS) : Prop := ∀ X h, aFd S i X h → PSs X st (W3 X.K h (m h.x))
section
variable {α : Type} {K : PySem.W.Frag} {h : XH} {I : List Addr} {F G H : Hp} {ds : Sg} {w : W} {σ : L2.St} {R : List Addr → Hp → Hp → α → W → Prop}
theorem uJ {m : ME} {f : Sg → D → W → Res α} (sl : H0 h σ) (rel : Rel K I F G w H) (rs : dU K I F ds σ) (hd : K0 K h I F G) (p : bC K I F G Ez R ((m ds w).bind (f ds))) {Q : VK}
  (k : ∀ I1 F1 H1 x w1 v, Ext I F I1 F1 → Rel K I1 F1 G w1 H1 → dU K I1 F1 ds σ → K0 K h I1 F1 G → aG K I1 F1 x v → bC K I1 F1 G Ez R (f ds x w1) → Q v H1) : W2 K h m σ H Q :=
 ⟨sl, I, F, G, ds, w, rel, rs, hd, (bC.bind p).mono fun I1 F1 H1 x w1 _ e1 rel1 p1 v rv => k I1 F1 H1 x w1 v e1 rel1 (rs.ext e1) (hd.ext e1) rv p1⟩
theorem AF {m : MA} {f : Sg → List D → W → Res α} (sl : H0 h σ) (rel : Rel K I F G w H) (rs : dU K I F ds σ) (hd : K0 K h I F G) (p : bC K I F G Ez R ((m ds w).bind (f ds))) {Q : List V → Hp → Prop}
  (k : ∀ I1 F1 H1 xs w1 vs, Ext I F I1 F1 → Rel K I1 F1 G w1 H1 → dU K I1 F1 ds σ → K0 K h I1 F1 G → RepL K I1 F1 xs vs → bC K I1 F1 G Ez R (f ds xs w1) → Q vs H1) : aHK K h m σ H Q :=
 ⟨sl, I, F, G, ds, w, rel, rs, hd, (bC.bind p).mono fun I1 F1 H1 x w1 _ e1 rel1 p1 v rv => k I1 F1 H1 x w1 v e1 rel1 (rs.ext e1) (hd.ext e1) rv p1⟩
end
section
variable {S : aR} {i : Nat} {e a b : Expr} {rest es : List Expr} {m ma mb : XD → ME} {mas : XD → MA} {ta tb : XD → MT} {pos pos' p p2 : Pos}
theorem aAE (j : Nat) {x : Str} (hN : S.N[j]? = some x := by rfl) (hv : Vis S.sc x := by first | exact Or.inl rfl | exact Or.inr (Or.inl rfl) | exact Or.inr (Or.inr rfl)) (hd : (x == ("__debug__" : Str)) = false := by decide) (hcd : (x == ("__classdict__" : Str)) = false := by decide) : Y8 S i (.Name x pos) (fun _ => aB j) := fun X h cx =>
 cC (L2.pe_var (i := j) (by rw [cx.N]; exact hN) (by rw [cx.sc]; exact hv) hd hcd) fun σ H Q ⟨sl, I, F, G, ds, w, rel, rs, hh, p⟩ => by
  change bC X.K I F G Ez (RV X.K Q) (match ds[j]? with | some (some d) => Res.ok d w | _ => .bad) at p
  split at p
  ·rename_i d hi
   obtain ⟨v, hv, hr⟩ := rs.2 j d hi
   exact ⟨v, hv, p I F H .refl rel v hr⟩
  ·exact p.elim
theorem t7 {x : Str} {C : Addr} (hg : S.sc.names.lookup x = some .globalImplicit) (hm : S.mg x = some (.ref C)) (hd : (x == ("__debug__" : Str)) = false := by decide) : Y8 S i (.Name x pos) (fun _ => eC (.con C)) := fun X h cx =>
 cC (pe_glob (x := x) (v := .ref C) (u := .ref C) (by show X.env.scope.names.lookup x = _; rw [cx.sc]; exact hg) (by rw [cx.mg]; exact hm) rfl hd) fun σ H Q ⟨sl, I, F, G, ds, w, rel, rs, hh, p⟩ => p I F H .refl rel _ (by simp [aG])
theorem aAL {x : Str} {n : String} (hg : S.sc.names.lookup x = some .globalImplicit) (hm : S.mg x = none) (hv : bootBuiltins x = some (.type n)) (hn : x ≠ "__name__" := by decide) (hd : (x == ("__debug__" : Str)) = false := by decide) : Y8 S i (.Name x pos) (fun _ => eC (.ty n)) := fun X h cx =>
 cC (pe_bltn (v := .ty n) (by show X.env.scope.names.lookup x = _; rw [cx.sc]; exact hg) (by rw [cx.mg]; exact hm) hv rfl hn hd) fun σ H Q ⟨sl, I, F, G, ds, w, rel, rs, hh, p⟩ => p I F H .refl rel _ (by simp [aG])
theorem HK : JUA S i [] (fun _ => aD) := fun X h cx => HQ pa_nil fun σ H Q ⟨sl, I, F, G, ds, w, rel, rs, hh, p⟩ => p I F H .refl rel [] (by simp [RepL])
theorem hZ (he : Y8 S i e m) (hr : JUA S i es mas) (hs : ∀ env : Env, starEach (e :: es) env = (false, eval e env) :: starEach es env := by intro _; rfl) : JUA S i (e :: es) (fun x => aA (m x) (mas x)) := fun X h cx =>
 HQ (pa_cons (he X h cx) (hr X h cx) (hs X.env)) fun σ H Q ⟨sl, I, F, G, ds, w, rel, rs, hh, p⟩ =>
  uJ (f := fun ds x w1 => (mas h.x ds w1).bind fun xs w2 => .ok (x :: xs) w2) sl rel rs hh p fun I1 F1 H1 x w1 v e1 rel1 rs1 hh1 rv p1 =>
   AF (f := fun _ xs w2 => .ok (x :: xs) w2) sl rel1 rs1 hh1 p1 fun I2 F2 H2 xs w2 vs e2 rel2 rs2 hh2 rvs p2 => p2 I2 F2 H2 .refl rel2 _ (RepL.cons (aG.ext e2 _ _ rv) rvs)
theorem aFV {k : Nat} (h : JUA S i es mas) : Y8 S i (.Tuple es k pos) (fun x => bH (mas x)) := fun X xh cx =>
 cC (pe_tup (h X xh cx)) fun σ H Q ⟨sl, I, F, G, ds, w, rel, rs, hh, p⟩ =>
  AF (f := fun _ xs w1 => if xs.length ≤ sizeLine then Res.ok (D.tup xs) w1 else .bad) sl rel rs hh p fun I1 F1 H1 xs w1 vs e1 rel1 rs1 hh1 rvs p1 => by
   split at p1
   ·rename_i hl
    exact ⟨by rw [← rvs.length]; exact hl, yG rel1 rvs p1⟩
   ·exact p1.elim
theorem QL (h : JUA S i es mas) : Y8 S i (.List es pos) (fun x => dQ (mas x)) := fun X xh cx =>
 cC (pe_lst (h X xh cx)) fun σ H Q ⟨sl, I, F, G, ds, w, rel, rs, hh, p⟩ =>
  AF (f := fun _ xs w1 => if xs.length ≤ sizeLine then Res.ok (D.lst xs) w1 else .bad) sl rel rs hh p fun I1 F1 H1 xs w1 vs e1 rel1 rs1 hh1 rvs p1 => by
   split at p1
   ·rename_i hl
    exact ⟨by rw [← rvs.length]; exact hl, iY rel1 rvs p1⟩
   ·exact p1.elim
abbrev KxT := Addr → lT → Option Bool
structure ZJ (K : PySem.W.Frag) (kx : KxT) : Prop where
 one : ∀ D c r, kx D c = some r → PySem.W.kitOne K (.ref D) c.v = some r
 cls : ∀ D c r, kx D c = some r → PySem.W.XcC K D
def PH : List D → Option (List Addr)
 | [] => some []
 | .con C :: r => (PH r).map (C :: ·)
 | _ :: _ => none
def aBw (kx : KxT) (D : Addr) : List Addr → Option Bool
 | [] => some false
 | C :: r => match kx D (.o C) with
  | some true => some true
  | some false => aBw kx D r
  | none => none
theorem NY {K : PySem.W.Frag} {I : List Addr} {F : Hp} : ∀ {cs : List Pc.D} {vs : List V} {As : List Addr}, RepL K I F cs vs → PH cs = some As → vs = As.map V.ref
 | [], vs, As, h, e => by simp only [PH, aj] at e; subst e; simp only [RepL] at h; exact h
 | c :: cs, vs, As, h, e => by
  cases c <;> simp only [PH, aq, reduceCtorEq] at e
  obtain ⟨r, e1, rfl⟩ := e
  simp only [RepL, aG] at h
  obtain ⟨v, t, rfl, rfl, h2⟩ := h
  rw [NY h2 e1]
  rfl
theorem GC : ∀ As : List Addr, Paired ClsV (As.map V.ref) (As.map Value.ref)
 | [] => .nil
 | C :: As => .cons (.own C) (GC As)
theorem aAw {K : PySem.W.Frag} {kx : KxT} (hk : ZJ K kx) {D : Addr} : ∀ {As : List Addr} {r : Bool}, aBw kx D As = some r → PySem.W.kitAny K (.ref D) (As.map Value.ref) = some r
 | [], r, e => e
 | C :: As, r, e => by
  unfold aBw at e
  show (match PySem.W.kitOne K (.ref D) (.ref C) with
   | some true => some true
   | some false => PySem.W.kitAny K (.ref D) (As.map Value.ref)
   | none => none) = _
  cases hc : kx D (.o C) with
  | none => rw [hc] at e; cases e
  | some b =>
   rw [hc] at e
   rw [show PySem.W.kitOne K (.ref D) (.ref C) = some b from hk.one _ _ _ hc]
   cases b with
   | true => exact e
   | false => exact aAw hk e
def LI (kx : KxT) (c : D) (x : XD) : Option Bool := match x.cls, x.fs with
 | .ref E, some _ => (match c with
  | .con C => kx E (.o C)
  | .ty n => kx E (.b n)
  | .tup cs => if cs = [] then none else (PH cs).bind (aBw kx E)
  | _ => none)
 | _, _ => none
theorem aDf {K : PySem.W.Frag} {kx : KxT} (hk : ZJ K kx) {D : Addr} {As : List Addr} {r : Bool} (hn : As ≠ []) (e : aBw kx D As = some r) : PySem.W.XcC K D := by
 cases As with
 | nil => exact absurd rfl hn
 | cons C As =>
  unfold aBw at e
  cases hc : kx D (.o C) with
  | none => rw [hc] at e; cases e
  | some b => exact hk.cls _ _ _ hc
def GZ (kx : KxT) (mc : ME) (x : XD) : ME := fun σ w => (mc σ w).bind fun c w1 => match LI kx c x with
 | some b => .ok (.bl b) w1
 | none => .bad
theorem uX {kx : KxT} {n : Str} {mc : XD → ME} (hk : ZJ S.K kx) (hg : S.sc.names.lookup ("isinstance" : Str) = some .globalImplicit) (hm : S.mg ("isinstance" : Str) = none) (hn : S.N[i]? = some n) (hv : Vis S.sc n) (hc : Y8 S i b mc) (hd : (n == ("__debug__" : Str)) = false := by decide) (hcd : (n == ("__classdict__" : Str)) = false := by decide)
  (h1 : ∀ env : Env, starEach [.Name n p2, b] env = (false, eval (.Name n p2) env) :: starEach [b] env := by intro _; rfl) (h2 : ∀ env : Env, starEach [b] env = (false, eval b env) :: starEach [] env := by intro _; rfl) (hpl : ∀ env : Env, (backTo pos (starEach [b] env)).any (·.1) = false := by intro _; rfl) :
  Y8 S i (.Call (.Name ("isinstance" : Str) p) [.Name n p2, b] [] pos) (fun x => GZ kx (mc x) x) := fun X h cx => by
 obtain ⟨Y, oe, pn, eX, hz, hf⟩ := cx.at_
 have cN : Y.K = S.K := by have := cx.K; rw [eX] at this; exact this
 have pv : PE X (.Name n p2) (tVar h.i) := L2.pe_var (i := h.i) (by rw [cx.N, cx.i]; exact hn) (by rw [cx.sc]; exact hv) hd hcd
 have pb := hc X h cx
 have gl : Gl X ("isinstance" : Str) := by show X.env.scope.names.lookup _ = _; rw [cx.sc]; exact hg
 have mg : X.mg ("isinstance" : Str) = none := by rw [cx.mg]; exact hm
 -- a tuple of classes or one class
 refine ⟨fun pins s σ H Q J ⟨sl, I, F, G, ds, w, rel, rs, hh, pp⟩ => ?_⟩
 have cr : CallR X (.builtin "isinstance") (fun xs H Q => aLN Y.K h.a h.cls h.d xs H Q ∨ aHq Y.K h.a h.cls h.d xs H Q) := by
  rw [eX]
  intro pins s σ H xs us Q I r q
  rcases q with q | q
  ·exact aFa hz hf pins s σ H xs us Q I r q
  ·exact aCo hz hf pins s σ H xs us Q I r q
 refine (pe_callB cr gl mg rfl (pa_cons (hs := h1 X.env) pv (pa_cons (hs := h2 X.env) pb pa_nil)) (he := h1 X.env) (hpl := hpl X.env)).run pins s σ H Q J ?_
 refine ⟨.ref h.a, sl, ?_⟩
 refine uJ (f := fun ds c w1 => match LI kx c h.x with
  | some b => Res.ok (D.bl b) w1
  | none => .bad) sl rel rs hh pp fun I1 F1 H1 c w1 v e1 rel1 rs1 hh1 rv p1 => ?_
 cases hi : LI kx c h.x with
 | none => rw [hi] at p1; exact p1.elim
 | some r =>
  rw [hi] at p1
  have q : Q (.bl r) H1 := p1 I1 F1 H1 .refl rel1 (.bl r) (by simp [aG])
  obtain ⟨ec, hx⟩ := hh1 I1 F1 w1 H1 .refl rel1
  unfold LI at hi
  split at hi
  ·rename_i E fs hE hfs
   rw [hfs] at hx
   obtain ⟨dd, rr, ed, ea, _⟩ := hx
   rw [hE] at ec
   split at hi
   ·rename_i C
    simp only [aG] at rv
    subst rv
    exact .inl ⟨.ref C, .ref C, r, E, dd, rr, rfl, .own C, ec, ed, ea, by rw [cN]; exact hk.cls _ _ _ hi, by rw [cN]; exact hk.one _ _ _ hi, q⟩
   ·rename_i n
    simp only [aG] at rv
    subst rv
    exact .inl ⟨.ty n, .type n, r, E, dd, rr, rfl, .ty n, ec, ed, ea, by rw [cN]; exact hk.cls _ _ _ hi, by rw [cN]; exact hk.one _ _ _ hi, q⟩
   ·rename_i cs
    split at hi
    ·cases hi
    ·rename_i hne
     obtain ⟨As, h3, h4⟩ := dv.mp hi
     simp only [aG] at rv
     obtain ⟨tp, us, rfl, h5, h6⟩ := rv
     obtain rfl := NY h6 h3
     have hA : As ≠ [] := fun z => by
      subst z
      cases cs with
      | nil => exact hne rfl
      | cons c cs => cases c <;> simp [PH] at h3
     exact .inr ⟨tp, As.map V.ref, As.map Value.ref, r, E, dd, rr, rfl, rel1.fz _ _ h5, GC As, ec, ed, ea, by rw [cN]; exact aDf hk hA h4, by rw [cN]; exact aAw hk h4, q⟩
   ·cases hi
  ·cases hi
def eFX (Cs : List Addr) (f : Str) (x : XD) : ME := fun _ w => match AE Cs f x with
 | some y => .ok y w
 | none => .bad
theorem aFH {n f : Str} {Cs : List Addr} (hn : S.N[i]? = some n) (hv : Vis S.sc n) (xf : aEr S.K Cs f) (hd : (n == ("__debug__" : Str)) = false := by decide) (hcd : (n == ("__classdict__" : Str)) = false := by decide)
  (hb : ∀ env : Env, attributeBase (.Name n p) f env (eval (.Name n p) env) = eval (.Name n p) env := by intro _; rfl) : Y8 S i (.Attribute (.Name n p) f pos) (fun x => eFX Cs f x) := fun X h cx => by
 obtain ⟨Y, oe, pn, eX, hz, hf⟩ := cx.at_
 have cN : Y.K = S.K := by have := cx.K; rw [eX] at this; exact this
 have pv : PE X (.Name n p) (tVar h.i) := L2.pe_var (i := h.i) (by rw [cx.N, cx.i]; exact hn) (by rw [cx.sc]; exact hv) hd hcd
 refine ⟨fun pins s σ H Q J ⟨sl, I, F, G, ds, w, rel, rs, hh, pp⟩ => ?_⟩
 change bC X.K I F G Ez (RV X.K Q) (match AE Cs f h.x with | some y => Res.ok y w | none => .bad) at pp
 cases e : AE Cs f h.x with
 | none => rw [e] at pp; exact pp.elim
 | some y =>
  rw [e] at pp
  obtain ⟨C, dd, fs, u, hC, ec, ed, hH, hl, rv⟩ := aDm (hh I F w H .refl rel) e
  have xf' := xf C hC
  rw [← cN] at xf'
  have ev : Y.env = X.env := by rw [eX]
  rw [eX] at pv J ⊢
  exact (pe_xf xf'.1 xf'.2 hz hf pv (hb Y.env)).run pins s σ H Q J ⟨.ref h.a, sl, rfl, ec, dd, fs, u, ed, hH, hl, pp I F H .refl rel u rv⟩
def O2U (o : Value → Value → Sem Value) (f : D → D → W → Res D) : Prop := ∀ X : Cx, OpR X o (YE X.K Ez f)
theorem aCJ {K : PySem.W.Frag} {f : D → D → W → Res D} {h : XH} {σ : L2.St} {H : Hp} {Q : VK} {m1 m2 : ME} (q : W2 K h (aE f m1 m2) σ H Q) : tOp (YE K Ez f) (W2 K h m1) (W2 K h m2) σ H Q := by
 obtain ⟨sl, I, F, G, ds, w, rel, rs, hh, p⟩ := q
 refine ⟨sl, I, F, G, ds, w, rel, rs, hh, (bC.bind p).mono fun I1 F1 H1 x w1 _ e1 rel1 p1 v rv => ?_⟩
 refine ⟨sl, I1, F1, G, ds, w1, rel1, rs.ext e1, hh.ext e1, (bC.bind p1).mono fun I2 F2 H2 y w2 _ e2 rel2 p2 u ru => ?_⟩
 exact ⟨I2, F2, G, x, y, w2, rel2, aG.ext e2 _ _ rv, ru, p2⟩
theorem aB9 {K : PySem.W.Frag} {h : XH} {ma mb : MS} {Z : Ends} {σ : L2.St} {H : Hp} (q : W3 K h (aJ ma mb) Z σ H) : W3 K h ma { Z with nx := W3 K h mb Z } σ H := by
 obtain ⟨sl, I, F, G, ds, w, rel, rs, hh, p⟩ := q
 refine ⟨sl, I, F, G, ds, w, rel, rs, hh, ?_⟩
 have p := bC.bind p
 cases hr : ma ds w with
 | bad => rw [hr] at p; exact p.elim
 | zC x w1 => rw [hr] at p; exact p
 | ok f w1 =>
  rw [hr] at p
  intro I1 F1 H1 e1 rel1
  have p1 := p I1 F1 H1 e1 rel1
  cases f with
  | nx s => exact fun s' rs' sl' => ⟨sl', I1, F1, G, s, w1, rel1, rs', hh.ext e1, p1⟩
  | rt d => exact fun v rv => p1 I1 F1 H1 .refl rel1 v rv
  | bk s => exact fun s' rs' => p1 I1 F1 H1 .refl rel1 s' rs'
  | ct s => exact fun s' rs' => p1 I1 F1 H1 .refl rel1 s' rs'
theorem OD {st : Stmt} {sts : List Stmt} {sa sb : XD → MS} (h1 : JUS S i st sa) (h2 : aBX S i sts sb) : aBX S i (st :: sts) (fun x => aJ (sa x) (sb x)) := fun X h cx =>
 BR (pss_cons (h1 X h cx) (h2 X h cx)) fun Z σ H q => aB9 q
theorem VL {st : Stmt} {sa : XD → MS} (h1 : JUS S i st sa) : aBX S i [st] sa := fun X h cx => pss_one (h1 X h cx)
theorem aGG (he : Y8 S i e m) : JUS S i (.Return (some e) pos) (fun x => aU (m x)) := fun X h cx =>
 mK (L2.ps_ret (he X h cx)) fun Z σ H ⟨sl, I, F, G, ds, w, rel, rs, hh, p⟩ => uJ (f := fun _ d w1 => Res.ok (Fl.rt d) w1) sl rel rs hh p fun I1 F1 H1 x w1 v e1 rel1 rs1 hh1 rv p1 => p1 I1 F1 H1 .refl rel1 v rv
theorem SF {j : Nat} {x : Str} (he : Y8 S i e m) (hj : S.N[j]? = some x := by rfl) (hx : S.sc.names.lookup x = some .local := by rfl) (hij : i ≠ j := by decide) (hs : ∀ env : Env, swapsWith e (some (.Name x pos')) pos.line env = pure false := by intro _; rfl) : JUS S i (.Assign [.Name x pos'] e pos) (fun y => aO (m y) (aQ j)) := fun X h cx =>
 mK (L2.ps_set (i := j) cx.nd (by rw [cx.N]; exact hj) (.inl (by rw [cx.sc]; exact hx)) (he X h cx) (hs X.env) (.inr (by rw [cx.sc]; exact hx))) fun Z σ H ⟨sl, I, F, G, ds, w, rel, rs, hh, p⟩ =>
  uJ (f := fun ds d w1 => (aQ j d ds w1).bind fun σ2 w2 => Res.ok (Fl.nx σ2) w2) sl rel rs hh p fun I1 F1 H1 y w1 v e1 rel1 rs1 hh1 rv p1 => p1 I1 F1 H1 .refl rel1 _ (rs1.set j rv) (by
   show (σ.set j (some v))[h.i]? = _
   rw [bu (by rw [cx.i]; exact Ne.symm hij)]
   exact sl)
theorem aJt {suite : List Stmt} {ms : XD → MS} (hs : aBX S i suite ms) : JSu S i suite ms := fun X a oe cls d pn cx hz hf => by
 refine ⟨fun pins s σ H Z J ⟨hσ, I, F, G, ds, w, x, rel, rs, rx, p⟩ => ?_⟩
 obtain ⟨G', rel', back⟩ := rel.hold rx
 refine (hs (X.suite a ((a, oe) :: pn)) ⟨i, a, cls, d, x⟩ ⟨cx.K, cx.N, cx.sc, cx.mg, cx.nd, cx.gds, (by have := cx.room.un; show X.A.units + 200 < _; omega), ⟨X, oe, pn, rfl, hz, hf⟩, rfl, cx.P, cx.w, cx.base, ⟨cx.room.dp, cx.room.un⟩⟩).run pins s σ H Z J ⟨hσ, I, F, G', ds, w, rel', rs, fun I2 F2 w2 H2 e r => (back I2 F2 w2 H2 e r).2, ?_⟩
 ·show bC X.K I F G' Ez (aLg X.K ⟨i, a, cls, d, x⟩ Z) (ms x ds w)
  cases hr : ms x ds w with
  | bad => rw [hr] at p; exact p.elim
  | zC y w1 => rw [hr] at p; exact p.elim
  | ok f w1 =>
   rw [hr] at p
   intro I1 F1 H1 e1 rel1
   have p1 := p I1 F1 H1 e1 (back I1 F1 w1 H1 e1 rel1).1
   cases f with
   | nx s => exact fun s' rs' _ => p1 s' rs'
   | rt d => exact p1
   | bk s => exact p1
   | ct s => exact p1
end
def kxT (l : List (Addr × List (lT × Bool))) : KxT := fun D c => (l.lookup D).bind fun r => r.lookup c
def aGE (K : PySem.W.Frag) (D : Addr) (r : List (lT × Bool)) : Prop := ∀ c b, r.lookup c = some b → PySem.W.kitOne K (.ref D) c.v = some b
theorem aH6 {K : PySem.W.Frag} {D : Addr} : aGE K D [] := fun c b e => nomatch e
theorem oP {K : PySem.W.Frag} {D : Addr} {c : lT} {b : Bool} {r : List (lT × Bool)} (h : PySem.W.kitOne K (.ref D) c.v = some b) (t : aGE K D r) : aGE K D ((c, b) :: r) := fun c' b' e => by
 rw [List.lookup_cons] at e
 by_cases q : c' = c
 ·subst q
  simp at e
  rw [← e]
  exact h
 ·have : (c' == c) = false := by simpa using q
  rw [this] at e
  exact t c' b' e
theorem aIp {K : PySem.W.Frag} : ZJ K (kxT []) := ⟨(fun _ _ _ e => nomatch e), (fun _ _ _ e => nomatch e)⟩
theorem aHL {E D : Addr} {c : lT} {row : List (lT × Bool)} {l : List (Addr × List (lT × Bool))} : kxT ((D, row) :: l) E c = if E = D then row.lookup c else kxT l E c := by
 unfold kxT
 rw [List.lookup_cons]
 by_cases q : E = D
 ·subst q; simp
 ·have : (E == D) = false := by simpa using q
  rw [this, if_neg q]
theorem aGC {K : PySem.W.Frag} {D : Addr} {row : List (lT × Bool)} {l : List (Addr × List (lT × Bool))} (hc : PySem.W.XcC K D) (h : aGE K D row) (t : ZJ K (kxT l)) : ZJ K (kxT ((D, row) :: l)) := by
 constructor
 ·intro E c r e
  rw [aHL] at e
  by_cases q : E = D
  ·subst q; rw [if_pos rfl] at e; exact h c r e
  ·rw [if_neg q] at e; exact t.one E c r e
 ·intro E c r e
  rw [aHL] at e
  by_cases q : E = D
  ·subst q; exact hc
  ·rw [if_neg q] at e; exact t.cls E c r e
def Q0 (K : PySem.W.Frag) : Prop := ∃ o, K.lookup sysModules = some o ∧ o.cls = .type "dict"
def aIR (K : PySem.W.Frag) : Bool := match K.lookup sysModules with
 | some o => (match o.cls with
  | .type n => n == "dict"
  | _ => false)
 | none => false
theorem aGb {K : PySem.W.Frag} (h : aIR K = true) : Q0 K := by
 unfold aIR at h
 split at h
 ·rename_i o e
  split at h
  ·rename_i n e2
   exact ⟨o, e, by rw [e2]; exact congrArg Value.type (eq_of_beq h)⟩
  ·cases h
 ·cases h
mutual
inductive Dq (K : PySem.W.Frag) (H : Hp) : V → PyData → Prop
 | non : Dq K H .non .none
 | bl (b : Bool) : Dq K H (.bl b) (.bool b)
 | int (i : Int) : Dq K H (.int i) (.int i)
 | str (x : Str) : Dq K H (.str x) (.str x)
 | lst {a : Addr} {xs : List V} {ds : List PyData} : SqL K H a xs → DqAll K H xs ds → Dq K H (.ref a) (.list ds)
 | tup {a : Addr} {xs : List V} {ds : List PyData} : SqT K H a xs → DqAll K H xs ds → Dq K H (.ref a) (.tuple ds)
 | emp {a : Addr} : (H a = some (.dK []) ∨ H a = some (.dT [])) → Dq K H (.ref a) (.dict [])
inductive DqAll (K : PySem.W.Frag) (H : Hp) : List V → List PyData → Prop
 | nil : DqAll K H [] []
 | cons {v : V} {vs : List V} {d : PyData} {ds : List PyData} : Dq K H v d → DqAll K H vs ds → DqAll K H (v :: vs) (d :: ds)
end
theorem aGR {P : Program} {w : World} {H : Hp} {h : Heap} {a : Addr} {o : HO} (x : ObjOk P w H h a o) (e : o = .dK [] ∨ o = .dT []) : (a == sysModules) = false ∧ ∃ ob es n, h.get? a = some ob ∧ ob.cls = .type "dict" ∧ ob.data = .dict es n ∧ es.toList = [] := by
 rcases e with rfl | rfl
 ·obtain ⟨_, ns, vs, kv, o, es, n, e1, e2, e3, e4, e5⟩ := x
  cases kv
  have e6 := e5.1
  refine ⟨ns, o, es, n, e1, e2.1, e3, ?_⟩
  generalize es.toList = l at e6
  cases l with
  | nil => rfl
  | cons x l => cases e6
 ·obtain ⟨_, ns, xs, pr, o, es, n, e1, e2, e3, e4, e5⟩ := x
  cases pr
  exact ⟨ns, o, es, n, e1, e2.1, e3, by rw [e4]; rfl⟩
section
variable {X : Cx} {pins : List (Addr × Obj)} {σ : L2.St} {H : Hp} {s : Shared}
mutual
theorem Dq.reads (hS : Q0 X.K) (I : Inv X pins σ H s) : ∀ (d : PyData) (v : V) (u : Value), Dq X.K H v d → RelV v u → ∃ as, Reads s.heap u d as ∧ sysModules ∉ as
 | .none, _, _, h, r => by
  cases h
  cases r
  exact ⟨_, Reads.none, by simp⟩
 | .bool b, _, _, h, r => by
  cases h
  cases r
  exact ⟨_, Reads.bool b, by simp⟩
 | .int i, _, _, h, r => by
  cases h
  obtain ⟨t, rfl⟩ := r
  exact ⟨_, Reads.int i t, by simp⟩
 | .str x, _, _, h, r => by
  cases h
  obtain ⟨t, rfl⟩ := r
  exact ⟨_, Reads.str x t, by simp⟩
 | .list ds, _, _, h, r => by
  cases h with
  | lst hs ha =>
   cases r
   obtain ⟨its, rv, ⟨o, n, ho, hc, _, hd⟩, _⟩ := I.list hs
   obtain ⟨as, hr, ns⟩ := Dq.readsAll hS I ds _ its ha rv
   refine ⟨_, Reads.list ho hc hd hr, fun hm => ?_⟩
   rcases ay.mp hm with e | e
   ·obtain ⟨o2, h1, h2⟩ := hS
    have := I.kIn _ _ h1
    rw [e, ho] at this
    cases this
    rw [h2] at hc
    exact absurd (Value.type.inj hc) (by decide)
   ·exact ns e
 | .tuple ds, _, _, h, r => by
  cases h with
  | tup hs ha =>
   cases r
   obtain ⟨its, rv, ⟨o, ho, hc, n, hd⟩, _⟩ := I.tuple hs
   obtain ⟨as, hr, ns⟩ := Dq.readsAll hS I ds _ its ha rv
   exact ⟨_, Reads.tuple ho hc hd hr, ns⟩
 | .dict kvs, _, _, h, r => by
  cases h with
  | emp he =>
   cases r
   rename_i a
   have hx : ∃ o, H a = some o ∧ (o = .dK [] ∨ o = .dT []) := by
    rcases he with he | he
    ·exact ⟨_, he, .inl rfl⟩
    ·exact ⟨_, he, .inr rfl⟩
   obtain ⟨o, h1, h2⟩ := hx
   obtain ⟨ne, ob, es, n, e1, e2, e3, e4⟩ := aGR (I.hok a o h1) h2
   have r0 : ReadsAll s.heap (es.toList.map (·.key)) (([] : List (PyData × PyData)).map (·.1)) [] := by rw [e4]; exact .nil
   have r1 : ReadsAll s.heap (es.toList.map (·.val)) (([] : List (PyData × PyData)).map (·.2)) [] := by rw [e4]; exact .nil
   refine ⟨_, Reads.dict e1 e2 e3 r0 r1, fun hm => ?_⟩
   have : sysModules = a := by simpa using hm
   rw [← this] at ne
   simp at ne
theorem Dq.readsAll (hS : Q0 X.K) (I : Inv X pins σ H s) : ∀ (ds : List PyData) (vs : List V) (us : List Value), DqAll X.K H vs ds → Vals vs us → ∃ as, ReadsAll s.heap us ds as ∧ sysModules ∉ as
 | [], _, _, h, r => by
  cases h
  cases r
  exact ⟨_, ReadsAll.nil, by simp⟩
 | d :: ds, _, _, h, r => by
  cases h with
  | cons h1 h2 =>
   cases r with
   | cons r1 r2 =>
    obtain ⟨as, q1, n1⟩ := Dq.reads hS I d _ _ h1 r1
    obtain ⟨bs, q2, n2⟩ := Dq.readsAll hS I ds _ _ h2 r2
    exact ⟨_, ReadsAll.cons q1 q2, fun hm => by
     rcases bh.mp hm with e | e
     ·exact n1 e
     ·exact n2 e⟩
end
end
section
variable {K : PySem.W.Frag} {I : List Addr} {F G H : Hp} {w : W}
mutual
theorem aIB (rel : Rel K I F G w H) {f : Nat → Option PyData} (hf : ∀ i a p, I[i]? = some a → f i = some p → Dq K H (.ref a) p) : ∀ (d : D) (v : V) (p : PyData), aG K I F d v → d.e8 f = some p → Dq K H v p
 | .non, v, p, h, e => by simp only [aG] at h; simp only [D.e8, aj] at e; subst h; subst e; exact .non
 | .bl b, v, p, h, e => by simp only [aG] at h; simp only [D.e8, aj] at e; subst h; subst e; exact .bl b
 | .int i, v, p, h, e => by simp only [aG] at h; simp only [D.e8, aj] at e; subst h; subst e; exact .int i
 | .str x, v, p, h, e => by simp only [aG] at h; simp only [D.e8, aj] at e; subst h; subst e; exact .str x
 | .ty _, v, p, h, e => by simp [D.e8] at e
 | .con _, v, p, h, e => by simp [D.e8] at e
 | .EZ _ _, v, p, h, e => by simp [D.e8] at e
 | .tup xs, v, p, h, e => by
  simp only [aG] at h
  obtain ⟨a, vs, rfl, h2, h3⟩ := h
  simp only [D.e8, aq] at e
  obtain ⟨ps, e1, rfl⟩ := e
  exact .tup (.of (rel.fz _ _ h2)) (dq_pysR rel hf xs vs ps h3 e1)
 | .vU xs, v, p, h, e => by
  simp only [aG] at h
  obtain ⟨a, vs, rfl, h2, h3⟩ := h
  simp only [D.e8, aq] at e
  obtain ⟨ps, e1, rfl⟩ := e
  exact .tup (rel.VB h2) (dq_pysR rel hf xs vs ps h3 e1)
 | .lst xs, v, p, h, e => by
  simp only [aG] at h
  obtain ⟨a, vs, rfl, h2, h3⟩ := h
  simp only [D.e8, aq] at e
  obtain ⟨ps, e1, rfl⟩ := e
  exact .lst (.of (rel.fz _ _ h2)) (dq_pysR rel hf xs vs ps h3 e1)
 | .qK xs, v, p, h, e => by
  simp only [aG] at h
  obtain ⟨a, vs, rfl, h2, h3⟩ := h
  simp only [D.e8, aq] at e
  obtain ⟨ps, e1, rfl⟩ := e
  exact .lst (rel.sqL h2) (dq_pysR rel hf xs vs ps h3 e1)
 | .ref i, v, p, h, e => by
  simp only [aG] at h
  obtain ⟨a, rfl, h2⟩ := h
  simp only [D.e8] at e
  exact hf i a p h2 e
theorem dq_pysR (rel : Rel K I F G w H) {f : Nat → Option PyData} (hf : ∀ i a p, I[i]? = some a → f i = some p → Dq K H (.ref a) p) : ∀ (ds : List D) (vs : List V) (ps : List PyData), RepL K I F ds vs → D.pysR f ds = some ps → DqAll K H vs ps
 | [], vs, ps, h, e => by simp only [RepL] at h; simp only [D.pysR, aj] at e; subst h; subst e; exact .nil
 | d :: ds, vs, ps, h, e => by
  simp only [RepL] at h
  obtain ⟨v, r, rfl, h2, h3⟩ := h
  simp only [D.pysR] at e
  split at e
  ·rename_i p ps' e1 e2
   cases e
   exact .cons (aIB rel hf d v p h2 e1) (dq_pysR rel hf ds r ps' h3 e2)
  ·cases e
end
end
def zT : MF := fun ds w => match ds with
 | [.int i] => if i.natAbs.log2 < 1920 then .ok (.str (toString i)) w else .bad
 | [.str a] => .ok (.str a) w
 | _ => .bad
theorem SW {S : aR} : CB S (.type "str") zT := CZ fun X E c xo I F G ds w H vs Q rel rl p => by
 unfold zT at p
 split at p
 ·rename_i i
  obtain ⟨v, rfl, rv⟩ := rl.one
  simp only [aG] at rv
  subst rv
  split at p
  ·rename_i hi
   exact ⟨_, call_str_int, i, rfl, hi, p.nM rel (by simp [aG])⟩
  ·exact p.elim
 ·rename_i a
  obtain ⟨v, rfl, rv⟩ := rl.one
  simp only [aG] at rv
  subst rv
  exact ⟨_, SkE.call_str_str, a, rfl, p.nM rel (by simp [aG])⟩
 ·exact p.elim
def YF : ME := fun _ w => .ok (.EZ [] []) w
section
variable {S : aR} {pos : Pos} {ks : List (Option Expr)} {vs : List Expr} {m : MP}
theorem aCV : JE S (.Dict [] [] pos) YF := fun X E cx xo => cC pe_dnewK fun σ H Q ⟨I, F, G, ds, w, rel, rs, p⟩ q hq => by
 have hG : G q = none := by
  cases z : G q with
  | none => rfl
  | some u => rw [rel.gz _ _ z] at hq; cases hq
 obtain ⟨e, rel2⟩ := (rel.keep (u := .dK []) hq).aHP hG
 refine p _ _ _ e rel2 _ ?_
 simp only [aG]
 exact ⟨q, [], rfl, .inl upd_same, by simp [RepL], by simp [RepL]⟩
end
def x8 : List D → Option (List PyData)
 | [] => some []
 | .int i :: ds => (x8 ds).map fun ps => .int i :: ps
 | .str x :: ds => (x8 ds).map fun ps => .str x :: ps
 | _ :: _ => none
mutual
def D.G3 (f : Nat → Option PyData) : D → Option PyData
 | .non => some .none
 | .bl b => some (.bool b)
 | .int i => some (.int i)
 | .str x => some (.str x)
 | .ty _ => none
 | .con _ => none
 | .tup xs => (D.pysV f xs).map .tuple
 | .vU xs => (D.pysV f xs).map .tuple
 | .lst xs => (D.pysV f xs).map .list
 | .qK xs => (D.pysV f xs).map .list
 | .EZ ks vs => (match x8 ks, D.pysV f vs with
  | some kp, some vp => if kp.length = vp.length then some (.dict (kp.zip vp)) else none
  | _, _ => none)
 | .ref i => f i
def D.pysV (f : Nat → Option PyData) : List D → Option (List PyData)
 | [] => some []
 | d :: ds => match D.G3 f d, D.pysV f ds with
  | some p, some ps => some (p :: ps)
  | _, _ => none
end
theorem ZG {d : D} {ds : List D} {kp : List PyData} (h : x8 (d :: ds) = some kp) : ∃ p ps, kp = p :: ps ∧ x8 ds = some ps ∧ ((∃ i, d = .int i ∧ p = .int i) ∨ ∃ x, d = .str x ∧ p = .str x) := by
 cases d <;> simp only [x8, aq, reduceCtorEq] at h
 ·obtain ⟨ps, h1, rfl⟩ := h
  exact ⟨_, ps, rfl, h1, .inl ⟨_, rfl, rfl⟩⟩
 ·obtain ⟨ps, h1, rfl⟩ := h
  exact ⟨_, ps, rfl, h1, .inr ⟨_, rfl, rfl⟩⟩
theorem FV {h : Heap} {P : Program} {w : World} {K : PySem.W.Frag} {I : List Addr} {F : Hp} : ∀ {ks : List D} {kp : List PyData} {kvs : List (Key × V)} {kvs2 : List (Key × Value)} {es : List DictEntry}, x8 ks = some kp → RepL K I F ks (kvs.map fun p => kV p.1) → KV kvs kvs2 → Pairs (mixKind P w) es kvs2 → ReadsAll h (es.map (·.key)) kp []
 | [], kp, kvs, kvs2, es, e, r, kv, ps => by
  simp only [x8, aj] at e
  subst e
  simp only [RepL, List.map_eq_nil_iff] at r
  subst r
  cases kv
  cases ps
  exact .nil
 | d :: ds, kp, kvs, kvs2, es, e, r, kv, ps => by
  obtain ⟨p, pp, rfl, e2, e3⟩ := ZG e
  cases kvs with
  | nil => simp only [dz, RepL] at r; obtain ⟨_, _, z, _⟩ := r; cases z
  | cons kv1 kvs =>
   simp only [bt, RepL] at r
   obtain ⟨v, t, z, r1, r2⟩ := r
   cases z
   cases kv with
   | cons k1 k2 =>
    cases ps with
    | @cons en kv0 es0 kvs0 p1 p2 p3 =>
     have ih := FV (h := h) e2 r2 k2 p3
     have hp : Reads h en.key p [] := by
      obtain ⟨q1, q2⟩ := k1
      obtain ⟨k, v0⟩ := kv1
      simp only at q1
      subst q1
      rcases keyIs_shape p1 with ⟨i, t, e5, e6⟩ | ⟨x, t, e5, e6⟩
      ·rw [e6]
       simp only [e5] at r1
       rcases e3 with ⟨j, rfl, rfl⟩ | ⟨x, rfl, rfl⟩
       ·simp only [aG, kV, V.int.injEq] at r1
        subst r1
        exact Reads.int _ t
       ·simp [aG, kV] at r1
      ·rw [e6]
       simp only [e5] at r1
       rcases e3 with ⟨j, rfl, rfl⟩ | ⟨y, rfl, rfl⟩
       ·simp [aG, kV] at r1
       ·simp only [aG, kV, V.str.injEq] at r1
        subst r1
        exact Reads.str _ t
     exact ReadsAll.cons (as := []) (bs := []) hp ih
theorem aBp {P : Program} {w : World} : ∀ {kvs : List (Key × V)} {kvs2 : List (Key × Value)} {es : List DictEntry}, KV kvs kvs2 → Pairs (mixKind P w) es kvs2 → Vals (kvs.map fun p => p.2) (es.map (·.val))
 | [], _, _, kv, ps => by
  cases kv
  cases ps
  exact .nil
 | p :: kvs, _, _, kv, ps => by
  cases kv with
  | cons k1 k2 =>
   cases ps with
   | cons p1 p2 p3 =>
    exact .cons (by show L2.RelV p.2 (DictEntry.val _); rw [p2]; exact k1.2) (aBp k2 p3)
section
variable {X : Cx} {pins : List (Addr × Obj)} {σ : L2.St} {H : Hp} {s : Shared} {I : List Addr} {F G : Hp} {w : W}
mutual
theorem PQ (hS : Q0 X.K) (J : Inv X pins σ H s) (rel : Rel X.K I F G w H) {f : Nat → Option PyData} (hf : ∀ i a p, I[i]? = some a → f i = some p → ∃ as, Reads s.heap (.ref a) p as ∧ sysModules ∉ as) : ∀ (d : D) (v : V) (u : Value) (p : PyData), aG X.K I F d v → RelV v u → d.G3 f = some p → ∃ as, Reads s.heap u p as ∧ sysModules ∉ as
 | .non, v, u, p, h, r, e => by
  simp only [aG] at h
  simp only [D.G3, aj] at e
  subst h e
  cases r
  exact ⟨_, Reads.none, by simp⟩
 | .bl b, v, u, p, h, r, e => by
  simp only [aG] at h
  simp only [D.G3, aj] at e
  subst h e
  cases r
  exact ⟨_, Reads.bool b, by simp⟩
 | .int i, v, u, p, h, r, e => by
  simp only [aG] at h
  simp only [D.G3, aj] at e
  subst h e
  obtain ⟨t, rfl⟩ := r
  exact ⟨_, Reads.int i t, by simp⟩
 | .str x, v, u, p, h, r, e => by
  simp only [aG] at h
  simp only [D.G3, aj] at e
  subst h e
  obtain ⟨t, rfl⟩ := r
  exact ⟨_, Reads.str x t, by simp⟩
 | .ty _, v, u, p, h, r, e => by simp [D.G3] at e
 | .con _, v, u, p, h, r, e => by simp [D.G3] at e
 | .tup xs, v, u, p, h, r, e => by
  simp only [aG] at h
  obtain ⟨a, vs, rfl, h2, h3⟩ := h
  simp only [D.G3, aq] at e
  obtain ⟨ps, e1, rfl⟩ := e
  cases r
  obtain ⟨its, rv, ⟨o, ho, hc, n, hd⟩, _⟩ := J.tuple (show SqT X.K H a vs from .of (rel.fz _ _ h2))
  obtain ⟨as, hr, ns⟩ := pysV_reads hS J rel hf xs vs its ps h3 rv e1
  exact ⟨_, Reads.tuple ho hc hd hr, ns⟩
 | .vU xs, v, u, p, h, r, e => by
  simp only [aG] at h
  obtain ⟨a, vs, rfl, h2, h3⟩ := h
  simp only [D.G3, aq] at e
  obtain ⟨ps, e1, rfl⟩ := e
  cases r
  obtain ⟨its, rv, ⟨o, ho, hc, n, hd⟩, _⟩ := J.tuple (rel.VB h2)
  obtain ⟨as, hr, ns⟩ := pysV_reads hS J rel hf xs vs its ps h3 rv e1
  exact ⟨_, Reads.tuple ho hc hd hr, ns⟩
 | .lst xs, v, u, p, h, r, e => by
  simp only [aG] at h
  obtain ⟨a, vs, rfl, h2, h3⟩ := h
  simp only [D.G3, aq] at e
  obtain ⟨ps, e1, rfl⟩ := e
  cases r
  obtain ⟨its, rv, ⟨o, n, ho, hc, _, hd⟩, _⟩ := J.list (show SqL X.K H a vs from .of (rel.fz _ _ h2))
  obtain ⟨as, hr, ns⟩ := pysV_reads hS J rel hf xs vs its ps h3 rv e1
  refine ⟨_, Reads.list ho hc hd hr, fun hm => ?_⟩
  rcases ay.mp hm with e | e
  ·obtain ⟨o2, h1, h2⟩ := hS
   have := J.kIn _ _ h1
   rw [e, ho] at this
   cases this
   rw [h2] at hc
   exact absurd (Value.type.inj hc) (by decide)
  ·exact ns e
 | .qK xs, v, u, p, h, r, e => by
  simp only [aG] at h
  obtain ⟨a, vs, rfl, h2, h3⟩ := h
  simp only [D.G3, aq] at e
  obtain ⟨ps, e1, rfl⟩ := e
  cases r
  obtain ⟨its, rv, ⟨o, n, ho, hc, _, hd⟩, _⟩ := J.list (rel.sqL h2)
  obtain ⟨as, hr, ns⟩ := pysV_reads hS J rel hf xs vs its ps h3 rv e1
  refine ⟨_, Reads.list ho hc hd hr, fun hm => ?_⟩
  rcases ay.mp hm with e | e
  ·obtain ⟨o2, h1, h2⟩ := hS
   have := J.kIn _ _ h1
   rw [e, ho] at this
   cases this
   rw [h2] at hc
   exact absurd (Value.type.inj hc) (by decide)
  ·exact ns e
 | .EZ ks xs, v, u, p, h, r, e => by
  simp only [aG] at h
  obtain ⟨a, kvs, rfl, h2, h3, h4⟩ := h
  simp only [D.G3] at e
  split at e
  ·rename_i kp vp e1 e2
   split at e
   ·rename_i el
    cases e
    cases r
    have hx : ∃ u, H a = some u ∧ (u = .dK kvs ∨ ∃ o, u = .frz o (.dK kvs)) := by
     rcases h2 with h2 | ⟨o, h2⟩
     ·exact ⟨_, rel.fz _ _ h2, .inl rfl⟩
     ·exact ⟨_, rel.fz _ _ h2, .inr ⟨o, rfl⟩⟩
    obtain ⟨u, h5, h6⟩ := hx
    have ok := J.hok a u h5
    have ok2 : ObjOk X.prog X.w H s.heap a (.dK kvs) := by
     rcases h6 with rfl | ⟨o, rfl⟩
     ·exact ok
     ·exact ok.2
    obtain ⟨_, ns, kv2, kv, o, es, n, q1, q2, q3, q4, q5, q6⟩ := ok2
    have rk := FV (h := s.heap) e1 h3 kv q5
    have hv : Vals (kvs.map fun p => p.2) (es.toList.map (·.val)) := aBp kv q5
    obtain ⟨as, hr, ns2⟩ := pysV_reads hS J rel hf xs _ _ vp h4 hv e2
    have f1 : ((kp.zip vp).map fun p => p.1) = kp := by
     rw [List.map_fst_zip]
     omega
    have f2 : ((kp.zip vp).map fun p => p.2) = vp := by
     rw [List.map_snd_zip]
     omega
    refine ⟨_, Reads.dict (kvs := kp.zip vp) q1 q2.1 q3 (by rw [f1]; exact rk) (by rw [f2]; exact hr), fun hm => ?_⟩
    simp only [du, bf, ay] at hm
    rcases hm with e | e
    ·rw [← e] at ns
     simp at ns
    ·exact ns2 e
   ·cases e
  ·cases e
 | .ref i, v, u, p, h, r, e => by
  simp only [aG] at h
  obtain ⟨a, rfl, h2⟩ := h
  simp only [D.G3] at e
  cases r
  exact hf i a p h2 e
theorem pysV_reads (hS : Q0 X.K) (J : Inv X pins σ H s) (rel : Rel X.K I F G w H) {f : Nat → Option PyData} (hf : ∀ i a p, I[i]? = some a → f i = some p → ∃ as, Reads s.heap (.ref a) p as ∧ sysModules ∉ as) : ∀ (ds : List D) (vs : List V) (us : List Value) (ps : List PyData), RepL X.K I F ds vs → Vals vs us → D.pysV f ds = some ps → ∃ as, ReadsAll s.heap us ps as ∧ sysModules ∉ as
 | [], vs, us, ps, h, r, e => by
  simp only [RepL] at h
  simp only [D.pysV, aj] at e
  subst h e
  cases r
  exact ⟨_, ReadsAll.nil, by simp⟩
 | d :: ds, vs, us, ps, h, r, e => by
  simp only [RepL] at h
  obtain ⟨v, t, rfl, h2, h3⟩ := h
  simp only [D.pysV] at e
  split at e
  ·rename_i p ps' e1 e2
   cases e
   cases r with
   | cons r1 r2 =>
    obtain ⟨as, q1, n1⟩ := PQ hS J rel hf d v _ p h2 r1 e1
    obtain ⟨bs, q2, n2⟩ := pysV_reads hS J rel hf ds t _ ps' h3 r2 e2
    exact ⟨_, ReadsAll.cons q1 q2, fun hm => by
     rcases bh.mp hm with e | e
     ·exact n1 e
     ·exact n2 e⟩
  ·cases e
end
end
def N3 : Nat → W → Nat → Option PyData
 | 0, _, _ => none
 | n + 1, w, i => match w[i]? with
  | some (.lst xs) => (D.pysV (N3 n w) xs).map .list
  | _ => none
theorem FZ {X : Cx} {pins : List (Addr × Obj)} {σ : L2.St} {H : Hp} {s : Shared} {I : List Addr} {F G : Hp} {w : W} (hS : Q0 X.K) (J : Inv X pins σ H s) (rel : Rel X.K I F G w H) : ∀ (n i : Nat) (a : Addr) (p : PyData), I[i]? = some a → N3 n w i = some p → ∃ as, Reads s.heap (.ref a) p as ∧ sysModules ∉ as
 | 0, i, a, p, _, e => by simp [N3] at e
 | n + 1, i, a, p, h, e => by
  simp only [N3] at e
  split at e
  ·rename_i xs hw
   simp only [aq] at e
   obtain ⟨ps, e1, rfl⟩ := e
   obtain ⟨u, hu, ho⟩ := rel.ob i a _ h hw
   obtain ⟨vs, rfl, h3⟩ := ho
   obtain ⟨its, rv, ⟨o, n', ho, hc, _, hd⟩, _⟩ := J.list (show SqL X.K H a vs from .of hu)
   obtain ⟨as, hr, ns⟩ := pysV_reads hS J rel (fun i a p => FZ hS J rel n i a p) xs vs its ps h3 rv e1
   refine ⟨_, Reads.list ho hc hd hr, fun hm => ?_⟩
   rcases ay.mp hm with e | e
   ·obtain ⟨o2, h1, h2⟩ := hS
    have := J.kIn _ _ h1
    rw [e, ho] at this
    cases this
    rw [h2] at hc
    exact absurd (Value.type.inj hc) (by decide)
   ·exact ns e
  ·cases e
def xK (d : D) (w : W) : Option Str := match d.G3 (N3 8 w) with
 | some p => if p.showable = true ∧ p.depth ≤ 60 ∧ p.shown.length ≤ sizeLine then some p.shown else none
 | none => none
def kD : MF := fun ds w => match ds with
 | [d] => (match xK d w with
  | some z => .ok (.str z) w
  | none => .bad)
 | _ => .bad
theorem CP {S : aR} (hS : Q0 S.K) : CB S (.builtin "repr") kD := fun X E c xo pins s σ H vs us Q J r ⟨I, F, G, ds, w, rel, rl, p⟩ => by
 have hS' : Q0 X.K := by rw [c.K]; exact hS
 unfold kD at p
 split at p
 ·rename_i d
  obtain ⟨v, rfl, rv⟩ := rl.one
  obtain ⟨u, rfl, ru⟩ := vals1 r
  split at p
  ·rename_i z hz
   unfold xK at hz
   split at hz
   ·rename_i q hq
    split at hz
    ·rename_i hc
     cases hz
     obtain ⟨c1, c3, c4⟩ := hc
     obtain ⟨as, rd, ns⟩ := PQ hS' J rel (fun i a p => FZ hS' J rel 8 i a p) d v u q rv ru hq
     have fin : ∀ (h' : Heap) (t tk : Nat), (∀ b o, s.heap.get? b = some o → h'.get? b = some o) → EP X pins σ Q (.str q.shown t) { s with heap := h', toks := tk } := fun h' t tk hk => ⟨.str q.shown, H, J.kept hk, ⟨_, rfl⟩, p.nM rel (by simp [aG])⟩
     cases u with
     | ref a => exact repr_of_reads' rd c1 (fun _ => ns) c.gds (by have := c.room.units; omega) (fun _ _ h => h) (fun h' t tk hk => fin h' t tk hk) c4
     | none => cases rd; exact PySem.P.repr_of_none (by have := fin s.heap s.toks (s.toks + 1) fun _ _ h => h; simpa [PyData.shown] using this)
     | bool b => cases rd; exact PySem.P.repr_of_bool (by have := fin s.heap s.toks (s.toks + 1) fun _ _ h => h; simpa [PyData.shown] using this)
     | int i t => cases rd; exact PySem.P.repr_of_int (by simpa [PyData.showable] using c1) (by have := fin s.heap s.toks (s.toks + 1) fun _ _ h => h; simpa [PyData.shown] using this)
     | str x t => cases rd; exact PySem.P.repr_of_str (by have := fin s.heap s.toks (s.toks + 1) fun _ _ h => h; simpa [PyData.shown] using this) (by simpa [PyData.shown] using c4)
     | _ => cases rd
    ·cases hz
   ·cases hz
  ·exact p.elim
 ·exact p.elim
def FL : List D → Option (List Str)
 | [] => some []
 | .str x :: ds => (FL ds).map fun xs => x :: xs
 | _ :: _ => none
theorem OU {K : PySem.W.Frag} {I : List Addr} {F : Hp} : ∀ {ds : List D} {vs : List V} {ys : List Str}, RepL K I F ds vs → FL ds = some ys → vs = ys.map V.str
 | [], vs, ys, r, e => by
  simp only [FL, aj] at e
  subst e
  simp only [RepL] at r
  exact r
 | d :: ds, vs, ys, r, e => by
  cases d <;> simp only [FL, aq, reduceCtorEq] at e
  rename_i x
  obtain ⟨xs, e1, rfl⟩ := e
  simp only [RepL, aG] at r
  obtain ⟨v, t, rfl, rfl, r2⟩ := r
  rw [bt, OU r2 e1]
theorem J8 {K : PySem.W.Frag} {I : List Addr} {F : Hp} : ∀ ys : List Str, RepL K I F (ys.map D.str) (ys.map V.str)
 | [] => by simp [RepL]
 | y :: ys => RepL.cons (by simp [aG]) (J8 ys)
def joinM : MMt := fun d ds w => match d, ds with
 | .str a, [y] => (match (y.items w).bind FL with
  | some ys => if (ys.map (·.length)).sum + ys.length * a.length ≤ 16777216 then .ok (.str (Txt.join a ys)) w else .bad
  | none => .bad)
 | _, _ => .bad
theorem l9 {S : aR} : MB S "str.join" joinM := LG fun X E c xo I F G d ds w H x vs Q rel rd rl p => by
 unfold joinM at p
 split at p
 ·rename_i a y
  simp only [aG] at rd
  subst rd
  obtain ⟨v, rfl, rv⟩ := rl.one
  split at p
  ·rename_i ys hy
   obtain ⟨xs, h1, h2⟩ := dv.mp hy
   obtain ⟨b, us, rfl, h3, h4⟩ := CQ rel rv h1
   obtain rfl := OU h4 h2
   split at p
   ·rename_i hz
    exact ⟨_, mt_join, a, b, ys, rfl, rfl, h3, hz, p.nM rel (by simp [aG])⟩
   ·exact p.elim
  ·exact p.elim
 ·exact p.elim
def splitM : MMt := fun d ds w => match d, ds with
 | .str a, [.str b] => if (b.length == 0) = false ∧ a.length + 2 ≤ sizeLine then .ok (.lst ((Txt.split a b).map D.str)) w else .bad
 | _, _ => .bad
theorem eW {S : aR} : MB S "str.split" splitM := LG fun X E c xo I F G d ds w H x vs Q rel rd rl p => by
 unfold splitM at p
 split at p
 ·rename_i a b
  simp only [aG] at rd
  subst rd
  obtain ⟨v, rfl, rv⟩ := rl.one
  simp only [aG] at rv
  subst rv
  split at p
  ·rename_i hz
   exact ⟨_, mt_split, a, b, rfl, rfl, hz.1, hz.2, iY rel (J8 _) p⟩
  ·exact p.elim
 ·exact p.elim
def tM : MF := fun ds w => match ds with
 | [.str a] => (match PySem.intText? a with
  | some n => if a.length ≤ 640 then .ok (.int n) w else .bad
  | none => .bad)
 | _ => .bad
theorem RR {S : aR} : CB S (.type "int") tM := CZ fun X E c xo I F G ds w H vs Q rel rl p => by
 unfold tM at p
 split at p
 ·rename_i a
  obtain ⟨v, rfl, rv⟩ := rl.one
  simp only [aG] at rv
  subst rv
  split at p
  ·rename_i n hn
   split at p
   ·rename_i hz
    exact ⟨_, call_int_str, a, n, rfl, hn, hz, p.nM rel (by simp [aG])⟩
   ·exact p.elim
  ·exact p.elim
 ·exact p.elim
def aD2 (x y : D) (w : W) : Res D := match x, y with
 | .str c, .str z => (match c.cps.toList with
  | [n] => .ok (.bl (decide (n ∈ z.cps.toList))) w
  | _ => .bad)
 | _, _ => .bad
theorem aIf {S : aR} : O2 S (compareOp .In) aD2 := gU fun X E c xo I F G d e w H x y Q rel rd re p => by
 unfold aD2 at p
 split at p
 ·rename_i a z
  simp only [aG] at rd re
  subst rd re
  split at p
  ·rename_i n hn
   have ea : a = ⟨#[n]⟩ := by
    cases a with
    | mk cs =>
     congr
     exact Array.toList_inj.mp (by simpa using hn)
   exact ⟨_, op_in_sign, n, z, by rw [ea], rfl, p.nM rel (by simp [aG])⟩
  ·exact p.elim
 ·exact p.elim
def kN (x : Str) : List D := x.cps.toList.map fun c => D.str ⟨#[c]⟩
def aCv (d : D) (w : W) : Res lO := match d with
 | .str x => .ok ⟨kN x, always⟩ w
 | _ => .bad
def aCe (m : ME) : MI := fun σ w => (m σ w).bind aCv
theorem aH8 {K : PySem.W.Frag} {I : List Addr} {F : Hp} {it : lO} {x : Str} (hx : it.xs = kN x) : DE K I F (Its x) it := fun I' F' G w H j e rel ok => by
 refine ⟨fun y h => ?_, fun hl => ?_⟩
 ·rw [hx, kN, da] at h
  obtain ⟨c, hc, rfl⟩ := aq.mp h
  rw [Array.getElem?_toList] at hc
  refine ⟨(Array.getElem?_eq_some_iff.mp hc).1, fun v H' y => ?_⟩
  obtain ⟨rfl, c', hc', rfl⟩ := y
  rw [hc] at hc'
  cases hc'
  exact ⟨F', .refl, rel, by simp [aG]⟩
 ·rw [hx, kN, av, Array.length_toList] at hl
  show x.cps.size ≤ j
  omega
theorem aCz {S : aR} {tg l : Expr} {m : ME} (hl : JE S l m) : JI S tg l (aCe m) := fun X E cx xo =>
 B9 (pi_str (hl X E cx xo)) fun σ H R ⟨I, F, G, ds, w, rel, rs, p⟩ => cF (f := fun _ => aCv) rel rs p fun I1 F1 H1 d w1 v e1 rel1 rs1 rv p1 => by
  unfold aCv at p1
  split at p1
  ·rename_i x
   simp only [aG] at rv
   subst rv
   exact ⟨x, rfl, p1 I1 F1 H1 .refl rel1 trivial _ (aH8 rfl)⟩
  ·exact p1.elim
end Pc
namespace L2
open PySem PySem.Spec PyProof.Rows
section
variable {prog : Program} {w : World} {A : Around} {E : Value → Shared → Prop} {s : Shared}
theorem QF (hh : A.handled = none) (I ax : Addr) (hne : ax ≠ I) (items : Array Value) (i0 : Nat) (h0 : i0 ≤ items.size) :
  Walks prog w A I [I, ax] [I] (items.size - i0) (fun i v => items[i0 + i]? = some v) (fun i h => h.IsListIter I ax (i0 + i) ∧ h.IsList ax items) where
 sub := fun b hb => by simp at hb; simp [hb]
 frame := fun _ _ _ st hk => ⟨st.1.at fun o e => hk I (by simp) o e, st.2.at fun o e => hk ax (by simp) o e⟩
 item := fun i s Q E hi st hQ => by
  refine wpAny_pyNext_list_item st.1 st.2 (x := items[i0 + i]'(by omega)) (by rw [Array.getElem?_eq_getElem]) fun h' hit' hs' => ?_
  exact hQ _ h' s.toks (by rw [Array.getElem?_eq_getElem]) ⟨hit', st.2.extBut hs'.extBut hne⟩ fun b o hb e => hs'.extBut b o (fun h => hb (by simp [h])) e
 done := fun s Q E st hQ => wpAny_pyNext_list_end hh st.1 st.2 (by simp; omega) fun h' he' => hQ h' s.toks fun b o hb e => he' b o (fun h => hb (by simp [h])) e
 self := fun _ _ _ _ st hQ => wpAny_pyIter_listiter st.1 hQ
theorem VI {it t : Addr} {items : Array Value} (hne : t ≠ it) : ∀ (n i : Nat) (s : Shared) (Q : List Value → Shared → Prop), s.heap.IsListIter it t i → s.heap.IsList t items → i + n ≤ items.size →
  (∀ h' : Heap, h'.IsListIter it t (i + n) → Heap.SameBut it s.heap h' → Q ((items.toList.drop i).take n) { s with heap := h' }) → wpAny (model prog w) A (draw (.ref it) n) Q E s
 | 0, i, s, Q, hit, _, _, hQ => by
  show wpAny _ _ (pure []) Q E s
  exact wpAny_pure (by simpa using hQ s.heap hit (Heap.SameBut.refl ..))
 | n + 1, i, s, Q, hit, ht, hle, hQ => by
  have hlt : i < items.size := by omega
  show wpAny _ _ (pyNext (.ref it) >>= _) Q E s
  refine wpAny_bind (wpAny_pyNext_list_item hit ht (x := items[i]) (by simp [hlt]) fun h₁ hit₁ hs₁ => ?_)
  refine wpAny_bind (wpAny_holding (VI hne n (i + 1) _ _ hit₁ (ht.extBut hs₁.extBut hne) (by omega) fun h₂ hit₂ hs₂ => wpAny_pure ?_))
  have hd : items.toList.drop i = items[i] :: items.toList.drop (i + 1) := by simp [List.drop_eq_getElem_cons, hlt]
  have := hQ h₂ (by rw [show i + (n + 1) = i + 1 + n by omega]; exact hit₂) (hs₁.trans hs₂)
  rw [hd, List.take_succ_cons] at this
  exact this
theorem IE {t : Addr} {items : Array Value} {n : Nat} {Q : List Value → Shared → Prop} (hh : A.handled = none) (ht : s.heap.IsList t items) (hn : n ≤ items.size) (hz : items.size ≤ sizeLine)
  (hQ : ∀ (h' : Heap) (tk : Nat), (∀ b o, s.heap.get? b = some o → h'.get? b = some o) → Q (items.toList.take n ++ [.ref h'.objs.size]) { s with heap := h'.push { cls := .type "list", data := .seq (items.toList.drop n).toArray }, toks := tk }) :
  wpAny (model prog w) A (unpackItems (.ref t) (n + 1) (some n)) Q E s := by
 have hlt : t ≠ s.heap.objs.size := by obtain ⟨o, ho, _⟩ := ht; exact Nat.ne_of_lt (Heap.lt_size ho)
 have hltt : t < s.heap.objs.size := by obtain ⟨o, ho, _⟩ := ht; exact Heap.lt_size ho
 unfold unpackItems
 refine wpAny_bind ?_
 unfold notIterableAtAll
 refine wpAny_bind (wpAny_specialOf ht.typeIs slot_list_iter.lookup ?_)
 refine wpAny_pure ?_
 simp only [dc, ae]
 refine wpAny_bind (wpAny_holding (wpAny_pyIter_list ht ?_))
 refine wpAny_bind (wpAny_holding (VI hlt n 0 _ _ ⟨_, Heap.get?_push_size _ rfl, rfl, rfl⟩ (ht.push _) (by omega) fun h₁ hit₁ hs₁ => ?_))
 have hl : (List.take n (List.drop 0 items.toList)).length = n := by simp; omega
 rw [if_neg (by rw [hl]; omega)]
 have ht₁ : h₁.IsList t items := (ht.push _).extBut hs₁.extBut hlt
 rw [Nat.zero_add] at hit₁
 have hk1 : ∀ b o, s.heap.get? b = some o → h₁.get? b = some o := fun b o e => hs₁.extBut b o (Nat.ne_of_lt (Heap.lt_size e)) (Heap.get?_push_of_some _ e)
 have hsz : s.heap.objs.size < h₁.objs.size := by obtain ⟨o, ho, _⟩ := hit₁; exact Heap.lt_size ho
 refine wpAny_bind (wpAny_holding (wpAny_collect_iter (T := "list_iterator") (by first | exact .inl rfl | exact .inr (.inl rfl) | exact .inr (.inr (.inl rfl)) | exact .inr (.inr (.inr rfl))) (QF (A := A.in1) hh s.heap.objs.size t hlt items n hn).toS (fun i s' st => Heap.IsListIter.typeIs st.1) ⟨by rw [Nat.add_zero]; exact hit₁, ht₁⟩ (fun b hb => ?_) (by simp) (fun s' acc mv hi => ?_) (by omega)))
 ·simp only [ay, br, df] at hb
  rcases hb with rfl | rfl
  ·exact hsz
  ·exact Nat.lt_trans hltt hsz
 have ha : acc.toList = items.toList.drop n := by
  refine List.ext_getElem? fun i => ?_
  rw [List.getElem?_drop, Array.getElem?_toList, Array.getElem?_toList]
  by_cases h : i < acc.size
  ·obtain ⟨v, hv⟩ : ∃ v, acc[i]? = some v := ⟨acc[i], by simp [h]⟩
   rw [hv, hi.2 i v hv]
  ·have h1 := hi.1
   rw [Array.getElem?_eq_none (by omega), Array.getElem?_eq_none (by omega)]
 rw [ha]
 have hm : n + 1 - 1 - n = 0 := by omega
 simp only [hm, Nat.sub_zero, Nat.not_lt_zero, ae]
 rw [dh (az _), List.drop_of_length_le (az _)]
 refine wpAny_bind (wpAny_newList ?_ (by simp; omega))
 refine wpAny_pure ?_
 rw [du, dk]
 have hk2 : ∀ b o, s.heap.get? b = some o → s'.heap.get? b = some o := fun b o e => mv.heap b o (fun hb => absurd (Heap.lt_size e) (by rw [bp.mp hb]; exact Nat.lt_irrefl _)) (hk1 b o e)
 have := hQ s'.heap s'.toks hk2
 obtain ⟨hp, g, d, tk, os⟩ := s'
 have h1 : g = s.gens := mv.gens
 have h2 : d = s.drawn := mv.drawn
 have h3 : os = s.os := mv.os
 subst h1
 subst h2
 subst h3
 exact this
end
section
variable {X : Cx} {pos : Pos}
def aF9 (K : PySem.W.Frag) (n : Nat) (t : TGs) : TG := fun v σ H Q => ∃ a xs, v = .ref a ∧ SqL K H a xs ∧ n ≤ xs.length ∧ xs.length ≤ sizeLine ∧ ∀ q, H q = none → t (xs.take n ++ [.ref q]) σ (upd H q (.lst (xs.drop n))) Q
theorem aDT {es : List Expr} {k : Nat} {t : TGs} {n : Nat} (hc : X.calm = true) (h : PGs X es t)
  (hn : (assignEach es X.env).length = n + 1) (hst : (assignEach es X.env).findIdx? (·.1) = some n) : PG X (.Tuple es k pos) (aF9 X.K n t) := by
 refine ⟨fun pins s σ H v u Q I r hw => ?_⟩
 obtain ⟨a, xs, e1, hq, hl, hz, hw⟩ := hw
 subst e1
 cases r
 obtain ⟨its, rv, ⟨o, n0, ho, hcl, _, hd⟩, hz'⟩ := I.list hq
 have ht : s.heap.IsList a its.toArray := ⟨o, ho, hcl, n0, hd⟩
 rw [assign_Tuple]
 refine wpAny_bind (wpAny_standAt ?_)
 unfold unpack
 rw [hn, hst]
 refine wpAny_bind (wpAny_holding (IE (I.ok.hd hc) ht (by simp [← rv.length]; exact hl) (by simp [← rv.length]; exact hz) fun h' tk hx => ?_))
 have I1 : Inv X pins σ H { s with heap := h', toks := tk } := I.kept (t' := tk) hx
 have hf : H h'.objs.size = none := I1.hok.fresh (az _)
 have I2 : Inv X pins σ (upd H h'.objs.size (.lst (xs.drop n))) { s with heap := h'.push { cls := .type "list", data := .seq (its.drop n).toArray }, toks := tk } :=
  I1.laid (t' := tk) (fun b u e => Heap.get?_push_of_some _ e) (az _) ⟨by simp; omega, its.drop n, 0, rv.drop n, Heap.get?_push_size _ rfl⟩
 have vr : Vals (xs.take n ++ [.ref h'.objs.size]) (its.take n ++ [.ref h'.objs.size]) := (rv.take n).append (.cons rfl .nil)
 exact h.run pins _ σ _ _ _ Q I2 (by simpa using vr) (hw _ hf)
end
end L2
namespace Pc
open PySem PySem.Spec PyProof.Rows L2
def DN (n : Nat) (r : TZ) : MG := fun d σ w => match d with
 | .lst xs => if n ≤ xs.length ∧ xs.length ≤ sizeLine then r (xs.take n ++ [.lst (xs.drop n)]) σ w else .bad
 | _ => .bad
section
variable {S : aR} {pos pos' : Pos} {e : Expr} {es : List Expr} {g : MG} {r : TZ}
theorem aCD {k n : Nat} (h : JGs S es r) (hn : ∀ env : Env, (assignEach es env).length = n + 1 := by intro _; rfl) (hst : ∀ env : Env, (assignEach es env).findIdx? (·.1) = some n := by intro _; rfl) : JG S (.Tuple es k pos) (DN n r) := fun X E cx xo =>
 uV (aDT cx.calm (h X E cx xo) (hn X.env) (hst X.env)) fun v σ H Q ⟨I, F, G, d, ds, w, rel, rs, rv, p⟩ => by
  simp only [DN] at p
  split at p
  ·rename_i xs
   simp only [aG] at rv
   obtain ⟨a, vs, rfl, h1, h2⟩ := rv
   split at p
   ·rename_i hl
    refine ⟨a, vs, rfl, .of (rel.fz _ _ h1), by rw [← h2.length]; exact hl.1, by rw [← h2.length]; exact hl.2, fun q hq => ?_⟩
    have hd := h2.drop n
    obtain ⟨I', F', e1, rel1, rl⟩ := iY (E := E) (w := w) (Q := fun v H' => ∃ I' F', Ext I F I' F' ∧ Rel X.K I' F' G w H' ∧ aG X.K I' F' (.lst (xs.drop n)) v) rel hd (fun I' F' H' e1 rel' v rv => ⟨I', F', e1, rel', rv⟩) q hq
    exact ⟨I', F', G, _, ds, w, rel1, rs.ext e1, ((h2.take n).ext e1).append (RepL.cons rl (by simp [RepL])), p.ext e1⟩
   ·exact p.elim
  ·exact p.elim
end
def FD : MMt := fun d ds w => match d, ds with
 | .str a, [.str b] => if (b.length == 0) = false ∧ a.length ≤ sizeLine then .ok (.tup [.str (Txt.partition a b).1, .str (Txt.partition a b).2.1, .str (Txt.partition a b).2.2]) w else .bad
 | _, _ => .bad
theorem aAW {S : aR} : MB S "str.partition" FD := LG fun X E c xo I F G d ds w H x vs Q rel rd rl p => by
 unfold FD at p
 split at p
 ·rename_i a b
  simp only [aG] at rd
  subst rd
  obtain ⟨v, rfl, rv⟩ := rl.one
  simp only [aG] at rv
  subst rv
  split at p
  ·rename_i hz
   exact ⟨_, mt_partition, a, b, rfl, rfl, hz.1, hz.2, yG rel (J8 [_, _, _]) p⟩
  ·exact p.elim
 ·exact p.elim
structure FnX (P : Program) (w : World) (K : PySem.W.Frag) (mg : Str → Option Value) (base : Heap) (k : Nat) (f : Addr) (fd : FuncData) (ps : List Str) (m : XD → W → Res D) : Prop where
 one : ps.length = 1
 run : ∀ (A : Around) (outer : List Env) (s : Shared) (H : Hp) (args : Args) (Q : VK) (h : XH) (oe : Obj), L2H.RoomH k A → A.guards = some [] → A.handled = some (.ref h.a) → L2H.PinOk outer H s (h.a, oe) → Zc h.cls h.d oe → (∃ vs, oe.data = .fields vs) → Env0 P w K mg base A outer s H →
  BindsTo s fd args (ps.zip [.ref h.a]) → (∃ I F G w1, Rel K I F G w1 H ∧ K0 K h I F G ∧ bC K I F G Ez (RV K Q) (m h.x w1)) → codeAny (model P w) A (.call (.ref f) args) (CR (L2.CX P w) outer P w H s Q Ez) s
def YL (mb : XD → MS) (N : List Str) (x : XD) (w : W) : Res D := (mb x (List.replicate N.length none) w).bind fun f w1 => match f with
 | .nx _ => .ok .non w1
 | .rt d => .ok d w1
 | _ => .bad
theorem aB0 {A : Around} {v : Value} (h : A.handled = some v) : A.mark (some v) = A := by
 cases A
 simp only at h
 subst h
 rfl
theorem FnX.of {S : aR} {x qual : Str} {params : Arguments} {body : List Stmt} {scope : Scope} {dvs : List V} {kws : List (Str × V)} {f : Addr} {fd : FuncData} {N ps : List Str} {k : Nat} {mb : XD → MS} {m : XD → W → Res D}
  (F : FunD S.K x qual params body scope dvs kws f fd) (Sc : FnScope N ps scope) (hb : aBX (S.body k N scope) 0 body mb) (h1 : ps.length = 1) (hm : ∀ x w, m x w = YL mb N x w) : FnX S.P S.w S.K S.mg S.base (k + 1) f fd ps m := by
 refine ⟨h1, fun A outer s H args Q h oe hr hg hh hpin hz hf e0 hbt hsp => ?_⟩
 obtain ⟨oc, od, dV, kV, doc, pm, an, cdv, ct, osl, rfl, lk, hcd, _, _⟩ := F.ex
 have KX : S.K.In s.heap := e0.mod.kin.keeps fun b o e => (e0.bs b o e).1
 have lim : s.heap.NoLimit := e0.mod.nolimit.keeps fun b o e => (e0.bs b o e).1
 have kinds : ∀ y ∈ ps.zip [Value.ref h.a], scope.names.lookup y.1 = some .local ∨ (scope.names.lookup y.1 = some .cell ∧ ((cellsFrom (s.heap.objs.size + 1) scope.names []).lookup y.1).isSome = true) := by
  rintro ⟨n, v⟩ hy
  have hn : n ∈ ps := (List.of_mem_zip hy).1
  rcases Sc.par n hn with q | q
  ·exact Or.inl q
  ·exact Or.inr ⟨q, PySem.W.cellsFrom_some _ _ _ (.inl q)⟩
 refine codeAny_call_function hr.depth (KX _ _ lk) rfl Sc.co Sc.gen rfl (PySem.W.codeRec_of KX hcd) (hbt _ _ _ _ ?_)
 refine wpAny_newFunctionEnv_cells Sc.kind kinds fun env he s1 y => ?_
 subst he
 refine ⟨lim.keeps y.toInCall.keep, codeAny_func ?_⟩
 obtain ⟨I, F0, G, w, rel, hd, p⟩ := hsp
 obtain ⟨vs, hvs⟩ := hf
 have J0 := L2H.inv_startH (CX := L2.CX S.P S.w) (P := S.P) (w := S.w) (K := S.K) (mg := S.mg) (base := S.base) (N := N) (ps := ps) (qual := qual) (scope := scope) (f := f) (cd := cdv) (A := A) (outer := outer) (s := s) (s1 := s1) (H := H) (E := Ez) (us := [.ref h.a]) (vs := [.ref h.a]) Sc hpin e0 (by rw [h1]; rfl) (.cons rfl .nil) y
 obtain ⟨X0, eX0⟩ : ∃ X0, X0 = L2H.cxH (L2.CX S.P S.w) S.P S.w S.K S.mg S.base N qual scope f cdv A outer s H Ez (h.a, oe) := ⟨_, rfl⟩
 rw [← eX0] at J0
 have ga : s1.heap.get? h.a = some oe := y.toInCall.keep _ _ hpin.get
 have J : Inv (X0.suite h.a ((h.a, oe) :: (X0.pn ++ []))) [] (L2.start N [.ref h.a]) H s1 := J0.suite ga hvs hpin.free (by
  rw [eX0]
  exact Nat.ne_of_lt (Heap.lt_size hpin.get)) (by
  rw [eX0]
  exact hpin.nofs)
 have eA : X0.A.mark (some (.ref h.a)) = X0.A := by
  rw [eX0]
  exact aB0 hh
 have hi : (0 : Nat) = 0 := rfl
 have cx : aFd (S.body k N scope) 0 (X0.suite h.a ((h.a, oe) :: (X0.pn ++ []))) ⟨0, h.a, h.cls, h.d, h.x⟩ := by
  have hdp := hr.deeper (envOfC qual scope s.heap.objs.size f cdv)
  refine ⟨?_, ?_, ?_, ?_, ?_, ?_, ?_, ⟨X0, oe, X0.pn ++ [], rfl, hz, ⟨vs, hvs⟩⟩, rfl, ?_, ?_, ?_, ?_⟩
  ·rw [eX0]; rfl
  ·rw [eX0]; rfl
  ·rw [eX0]; rfl
  ·rw [eX0]; rfl
  ·rw [eX0]; exact Sc.nd
  ·show (X0.A.mark _).guards = _
   rw [eA, eX0]; exact hg
  ·show (X0.A.mark _).units + 200 < cLine
   rw [eA, eX0]
   have := hdp.un
   show (A.deeper (envOfC qual scope s.heap.objs.size f cdv)).units + 200 < cLine
   omega
  ·rw [eX0]; rfl
  ·rw [eX0]; rfl
  ·rw [eX0]; rfl
  ·show (X0.A.mark _).depth + 3 * k + 5 < recursionLimit ∧ (X0.A.mark _).units + 16 * k + 200 < cLine
   rw [eA, eX0]
   exact ⟨hdp.dp, hdp.un⟩
 have e1 : m h.x w = YL mb N h.x w := hm _ _
 rw [e1] at p
 have sl : H0 ⟨0, h.a, h.cls, h.d, h.x⟩ (L2.start N [.ref h.a]) := rfl
 have rs : dU S.K I F0 (List.replicate N.length none) (L2.start N [.ref h.a]) := by
  have hN : 1 ≤ N.length := by
   have := congrArg List.length Sc.pre
   rw [dn, h1] at this
   omega
  refine ⟨by unfold L2.start; simp; omega, fun i d e => ?_⟩
  rw [List.getElem?_replicate] at e
  split at e <;> cases e
 have go := (hb _ _ cx).run [] s1 (L2.start N [.ref h.a]) H { nx := fun _ H' => Q .non H', rt := Q } J (by
  refine ⟨sl, I, F0, G, List.replicate N.length none, w, ?_, ?_, ?_, ?_⟩
  ·rw [eX0]; exact rel
  ·rw [eX0]; exact rs
  ·rw [eX0]; exact hd
  ·rw [eX0]
   refine (bC.bind p).mono fun I1 F1 H1 fl w1 _ e1 rel1 p1 => ?_
   cases fl with
   | nx z => exact fun s' _ _ => p1.nM rel1 (by simp [aG])
   | rt d => exact fun v rv => p1.nM rel1 rv
   | bk z => exact p1.elim
   | ct z => exact p1.elim)
 have eA2 : (X0.suite h.a ((h.a, oe) :: (X0.pn ++ []))).A = A.deeper (envOfC qual scope s.heap.objs.size f cdv) := by
  show X0.A.mark _ = _
  rw [eA, eX0]
  rfl
 have fin : ∀ {σ' : L2.St} {H' : Hp} {s' : Shared} {v : V} {u : Value}, Inv (X0.suite h.a ((h.a, oe) :: (X0.pn ++ []))) [] σ' H' s' → RelV v u → Q v H' → CE outer S.P S.w H s Q u s' := fun {σ' H' s' v u} J2 rv q => by
  have b := J2.base
  have o := J2.hok
  have os := J2.os
  rw [eX0] at b o os
  exact ⟨v, H', os, J2.bare, b, o, rv, q⟩
 rw [eA2] at go
 rw [eX0] at go fin
 refine wpAny_mono go (fun fl s' hs => ?_) fun e s' hs => hs.elim
 cases fl with
 | ret u =>
  obtain ⟨v, σ', H', J', rv, q⟩ := hs
  exact fin J' rv q
 | next =>
  obtain ⟨σ', H', J', q⟩ := hs
  exact fin (v := V.non) (u := Value.none) J' rfl q
 | brk =>
  obtain ⟨_, _, _, q⟩ := hs
  exact q.elim
 | cont =>
  obtain ⟨_, _, _, q⟩ := hs
  exact q.elim
def YA (K : PySem.W.Frag) (fd : FuncData) (ps : List Str) : Prop := ∀ (s : Shared) (us : List Value), K.In s.heap → us.length = ps.length → BindsTo s fd ⟨us, []⟩ (ps.zip us)
theorem aBF {K : PySem.W.Frag} {x qual : Str} {params : Arguments} {body : List Stmt} {scope : Scope} {kws : List (Str × V)} {f : Addr} {fd : FuncData} {ps : List Str} (F : FunD K x qual params body scope [] kws f fd)
  (h : ∀ (kV doc pm : Value) (an : Option Addr) (cdv ct : Value) (us : List Value), us.length = ps.length → bindArgs (PySem.W.fnOf x qual params body scope .none kV doc pm an cdv ct) ⟨us, []⟩ = pure (ps.zip us)) : YA K fd ps := fun s us _ h1 => F.bindsA h s us h1
section
variable {S : aR} {i k : Nat} {f : Addr} {fd : FuncData} {ps : List Str} {m : XD → W → Res D} {x n : Str} {p p2 pos : Pos} {a b : Expr} {ma mb : XD → ME}
def Y7 (m : XD → W → Res D) (x : XD) : ME := fun _ w => m x w
theorem aCb (hk : k ≤ S.k) (Ff : FnX S.P S.w S.K S.mg S.base k f fd ps m) (B : YA S.K fd ps) (hg : S.sc.names.lookup x = some .globalImplicit) (hm : S.mg x = some (.ref f)) (kp : PySem.W.keepIn S.K (.ref f) = true)
  (hn : S.N[i]? = some n := by rfl) (hv : Vis S.sc n := by first | exact Or.inl rfl | exact Or.inr (Or.inl rfl) | exact Or.inr (Or.inr rfl)) (hdb : (x == ("__debug__" : Str)) = false := by decide) (hd2 : (n == ("__debug__" : Str)) = false := by decide) (hcd : (n == ("__classdict__" : Str)) = false := by decide)
  (he : ∀ env : Env, starEach [.Name n p2] env = (false, eval (.Name n p2) env) :: starEach [] env := by intro _; rfl) (hpl : ∀ env : Env, (backTo pos (starEach [] env)).any (·.1) = false := by intro _; rfl) :
  Y8 S i (.Call (.Name x p) [.Name n p2] [] pos) (fun x => Y7 m x) := fun X h cx => by
 obtain ⟨Y, oe, pn, eX, hz, hf⟩ := cx.at_
 have pv : PE X (.Name n p2) (tVar h.i) := L2.pe_var (i := h.i) (by rw [cx.N, cx.i]; exact hn) (by rw [cx.sc]; exact hv) hd2 hcd
 refine ⟨fun pins s σ H Q J ⟨sl, I, F, G, ds, w, rel, rs, hh, pp⟩ => ?_⟩
 refine wpAny_Call_Name_kw (ld_glob J (by show X.env.scope.names.lookup x = _; rw [cx.sc]; exact hg) (by rw [cx.mg]; exact hm) ?_ hdb)
 refine PySem.W.callWith_K (h₀ := X.base) J.ok.mod.kin (by rw [cx.K]; exact kp) (thn ((pa_cons (hs := he X.env) pv pa_nil).run pos pins s σ H (fun vs H1 => vs = [.ref h.a] ∧ H1 = H) J ⟨.ref h.a, sl, rfl, rfl⟩) fun us s1 ⟨vs, H1, J1, r, ev, eH⟩ => ⟨J1.kIn, ?_⟩) (he X.env) (hpl X.env)
 subst ev eH
 obtain ⟨u, rfl, ru⟩ := r.one
 cases (show u = Value.ref h.a from ru)
 have P1 := J1.pin (h.a, oe) (List.mem_append_left _ (by rw [eX]; exact aw ..))
 have hpin : L2H.PinOk X.stack H1 s1 (h.a, oe) := ⟨P1.1, P1.2.1, fun hmm => (ay.mp (J1.stkSub h.a hmm)).elim P1.2.2.1 P1.2.2.2.1, P1.2.2.2.2⟩
 have hA : X.A.handled = some (.ref h.a) := by rw [eX]; rfl
 have hb := B s1 [.ref h.a] (by rw [← cx.K]; exact J1.kIn) (by rw [Ff.one]; rfl)
 have Ff' : FnX X.prog X.w X.K X.mg X.base k f fd ps m := by rw [cx.P, cx.w, cx.K, cx.mg, cx.base]; exact Ff
 have hr : L2H.RoomH k X.A := ⟨by have := cx.rm.1; omega, by have := cx.rm.2; omega⟩
 refine wpAny_call (codeAny_mono (Ff'.run X.A X.stack s1 H1 ⟨[.ref h.a], []⟩ Q h oe hr cx.gds hA hpin hz hf J1.env0 hb ⟨I, F, G, w, rel, hh, pp⟩) fun fl s' hq => ?_)
 cases fl with
 | error e =>
  obtain ⟨_, _, _, _, _, _, _, _, _, _, _, _, q⟩ := hq
  exact q.elim
 | ok fl =>
  cases fl with
  | ret u => exact J1.after hq
  | next => exact hq.elim
  | brk => exact hq.elim
  | cont => exact hq.elim
def LP (x y : D) (w : W) : Res D := match x, y with
 | .lst a, .lst b => if a.length + b.length ≤ sizeLine then .ok (.lst (a ++ b)) w else .bad
 | _, _ => .bad
theorem OC : O2U (binaryOp .Add) LP := fun X pins s σ H x y v u Q J rx ry ⟨I, F, G, d, e, w, rel, rd, re, p⟩ => by
 unfold LP at p
 split at p
 ·rename_i a b
  simp only [aG] at rd re
  obtain ⟨q, vs, ex, h1, h2⟩ := rd
  obtain ⟨q', vs', ex', h1', h2'⟩ := re
  split at p
  ·rename_i hl
   exact op_cat pins s σ H _ _ v u Q J rx ry ⟨q, q', vs, vs', ex, ex', rel.fz _ _ h1, rel.fz _ _ h1', by rw [← h2.length, ← h2'.length]; exact hl, iY rel (h2.append h2') p⟩
  ·exact p.elim
 ·exact p.elim
theorem aAV {op : Operator} {f : D → D → W → Res D} (ho : O2U (binaryOp op) f) (ha : Y8 S i a ma) (hb : Y8 S i b mb) : Y8 S i (.BinOp a op b pos) (fun x => aE f (ma x) (mb x)) := fun X h c =>
 cC (pe_op (ho X) (ha X h c) (hb X h c)) fun _ _ _ q => aCJ q
end
def qD (x y : D) (w : W) : Res D := match x, y with
 | .str a, .int k => if 2 ≤ k ∧ k ≤ 100000 ∧ a.length * k.toNat ≤ 1000000 then .ok (.str (Txt.mul a k)) w else .bad
 | _, _ => .bad
theorem aFO {a : Str} {k : Int} (h : 2 ≤ k ∧ k ≤ 100000 ∧ a.length * k.toNat ≤ 1000000) : MulOk a k := by
 obtain ⟨h1, h2, h3⟩ := h
 have l1 : a.length ≤ 1000000 := bq (Nat.le_mul_of_pos_right _ (by omega)) h3
 refine ⟨by simp; omega, fun _ _ hc => ?_, fun _ _ => ?_⟩
 ·have : (100000 : Int) ≤ (2 ^ 63 - 1) / k := by
   rw [Int.le_ediv_iff_mul_le (by omega)]
   omega
  have : ((2 : Int) ^ 63 - 1) / k ≥ 1000000 := by
   rw [ge_iff_le, Int.le_ediv_iff_mul_le (by omega)]
   omega
  omega
 ·unfold PySem.Builtin.Str.tooLong
  rw [decide_eq_false_iff_not, sizeLine_eq]
  omega
theorem BO {S : aR} : O2 S (binaryOp .Mult) qD := gU fun X E c xo I F G d e w H x y Q rel rd re p => by
 unfold qD at p
 split at p
 ·rename_i a k
  simp only [aG] at rd re
  subst rd re
  split at p
  ·rename_i hz
   have q : Q (.str (Txt.mul a k)) H := p.nM rel (by simp [aG])
   refine ⟨fun x y H Q => ∃ a k, x = V.str a ∧ y = V.int k ∧ MulOk a k ∧ Q (.str (Txt.mul a k)) H, ?_, a, k, rfl, rfl, aFO hz, q⟩
   intro pins s σ H x y v u Q I rx ry h
   obtain ⟨a, k, rfl, rfl, ok, q⟩ := h
   obtain ⟨t, rfl⟩ := rx
   obtain ⟨t', rfl⟩ := ry
   exact SB.mul ok fun t' tk => ⟨.str (Txt.mul a k), H, I.tok tk, ⟨t', rfl⟩, q⟩
  ·exact p.elim
 ·exact p.elim
def HD (x y : D) (w : W) : Res D := match x, y with
 | .str c, .str z => (match c.cps.toList with
  | [n] => .ok (.bl (!decide (n ∈ z.cps.toList))) w
  | _ => .bad)
 | _, _ => .bad
theorem aBR {S : aR} : O2 S (compareOp .NotIn) HD := gU fun X E c xo I F G d e w H x y Q rel rd re p => by
 unfold HD at p
 split at p
 ·rename_i a z
  simp only [aG] at rd re
  subst rd re
  split at p
  ·rename_i n hn
   have ea : a = ⟨#[n]⟩ := by
    cases a with
    | mk cs =>
     congr
     exact Array.toList_inj.mp (by simpa using hn)
   exact ⟨_, op_notIn_sign, n, z, by rw [ea], rfl, p.nM rel (by simp [aG])⟩
  ·exact p.elim
 ·exact p.elim
theorem aEe {P : Program} {w : World} {K : PySem.W.Frag} {mg mb : Str → Option Value} {k : Nat} {fa a : Addr} {fd : FuncData} {x : Str} {m : MF} {s : Shared} {ns : List Int} (H : Hp)
  (kin : K.In s.heap) (glo : s.heap.Ns mainGlobals mg) (blt : s.heap.Ns builtinsNs mb) (boot : ∀ y : Str, y ≠ "__name__" → mb y = bootBuiltins y) (free : s.heap.NoLimit) (gens : s.gens = #[]) (room : Room k callerA)
  (prom : ∀ base : Heap, K.In base → base.Ns mainGlobals mg → fZ P w K mg base k fa fd [x] m) (bind : ∀ (t : Shared) (u : Value), BindsTo t fd ⟨[u], []⟩ [(x, u)]) (w' : W) (good : m [.qK (ns.map D.int)] [] = .ok (.bl true) w')
  (only : Only H) (held : SqL K H a (ns.map V.int)) (ok : HOk P w H s.heap) (nod : ∀ b o, s.heap.get? b = some o → H b ≠ none → ∀ es ep, o.data ≠ .dict es ep) (nok : ∀ b, H b ≠ none → K.lookup b = none) :
  codeAny (model P w) callerA (.call (.ref fa) ⟨[.ref a], []⟩) (fun r t => r = .ok (.ret (.bool true)) ∧ OldK s.heap t.heap ∧ t.os = s.os ∧ AllBare t.gens) s := by
 have low : ∀ {b : Addr} {o : Obj}, s.heap.get? b = some o → H b = none → (hidT s.heap H).get? b = some o := hidT_get
 have dicts : ∀ {b : Addr} {f : Str → Option Value}, s.heap.Ns b f → (hidT s.heap H).Ns b f := by
  rintro b f ⟨o, es, ep, h1, h2, h3⟩
  refine ⟨o, es, ep, low h1 ?_, h2, h3⟩
  by_cases q : H b = none
  ·exact q
  ·exact absurd h2 (nod b o h1 q es ep)
 have kb : K.In (hidT s.heap H) := fun b o h => low (kin b o h) (by
  by_cases q : H b = none
  ·exact q
  ·rw [nok b q] at h; cases h)
 obtain ⟨mc, c1, c2⟩ := free
 have e0 : Env0 P w K mg (hidT s.heap H) callerA [] s H := {
  frames := rfl
  mod := ⟨kb, dicts glo, ⟨mb, dicts blt, boot⟩, ⟨mc, dicts c1, c2⟩⟩
  bs := fun b o h => of_hidT h
  bsz := Nat.le_of_eq (hidT_size _ _)
  funs := trivial
  frf := fun b hb => by simp [frs] at hb
  hok := ok
  bare := .of_eq gens }
 have rel : Rel K [] H (fun _ => none) [] H := ⟨rfl, List.nodup_nil, fun i b o h => by simp at h, fun _ _ h => h, fun i b o h => by simp at h, fun _ _ h => (by cases h), fun _ _ h => (by cases h), fun _ _ h => (by cases h)⟩
 have sp : spM K m [V.ref a] H (fun v _ => v = .bl true) fun _ _ _ => False := by
  refine ⟨[], H, fun _ => none, [.qK (ns.map D.int)], [], rel, RepL.cons ?_ (by simp [RepL]), ?_⟩
  ·simp only [aG]; exact ⟨a, _, rfl, held, RepL.ints ns⟩
  ·rw [good]
   intro I' F' H' _ _ v rv
   simpa only [aG] using rv
 refine codeAny_mono ((prom _ kb (dicts glo)).run callerA [] s H ⟨[.ref a], []⟩ [.ref a] [.ref a] _ _ room rfl e0 (bind s (.ref a)) (.cons rfl .nil) rfl sp) fun r t h => ?_
 match r, h with
 | .error e, h =>
  obtain ⟨_, _, _, _, _, h⟩ := h
  simp at h
 | .ok (.ret u), h =>
  obtain ⟨v, H2, h1, h2, h3, h4, h5, h6⟩ := h
  subst h6
  obtain rfl : u = Value.bool true := h5
  refine ⟨rfl, OldK.of_keep fun b o hb => ?_, h1, h2⟩
  rcases only b with q | ⟨ob, xs, q⟩
  ·exact h3.keep b o hb q (by intro z; simp [frs] at z) (by simp)
  ·obtain ⟨g1, _⟩ := ok b _ q
   obtain ⟨g2, _⟩ := h4 b _ (h3.frzs b ob _ q)
   rw [hb] at g1; cases g1
   exact g2
 | .ok .next, h => exact h.elim
 | .ok .brk, h => exact h.elim
 | .ok .cont, h => exact h.elim
theorem aCy {P : Program} {w : World} {K : PySem.W.Frag} {mg mb : Str → Option Value} {k : Nat} {fa a : Addr} {fd : FuncData} {x : Str} {m : MF} {s : Shared} {us : List Value} {ns : List Int}
  (kin : K.In s.heap) (glo : s.heap.Ns mainGlobals mg) (blt : s.heap.Ns builtinsNs mb) (boot : ∀ y : Str, y ≠ "__name__" → mb y = bootBuiltins y) (free : s.heap.NoLimit) (gens : s.gens = #[]) (room : Room k callerA)
  (laid : s.heap.get? a = some { cls := .type "list", data := .seq us.toArray }) (nums : IntsAre us ns) (few : ns.length ≤ sizeLine)
  (prom : ∀ base : Heap, K.In base → base.Ns mainGlobals mg → fZ P w K mg base k fa fd [x] m) (bind : ∀ (t : Shared) (u : Value), BindsTo t fd ⟨[u], []⟩ [(x, u)]) (w' : W) (good : m [.qK (ns.map D.int)] [] = .ok (.bl true) w') :
  codeAny (model P w) callerA (.call (.ref fa) ⟨[.ref a], []⟩) (fun r t => r = .ok (.ret (.bool true)) ∧ OldK s.heap t.heap ∧ t.os = s.os ∧ AllBare t.gens) s := by
 have vals := vals_ints nums
 cases hk : K.lookup a with
 | some o =>
  have h := kin a o hk
  rw [laid] at h
  cases h
  refine aEe (fun _ => none) kin glo blt boot free gens room prom bind w' good (fun _ => .inl rfl) (.inr ⟨_, us.toArray, _, hk, rfl, rfl, rfl, ?_, by simpa using vals⟩) (fun _ _ h => by cases h) (fun _ _ _ h => absurd rfl h) fun _ h => absurd rfl h
  rw [List.size_toArray]; have := nums.length; omega
 | none =>
  let ob : Obj := { cls := .type "list", data := .seq us.toArray }
  let H : Hp := fun b => if b = a then some (.frz ob (.lst (ns.map V.int))) else none
  have at1 : H a = some (.frz ob (.lst (ns.map V.int))) := if_pos rfl
  have at2 : ∀ {b : Addr}, H b ≠ none → b = a := fun {b} h => by
   by_cases e : b = a
   ·exact e
   ·exact absurd (if_neg e) h
  refine aEe H kin glo blt boot free gens room prom bind w' good (fun b => ?_) (.inl (.inr ⟨ob, at1⟩)) (fun b u h => ?_) (fun b o h hb es ep hd => ?_) fun b hb => by rw [at2 hb]; exact hk
  ·by_cases e : b = a
   ·exact .inr ⟨ob, _, if_pos e⟩
   ·exact .inl (if_neg e)
  ·obtain rfl := at2 (b := b) (by rw [h]; simp)
   rw [at1] at h
   cases h
   exact ⟨laid, by rw [av]; exact few, us, _, vals, laid⟩
  ·obtain rfl := at2 hb
   rw [laid] at h
   cases h
   cases hd
theorem aEd {l : PySem.W.OpenLaw} {n k : Nat} {q : Program} {loose : List Str} {XP : (Str → Option Value) → Heap → Prop} {YP : World → Heap → Prop} {d : DefRec} {x : Str}
  (hn : l.most = some n) (hn2 : n ≤ sizeLine) (hdf : d.params.defaults = []) (hr : Room k callerA)
  (F : ∀ (w : World) (mg : Str → Option Value) (fa : Addr) (h : Heap), YP w h → h.Ns mainGlobals mg → mg d.name = some (.ref fa) →
   ∃ (K : PySem.W.Frag) (fd : FuncData) (m : MF), K.In h ∧ (∀ (s : Shared) (u : Value), BindsTo s fd ⟨[u], []⟩ [(x, u)]) ∧ (∀ ns : List Int, ns.length ≤ n → ∃ w', m [.qK (ns.map D.int)] [] = .ok (.bl true) w') ∧
    ∀ base : Heap, K.In base → base.Ns mainGlobals mg → fZ l.prog w K mg base k fa fd [x] m) :
  PySem.W.WalkO q loose XP YP l.row.toRowW d [] (fun f vs => PySem.call f vs) :=
 Att.attach_call hn hdf fun w _ s mg _ fa _ _ _ _ _ us ns G Y _ _ _ hmg laid nums few gens => by
  obtain ⟨K, fd, m, kin, bind, good, prom⟩ := F w mg fa _ Y G.T.g hmg
  obtain ⟨w', hw⟩ := good ns few
  exact aCy kin G.T.g G.T.b G.T.builtins G.T.nolimit gens hr laid nums (bq few hn2) prom bind w' hw
end Pc
namespace K65
open PySem PySem.Spec PyProof.Rows L2 Pc
def top (i : Nat) : Stmt := PySem.Challenge.pw_onemaster_k65_texts_of_no_story.main.body.getD i (.Pass ⟨0, 0, 0, 0⟩)
structure bE where
 eR : Addr
 jL : Addr
 jH : Addr
 jC : Addr
 mC : Addr
 bD : Addr
 gN : Addr
 eZ : Addr
 zz : Unit := ()
def cA : List (Str × Option D) := [(("fall" : Str), some (.int 1)), (("stop" : Str), some (.int 1)), (("rise" : Str), some (.int 1)), (("down" : Str), some (.int 1)), (("up" : Str), some (.int 1)), (("rank" : Str), some (.int 3)), (("heal" : Str), some (.int 0)), (("ask" : Str), some (.int 2))]
abbrev Dis (k : bE) : Prop := [k.eR, k.jL, k.jH, k.jC, k.mC, k.bD, k.gN].Nodup
end K65
set_option maxHeartbeats 0
namespace K65H
open PySem PySem.Spec PyProof.Rows L2 Pc K65
def yB : He.DefD := ⟨("_law_draw", none), "_law_draw", "_law_draw", defArgs (top 35), defBody (top 35), defScope (top 35), [], []⟩
def xH : He.DefD := ⟨("_law_pick", none), "_law_pick", "_law_pick", defArgs (top 36), defBody (top 36), defScope (top 36), [], []⟩
def x5 : He.DefD := ⟨("_law_bent", none), "_law_bent", "_law_bent", defArgs (top 51), defBody (top 51), defScope (top 51), [], []⟩
def vZ : He.DefD := ⟨("_law_deck", none), "_law_deck", "_law_deck", defArgs (top 34), defBody (top 34), defScope (top 34), [], []⟩
def pD : He.DefD := ⟨("_law_classes", none), "_law_classes", "_law_classes", defArgs (top 37), defBody (top 37), defScope (top 37), [], []⟩
def nB : He.DefD := ⟨("number_in", none), "number_in", "number_in", defArgs (top 27), defBody (top 27), defScope (top 27), [], []⟩
def iK : He.DefD := ⟨("numbers_in", none), "numbers_in", "numbers_in", defArgs (top 28), defBody (top 28), defScope (top 28), [], []⟩
def nG : He.DefD := ⟨("listed_in", none), "listed_in", "listed_in", defArgs (top 29), defBody (top 29), defScope (top 29), [], []⟩
def tQ : He.DefD := ⟨("deed_in", none), "deed_in", "deed_in", defArgs (top 30), defBody (top 30), defScope (top 30), [], []⟩
def AL : He.DefD := ⟨("is_whole", none), "is_whole", "is_whole", defArgs (top 9), defBody (top 9), defScope (top 9), [], []⟩
def xG : He.DefD := ⟨("is_within", none), "is_within", "is_within", defArgs (top 10), defBody (top 10), defScope (top 10), [], []⟩
def rX : He.DefD := ⟨("are_numbers", none), "are_numbers", "are_numbers", defArgs (top 22), defBody (top 22), defScope (top 22), [], []⟩
def DB : He.DefD := ⟨("is_fate", none), "is_fate", "is_fate", defArgs (top 25), defBody (top 25), defScope (top 25), [], []⟩
def xA : He.DefD := ⟨("is_rising", none), "is_rising", "is_rising", defArgs (top 23), defBody (top 23), defScope (top 23), [], []⟩
def DO : He.DefD := ⟨("is_form", none), "is_form", "is_form", defArgs (top 24), defBody (top 24), defScope (top 24), [], []⟩
def EL : He.DefD := ⟨("is_turn", none), "is_turn", "is_turn", defArgs (top 26), defBody (top 26), defScope (top 26), [], []⟩
def o6 : He.DefD := ⟨("turn_in", none), "turn_in", "turn_in", defArgs (top 31), defBody (top 31), defScope (top 31), [], []⟩
def uZ : He.DefD := ⟨("read_story", none), "read_story", "read_story", defArgs (top 32), defBody (top 32), defScope (top 32), [], []⟩
def uW : He.DefD := ⟨("_law_heard", none), "_law_heard", "_law_heard", defArgs (top 52), defBody (top 52), defScope (top 52), [], []⟩
def pG : He.DefD := ⟨("_law_figures", none), "_law_figures", "_law_figures", defArgs (top 46), defBody (top 46), defScope (top 46), [], []⟩
def sE : He.DefD := ⟨("_law_lot_in", none), "_law_lot_in", "_law_lot_in", defArgs (top 47), defBody (top 47), defScope (top 47), [], []⟩
def rV : He.DefD := ⟨("_law_act_in", none), "_law_act_in", "_law_act_in", defArgs (top 48), defBody (top 48), defScope (top 48), [], []⟩
def pC : He.DefD := ⟨("_law_turn_in", none), "_law_turn_in", "_law_turn_in", defArgs (top 49), defBody (top 49), defScope (top 49), [], []⟩
def nW : He.DefD := ⟨("_law_story_in", none), "_law_story_in", "_law_story_in", defArgs (top 50), defBody (top 50), defScope (top 50), [], []⟩
def uP : He.DefD := ⟨("_law_right", none), "_law_right", "_law_right", defArgs (top 53), defBody (top 53), defScope (top 53), [], []⟩
def sG : He.DefD := ⟨("_law_number", none), "_law_number", "_law_number", defArgs (top 38), defBody (top 38), defScope (top 38), [], []⟩
def AB : He.DefD := ⟨("_law_lot", none), "_law_lot", "_law_lot", defArgs (top 39), defBody (top 39), defScope (top 39), [], []⟩
def AJ : He.DefD := ⟨("_law_act", none), "_law_act", "_law_act", defArgs (top 40), defBody (top 40), defScope (top 40), [], []⟩
def xO : He.DefD := ⟨("_law_turn", none), "_law_turn", "_law_turn", defArgs (top 41), defBody (top 41), defScope (top 41), [], []⟩
def uK : He.DefD := ⟨("_law_story", none), "_law_story", "_law_story", defArgs (top 42), defBody (top 42), defScope (top 42), [], []⟩
def nN : He.DefD := ⟨("_law_act_text", none), "_law_act_text", "_law_act_text", defArgs (top 43), defBody (top 43), defScope (top 43), [], []⟩
def lM : He.DefD := ⟨("_law_turn_text", none), "_law_turn_text", "_law_turn_text", defArgs (top 44), defBody (top 44), defScope (top 44), [], []⟩
def k8 : He.DefD := ⟨("_law_story_text", none), "_law_story_text", "_law_story_text", defArgs (top 45), defBody (top 45), defScope (top 45), [], []⟩
def aE9 : He.DefD := ⟨("law", none), "law", "law", defArgs (top 54), defBody (top 54), defScope (top 54), [], []⟩
def mS : He.DefD := ⟨("NoText", some "__init__"), "__init__", "NoText.__init__", defArgs (inClass (top 3) 0), defBody (inClass (top 3) 0), defScope (inClass (top 3) 0), [], []⟩
def fn : List He.DefD := [yB, xH, x5, vZ, pD, nB, iK, nG, tQ, AL, xG, rX, DB, xA, DO, EL, o6, uZ, uW, pG, sE, rV, pC, nW, uP, sG, AB, AJ, xO, uK, nN, lM, k8, aE9, mS]
def fa : List He.Fa := [.free "IndexError", .free "ValueError", .free "all", .free "bool", .free "enumerate", .free "int", .free "isinstance", .free "len", .free "list", .free "range", .free "repr", .free "set", .free "sorted", .free "str", .free "sum", .free "tuple", .free "zip", .glo "_law_draw", .glo "_law_pick", .glo "_law_bent", .glo "_law_deck", .glo "_law_classes", .glo "number_in", .glo "numbers_in", .glo "listed_in", .glo "deed_in", .glo "is_whole", .glo "is_within", .glo "are_numbers", .glo "is_fate", .glo "is_rising", .glo "is_form", .glo "is_turn", .glo "turn_in", .glo "read_story", .glo "_law_heard", .glo "_law_figures", .glo "_law_lot_in", .glo "_law_act_in", .glo "_law_turn_in", .glo "_law_story_in", .glo "_law_right", .glo "_law_number", .glo "_law_lot", .glo "_law_act", .glo "_law_turn", .glo "_law_story", .glo "_law_act_text", .glo "_law_turn_text", .glo "_law_story_text", .glo "law", .glo "FORMS", .glo "NetError", .glo "NoDeed", .glo "NoFate", .glo "NoPlan", .glo "NoRow", .glo "NoText", .glo "TooMany"]
def ts : List He.Tab := [((fun K => He.ga K "FORMS"), [("fall" : Str), ("stop" : Str), ("rise" : Str), ("down" : Str), ("up" : Str), ("rank" : Str), ("heal" : Str), ("ask" : Str)])]
def exl (K : PySem.W.Frag) : List Bool := [KW K "AHEAD_OF_FATES" (.str (" ! " : Str)), KW K "BETWEEN_DEEDS" (.str (" ; " : Str)), KW K "BETWEEN_FATES" (.str (" , " : Str)), KW K "FIGURES" (.str ("0123456789" : Str)), KW K "LONGEST" (.int 3), KW K "MOST_NUMBER" (.int 999), KW K "NONE" (.str ("-" : Str)), KW K "OF_A_FATE" (.int 4), KW K "TEAR" (.str ("tear" : Str)), aEK K (He.ga K "FORMS") cA, aJz K (He.ga K "NoText") (He.ga K "NetError") (He.fAd K mS.at_) ("line" : Str), aLp K (He.ga K "NoText") (He.ga K "NoText") true, PySem.W.xcB K (He.ga K "NoText"), decide (PySem.W.kitOne K (.ref (He.ga K "NoText")) (.type "IndexError") = some false), decide (PySem.W.kitOne K (.ref (He.ga K "NoText")) (.ref (He.ga K "NetError")) = some true), decide (PySem.W.kitOne K (.ref (He.ga K "NoText")) (.ref (He.ga K "NoDeed")) = some false), decide (PySem.W.kitOne K (.ref (He.ga K "NoText")) (.ref (He.ga K "NoFate")) = some false), decide (PySem.W.kitOne K (.ref (He.ga K "NoText")) (.ref (He.ga K "NoPlan")) = some false), decide (PySem.W.kitOne K (.ref (He.ga K "NoText")) (.ref (He.ga K "NoRow")) = some false), decide (PySem.W.kitOne K (.ref (He.ga K "NoText")) (.ref (He.ga K "NoText")) = some true), decide (PySem.W.kitOne K (.ref (He.ga K "NoText")) (.ref (He.ga K "TooMany")) = some false), decide (PySem.W.kitOne K (.ref (He.ga K "NoText")) (.type "ValueError") = some true), decide ([He.ga K "NetError", He.ga K "NoDeed", He.ga K "NoFate", He.ga K "NoPlan", He.ga K "NoRow", He.ga K "NoText", He.ga K "TooMany"].Nodup), aIR K]
def ex (K : PySem.W.Frag) : Bool := (exl K).all id
theorem gS {K : PySem.W.Frag} (h : ex K = true) (i : Nat) {b : Bool} (hi : (exl K)[i]? = some b) : b = true := by
 unfold ex at h
 rw [au] at h
 exact h b (cq hi)
def loose : List PySem.Str := (["NetError", "NoPlan", "NoText", "NoDeed", "NoFate", "TooMany", "NoRow", "is_whole", "is_within", "MOST_NUMBER", "FIGURES", "LONGEST", "NONE", "BETWEEN_DEEDS", "BETWEEN_FATES", "AHEAD_OF_FATES", "TEAR", "OF_A_FATE", "FORMS", "are_numbers", "is_rising", "is_form", "is_fate", "is_turn", "number_in", "numbers_in", "listed_in", "deed_in", "turn_in", "read_story"] : List PySem.Str) ++ (["_law_deck", "_law_draw", "_law_pick", "_law_classes", "_law_number", "_law_lot", "_law_act", "_law_turn", "_law_story", "_law_act_text", "_law_turn_text", "_law_story_text", "_law_figures", "_law_lot_in", "_law_act_in", "_law_turn_in", "_law_story_in", "_law_bent", "_law_heard", "_law_right"] : List PySem.Str)
abbrev R : PySem.W.OpenRow := PySem.W.OpenLaw.row PySem.Challenge.rw_onemaster_k65_texts_of_no_story
def as : List Nat := ([3, 6, 4, 24, 44, 63, 82, 101, 120, 132, 141, 148, 149, 154, 159, 166, 173, 178, 183, 188, 195, 200, 205, 212, 219, 226, 233, 240, 247, 252, 257, 262, 267, 272, 277, 282, 287, 292, 297, 302, 309, 316, 323, 330, 335, 0, 23, 43, 62, 81, 100, 119, 131, 140, 147, 153, 158, 165, 172, 177] : List Nat) ++ ([182, 187, 194, 199, 204, 211, 218, 225, 232, 239, 246, 251, 256, 261, 266, 271, 276, 281, 286, 291, 296, 301, 308, 315, 322, 329, 334, 22, 25, 41, 42, 60, 61, 79, 80, 98, 99, 117, 118, 130, 135, 137, 138, 139, 142, 144, 145, 146, 150, 152, 155, 157, 160, 162, 163, 164, 167, 169, 170, 171] : List Nat) ++ ([174, 176, 179, 181, 184, 186, 189, 191, 192, 193, 196, 198, 201, 203, 206, 208, 209, 210, 213, 215, 216, 217, 220, 222, 223, 224, 227, 229, 230, 231, 234, 236, 237, 238, 241, 243, 244, 245, 248, 250, 253, 255, 258, 260, 263, 265, 268, 270, 273, 275, 278, 280, 283, 285, 288, 290, 293, 295, 298, 300] : List Nat) ++ ([303, 305, 306, 307, 310, 312, 313, 314, 317, 319, 320, 321, 324, 326, 327, 328, 331, 333, 40, 59, 78, 97, 116, 2, 1] : List Nat)
abbrev hk : PySem.W.Hook := He.aHU as fa fn ts ex
def ob (s : PySem.W.SharedT) : He.AlY := He.aGp as fa fn ts ex (HandSHeadRun.getT s)
theorem aLG (s : PySem.W.SharedT) : ob s = hk.obs s.abs := He.aFr (HandSHeadRun.getT_eq s)
open PySem PySem.W PySem.Calls PyProof.Rows HandSHeadRun in
abbrev eF (w : World) (os : OsState) : Option SharedT := endF (stepQ (denQ tabQ) R.prog w) 8000 R.prog w os
open PySem PySem.W PySem.Calls PyProof.Rows in
theorem WI (w : World) (os : OsState) : (eF (w.withFollow "special-get-raises" false) os).map (fun s => (HandSHeadRun.looksF R.prog (boot_heap (w.withFollow "special-get-raises" false).params) s.abs, HandSHeadRun.seenQ (PySem.W.view R.prog [54]) loose (importedModules R.prog.main.body) (fun s => xlAt (PySem.W.view R.prog [54]) [] s && recOk R.toRowW.records s) s.abs)) = some (true, openGood (PySem.W.view R.prog [54]) loose) := by
 kernel_rfl
open PySem PySem.W PySem.Calls PyProof.Rows in
theorem Y0 (w : World) (os : OsState) : (eF (w.withFollow "special-get-raises" false) os).map (ob) = some (hk.val (w.withFollow "special-get-raises" false)) := by
 kernel_rfl
theorem aCc (w : World) : HandSHeadRun.RunEq R (PySem.W.view R.prog [54]) hk ob 8000 loose (w.withFollow "special-get-raises" false) := fun os => He.aHv (WI w os) (Y0 w os)
open PySem PySem.W PySem.Calls PyProof.Rows in
theorem YT (w : World) (os : OsState) : (eF (w.withFollow "special-get-raises" true) os).map (fun s => (HandSHeadRun.looksF R.prog (boot_heap (w.withFollow "special-get-raises" true).params) s.abs, HandSHeadRun.seenQ (PySem.W.view R.prog [54]) loose (importedModules R.prog.main.body) (fun s => xlAt (PySem.W.view R.prog [54]) [] s && recOk R.toRowW.records s) s.abs)) = some (true, openGood (PySem.W.view R.prog [54]) loose) := by
 kernel_rfl
open PySem PySem.W PySem.Calls PyProof.Rows in
theorem aB2 (w : World) (os : OsState) : (eF (w.withFollow "special-get-raises" true) os).map (ob) = some (hk.val (w.withFollow "special-get-raises" true)) := by
 kernel_rfl
theorem aEB (w : World) : HandSHeadRun.RunEq R (PySem.W.view R.prog [54]) hk ob 8000 loose (w.withFollow "special-get-raises" true) := fun os => He.aHv (YT w os) (aB2 w os)
theorem run (w : World) : HandSHeadRun.RunEq R (PySem.W.view R.prog [54]) hk ob 8000 loose w := PySem.W.byRow2 "special-get-raises" (P := fun w => HandSHeadRun.RunEq R (PySem.W.view R.prog [54]) hk ob 8000 loose w) aCc aEB w
section
 open PySem PySem.W PySem.Calls PyProof.Rows
def early : { E : Prop // E → PySem.Challenge.rw_onemaster_k65_texts_of_no_story.Holds } := ⟨_, fun hc => by
 w_on; o_law
 refine HandSHeadRun.head_any (r := OpenLaw.row PySem.Challenge.rw_onemaster_k65_texts_of_no_story) (q := view (OpenLaw.row PySem.Challenge.rw_onemaster_k65_texts_of_no_story).prog [54]) (H := hk) (ob := ob) (M := 8000) (loose := loose) (d := HandSHeadRun.topDef (OpenLaw.row PySem.Challenge.rw_onemaster_k65_texts_of_no_story).prog 54) (kwd := []) aLG
  (by kernel_rfl) (fun s => by kernel_rfl) run (by kernel_rfl) (by kernel_rfl) (by kernel_rfl) (by rfl) (by first | assumption | decide +kernel) (by decide +kernel) ⟨rfl, rfl, rfl, rfl, rfl, by decide +kernel⟩ ?hw ?hc
 case hw => w_witness2
 case hc => exact hc⟩
end
end K65H
set_option maxHeartbeats 4000000
namespace Pc
open PySem PySem.Spec PyProof.Rows L2
def wA (w : W) (d c : Nat) : Prop := d ≠ c ∧ ∃ (cells : List Int) (sm n : Int), w[d]? = some (.lst [.ref c, .int sm, .int n]) ∧ w[c]? = some (.lst (cells.map .int)) ∧ cells.length ≤ 63
def Kept (w w' : W) (d c : Nat) : Prop := w'.length = w.length ∧ ∀ i, i ≠ d → i ≠ c → w'[i]? = w[i]?
theorem V3 : ∀ cells : List Int, PyData.canLayAll0 (cells.map PyData.int) = true
 | [] => rfl
 | x :: xs => by simp [PyData.canLayAll0, PyData.canLay0, V3 xs]
theorem UU : ∀ cells : List Int, PyData.depthAll (cells.map PyData.int) ≤ 1
 | [] => by simp [PyData.depthAll]
 | x :: xs => by
  have := UU xs
  simp only [bt, PyData.depthAll, PyData.depth]
  omega
theorem lay_ints (cells : List Int) : SeqAt.shaped (.list (cells.map PyData.int)) = true := by
 have h1 := V3 cells
 have h2 := UU cells
 unfold SeqAt.shaped
 simp [PyData.canLay0, PyData.depth, h1]
 omega
theorem aDr (f : Nat → Option PyData) (cells : List Int) : D.pysR f (cells.map D.int) = some (cells.map PyData.int) := by
 induction cells with
 | nil => rfl
 | cons x xs ih => simp [D.pysR, D.e8, ih]
theorem aJ4 {w : W} {c : Nat} {cells : List Int} (h : w[c]? = some (.lst (cells.map D.int))) : D.py w (.ref c) = some (.list (cells.map PyData.int)) := by
 show MW 8 w c = _
 simp [MW, h, aDr]
theorem ne_nil {w : W} {c : Nat} {cells : List Int} (h : w[c]? = some (.lst (cells.map D.int))) : oX (.ref c) (.lst []) w = .ok (.bl (!cells.isEmpty)) w := by
 unfold oX DX y8
 rw [aJ4 h]
 have e : D.py w (.lst []) = some (.list []) := rfl
 rw [e]
 have l2 : SeqAt.shaped (.list []) = true := lay_ints []
 simp only [lay_ints, l2, and_self, af]
 cases cells <;> simp [PyData.eqv, PyData.eqvAll]
@[irreducible] def T {α : Type} (r : Res α) (P : α → W → Prop) : Prop := match r with
 | .ok a w => P a w
 | _ => False
section
variable {α β : Type} {P Q : α → W → Prop} {r : Res α}
theorem T.ex (h : T r P) : ∃ a w, r = .ok a w ∧ P a w := by
 unfold T at h
 cases r with
 | ok a w => exact ⟨a, w, rfl, h⟩
 | zC x w => exact h.elim
 | bad => exact h.elim
theorem T.of {a : α} {w : W} (h : r = .ok a w) (p : P a w) : T r P := by unfold T; rw [h]; exact p
theorem T.mono (h : T r P) (k : ∀ a w, r = .ok a w → P a w → Q a w) : T r Q := by
 obtain ⟨a, w, e, p⟩ := h.ex
 exact T.of e (k a w e p)
theorem bZ {a : α} {w : W} : T (.ok a w) P = P a w := by unfold T; rfl
theorem aKI : T .bad P = False := by unfold T; rfl
theorem bQ {r : Res α} {f : α → W → Res β} {P : β → W → Prop} : T (r.bind f) P = T r fun a w => T (f a w) P := by cases r <;> (first | rfl | (unfold T; rfl) | (unfold Then; rfl))
theorem aD0 : T r.noX P = T r P := by cases r <;> (first | rfl | (unfold T; rfl) | (unfold Then; rfl))
theorem OG {c : Prop} [Decidable c] {a b : Res α} : T (if c then a else b) P = (if c then T a P else T b P) := by split <;> (first | rfl | (unfold T; rfl) | (unfold Then; rfl))
theorem dW {c : Prop} [Decidable c] {a : Res α} : T (if c then a else .bad) P = (c ∧ T a P) := by
 by_cases h : c
 ·rw [if_pos h]; exact propext ⟨fun z => ⟨h, z⟩, fun z => z.2⟩
 ·rw [if_neg h]; exact propext ⟨fun z => by unfold T at z; exact z.elim, fun z => absurd z.1 h⟩
end
section
variable {σ : Sg} {w : W} {P : D → W → Prop} {PA : List D → W → Prop} {PB : Bool → W → Prop} {PF : Fl → W → Prop} {a b c : ME} {ma mk : MA} {ta tb : MT} {sa sb : MS} {g : MG} {gs : TZ} {f : D → D → W → Res D} {d x y : D}
theorem T_C : T (eC d σ w) P = P d w := by unfold T; rfl
theorem T_V {i : Nat} : T (aB i σ w) P = (match σ[i]? with
 | some (some d) => P d w
 | _ => False) := by
 unfold aB
 cases h : σ[i]? with
 | none => unfold T; rfl
 | some o => cases o <;> (first | rfl | (unfold T; rfl) | (unfold Then; rfl))
theorem aKi : T (aE f a b σ w) P = T (a σ w) fun x w1 => T (b σ w1) fun y w2 => T (f x y w2) P := by unfold aE; simp only [bQ]
theorem aMG {f : D → W → Res D} : T (AZ f a σ w) P = T (a σ w) fun x w1 => T (f x w1) P := by unfold AZ; simp only [bQ]
theorem aKO : T (iZ a b σ w) P = T (a σ w) fun x w1 => T (gE x w1) fun c _ => if c = true then T (b σ w1) P else P x w1 := by unfold iZ; simp only [bQ, OG, bZ]
theorem aMx : T (eOr a b σ w) P = T (a σ w) fun x w1 => T (gE x w1) fun c _ => if c = true then P x w1 else T (b σ w1) P := by unfold eOr; simp only [bQ, OG, bZ]
theorem aMT : T (sQ ta a b σ w) P = T (ta σ w) fun c w1 => if c = true then T (a σ w1) P else T (b σ w1) P := by unfold sQ; simp only [bQ, OG]
theorem IP : T (aD σ w) PA = PA [] w := by unfold T; rfl
theorem BP : T (aA a ma σ w) PA = T (a σ w) fun x w1 => T (ma σ w1) fun xs w2 => PA (x :: xs) w2 := by unfold aA; simp only [bQ, bZ]
theorem aLv : T (bH ma σ w) P = T (ma σ w) fun xs w1 => xs.length ≤ sizeLine ∧ P (.tup xs) w1 := by unfold bH; simp only [bQ, dW, bZ]
theorem aLf : T (dQ ma σ w) P = T (ma σ w) fun xs w1 => xs.length ≤ sizeLine ∧ P (.lst xs) w1 := by unfold dQ; simp only [bQ, dW, bZ]
theorem aLm : T (eNew ma σ w) P = T (ma σ w) fun xs w1 => xs.length ≤ sizeLine ∧ P (.ref w1.length) (w1 ++ [.lst xs]) := by unfold eNew; simp only [bQ, dW, bZ]
theorem aLc {m : MF} : T (aP m ma σ w) P = T (ma σ w) fun xs w1 => T (m xs w1) P := by unfold aP; simp only [bQ]
theorem aIK {t : String} {m : MMt} : T (bB t m a ma σ w) P = T (a σ w) fun d w1 => tyD d w1 = some t ∧ T (ma σ w1) fun xs w2 => T (m d xs w2) P := by unfold bB; simp only [bQ, dW]
theorem aH1 {m : MF} {n : Nat} {gd : List D → List D → List D} : T (aH m n gd ma σ w) P = T (ma σ w) fun xs w1 => xs.length = n ∧ T (m (gd xs []) w1) P := by unfold aH; simp only [bQ, dW]
theorem aFG {m : MF} {n j : Nat} {gd : List D → List D → List D} : T (YB m n j gd ma mk σ w) P = T (ma σ w) fun xs w1 => T (mk σ w1) fun zs w2 => (xs.length = n ∧ zs.length = j) ∧ T (m (gd xs zs) w2) P := by unfold YB; simp only [bQ, dW]
theorem aIe {m : MF} {C : Addr} {n j : Nat} {gd : List D → List D → List D} : T (aC9 C m n j gd ma mk σ w) P = T (ma σ w) fun xs w1 => T (mk σ w1) fun zs w2 => (xs.length = n ∧ zs.length = j) ∧ T (aEF m C (fun s => gd (s ++ xs) zs) w2) P := by unfold aC9; simp only [bQ, dW]
theorem aKN {C : Addr} {z : Str} : T (eJ C z a σ w) P = T (a σ w) fun x w1 => T (aLF C z x w1) P := by unfold eJ AZ; simp only [bQ]
theorem aMJ {g : D → D → W → Res D} : T (eCh f g a b c σ w) P = T (a σ w) fun x w1 => T (b σ w1) fun y w2 => T (f x y w2) fun r w3 => match r with
 | .bl k => if k = true then T (c σ w3) fun z w4 => T (g y z w4) P else P (.bl false) w3
 | _ => False := by
 unfold eCh
 simp only [bQ]
 congr 1; funext x w1; congr 1; funext y w2; congr 1; funext r w3
 cases r <;> first | (unfold T; rfl) | skip
 rename_i k
 cases k
 ·unfold T; rfl
 ·exact bQ
theorem aLR : T (aV a σ w) PB = T (a σ w) fun x w1 => match x with
 | .bl k => PB k w1
 | _ => False := by
 unfold aV
 simp only [bQ]
 congr 1; funext x w1
 cases x <;> (first | rfl | (unfold T; rfl) | (unfold Then; rfl))
theorem aKV : T (dS a σ w) PB = T (a σ w) fun x w1 => T (gE x w1) PB := by unfold dS; simp only [bQ]
theorem aJm : T (cS ta σ w) PB = T (ta σ w) fun k w1 => PB (!k) w1 := by unfold cS; simp only [bQ, bZ]
theorem aJv : T (fU ta tb σ w) PB = T (ta σ w) fun k w1 => if k = true then T (tb σ w1) PB else PB false w1 := by unfold fU; simp only [bQ, OG, bZ]
theorem aKF : T (iB ta tb σ w) PB = T (ta σ w) fun k w1 => if k = true then PB true w1 else T (tb σ w1) PB := by unfold iB; simp only [bQ, OG, bZ]
theorem aG6 : T (bA σ w) PB = PB true w := by unfold T; rfl
def Then (b : MS) (PF : Fl → W → Prop) : Fl → W → Prop := fun f w => match f with
 | .nx σ => T (b σ w) PF
 | f => PF f w
theorem a7 : T (aJ sa sb σ w) PF = T (sa σ w) (Then sb PF) := by
 unfold aJ
 simp only [bQ]
 congr 1; funext f w1
 cases f <;> (first | rfl | (unfold T; rfl) | (unfold Then; rfl))
theorem A7 {σ : Sg} : Then sb PF (.nx σ) w = T (sb σ w) PF := by first | rfl | (unfold Then; rfl)
theorem aGf {d : D} : Then sb PF (.rt d) w = PF (.rt d) w := by first | rfl | (unfold Then; rfl)
theorem aKj : T (aU a σ w) PF = T (a σ w) fun d w1 => PF (.rt d) w1 := by unfold aU; simp only [bQ, bZ]
theorem aJY : T (cR a σ w) PF = T (a σ w) fun _ w1 => PF (.nx σ) w1 := by unfold cR; simp only [bQ, bZ]
theorem aK4 : T (dH ta sa sb σ w) PF = T (ta σ w) fun k w1 => if k = true then T (sa σ w1) PF else T (sb σ w1) PF := by unfold dH; simp only [bQ, OG]
theorem aJi : T (aZ σ w) PF = PF (.nx σ) w := by unfold T; rfl
theorem U8 : T (aO a g σ w) PF = T (a σ w) fun d w1 => T (g d σ w1) fun s w2 => PF (.nx s) w2 := by unfold aO; simp only [bQ, bZ]
theorem aI9 {i : Nat} {PS : Sg → W → Prop} : T (aQ i d σ w) PS = PS (σ.set i (some d)) w := by unfold T; rfl
theorem aH3 {PS : Sg → W → Prop} : T (eM a b d σ w) PS = T (a σ w) fun o w1 => T (b σ w1) fun i w2 => T (setM o i d w2) fun _ w3 => PS σ w3 := by unfold eM; simp only [bQ, bZ]
theorem aIV {C : Addr} {z : Str} : T (CO C z a b σ w) PF = T (b σ w) fun x w1 => T (a σ w1) fun d w2 => T (aAo C z d x w2) fun _ w3 => PF (.nx σ) w3 := by unfold CO; simp only [bQ, bZ]
theorem aIL {n : Nat} {xs : List D} {PS : Sg → W → Prop} : T (bV n gs (.tup xs) σ w) PS = (xs.length = n ∧ T (gs xs σ w) PS) := by simp only [bV, dW]
theorem aF7 {n : Nat} {xs : List D} {PS : Sg → W → Prop} : T (bV n gs (.vU xs) σ w) PS = (xs.length = n ∧ T (gs xs σ w) PS) := by simp only [bV, dW]
theorem aIi {PS : Sg → W → Prop} : T (bO [] σ w) PS = PS σ w := by unfold T; rfl
theorem aHh {xs : List D} {PS : Sg → W → Prop} : T (aI g gs (d :: xs) σ w) PS = T (g d σ w) fun s w1 => T (gs xs s w1) PS := by simp only [aI, bQ]
theorem dM {mb : MS} {N : List Str} {ds : List D} : T (bF mb N ds w) P = T (mb (begin N ds) w) fun f w1 => match f with
 | .nx _ => P .non w1
 | .rt d => P d w1
 | _ => False := by
 unfold bF
 simp only [bQ]
 congr 1; funext f w1
 cases f <;> (first | rfl | (unfold T; rfl) | (unfold Then; rfl))
end
section
variable {w : W} {P : D → W → Prop} {a b : Int} {x y d : D}
theorem A2 : T (a9 (.int a) (.int b) w) P = P (.int (a + b)) w := by unfold T; rfl
theorem aKb : T (nK (.int a) (.int b) w) P = P (.int (a - b)) w := by unfold T; rfl
theorem UR : T (mulM (.int a) (.int b) w) P = (LK a b = true ∧ P (.int (a * b)) w) := by unfold mulM; simp only [dW, bZ]
theorem N1 : T (lH (.int a) (.int b) w) P = (0 < b ∧ P (.int (a % b)) w) := by unfold lH; simp only [dW, bZ]
theorem LQ : T (zD (.int a) (.int b) w) P = ((0 < b ∧ b < 1073741824) ∧ P (.int (a / b)) w) := by unfold zD; simp only [dW, bZ]
theorem aKT : T (DF (.int a) w) P = P (.int (-a)) w := by unfold T; rfl
theorem aMo : T (TV (.int a) (.int b) w) P = P (.bl (decide (a < b))) w := by unfold T; rfl
theorem aMA : T (UE (.int a) (.int b) w) P = P (.bl (decide (a ≤ b))) w := by unfold T; rfl
theorem aMQ : T (gtM (.int a) (.int b) w) P = P (.bl (decide (b < a))) w := by unfold T; rfl
theorem aKX : T (geM (.int a) (.int b) w) P = P (.bl (decide (b ≤ a))) w := by unfold T; rfl
theorem DR {xs ys : List D} : T (a9 (.tup xs) (.tup ys) w) P = (xs.length + ys.length ≤ sizeLine ∧ P (.tup (xs ++ ys)) w) := by unfold a9; simp only [dW, bZ]
theorem aJb {xs ys : List D} : T (a9 (.lst xs) (.lst ys) w) P = (xs.length + ys.length ≤ sizeLine ∧ P (.lst (xs ++ ys)) w) := by unfold a9; simp only [dW, bZ]
theorem WM : T (isM x .non w) P = P (.bl x.isNon) w := by cases x <;> (first | rfl | (unfold T; rfl))
theorem aKc {p q : Bool} : T (isM (.bl p) (.bl q) w) P = P (.bl (decide (p = q))) w := by unfold T; rfl
theorem VC : T (DP x .non w) P = P (.bl (!x.isNon)) w := by cases x <;> (first | rfl | (unfold T; rfl))
theorem aDg {p q : Bool} : T (DP (.bl p) (.bl q) w) P = P (.bl (!decide (p = q))) w := by unfold T; rfl
theorem aLI : T (notM x w) P = T (gE x w) fun c _ => P (.bl (!c)) w := by unfold notM; simp only [bQ, bZ]
theorem aJg {p : Bool} {PB : Bool → W → Prop} : T (gE (.bl p) w) PB = PB p w := by unfold T; rfl
theorem aIW {PB : Bool → W → Prop} : T (gE (.int a) w) PB = PB (a != 0) w := by unfold T; rfl
theorem aI0 {PB : Bool → W → Prop} : T (gE .non w) PB = PB false w := by unfold T; rfl
theorem aEt {xs : List D} : T (atM xs (.int a) w) P = ∃ d, atI xs a = some d ∧ P d w := by
 show T (match atI xs a with
  | some d => Res.ok d w
  | none => .bad) P = _
 cases atI xs a with
 | none => simp [T]
 | some d => simp [T]
theorem aKk {xs : List D} : T (aY (.tup xs) y w) P = T (atM xs y w) P := by unfold T; rfl
theorem aK7 {xs : List D} : T (aY (.vU xs) y w) P = T (atM xs y w) P := by unfold T; rfl
theorem aHE {xs : List D} : T (aY (.lst xs) y w) P = T (atM xs y w) P := by unfold T; rfl
theorem aAr {i : Nat} {kvs : List (Key × D)} {z : Str} (h : w[i]? = some (.dK kvs)) : T (aY (.ref i) (.str z) w) P = ∃ d, jM kvs (.inr z) = some d ∧ P d w := by
 simp only [aY, h, qU, keyD, Option.map_some]
 cases jM kvs (Sum.inr z) with
 | none => simp [T]
 | some d => simp [T]
theorem nP : T (eG x y w) P = ∃ r, DX x y w = some r ∧ P (.bl r) w := by
 unfold eG
 cases DX x y w with
 | none => simp [T]
 | some r => simp [T]
theorem LF : T (oX x y w) P = ∃ r, DX x y w = some r ∧ P (.bl (!r)) w := by
 unfold oX
 cases DX x y w with
 | none => simp [T]
 | some r => simp [T]
theorem k7 : DX (.int a) (.int b) w = some (a == b) := by simp [DX, y8, D.py, D.e8, SeqAt.shaped, PyData.canLay0, PyData.depth, PyData.eqv]
theorem aMP : T (L7 x y w) P = ∃ r, inD x y w = some r ∧ P (.bl r) w := by
 unfold L7
 cases inD x y w with
 | none => simp [T]
 | some r => simp [T]
theorem BB : T (kO x y w) P = ∃ r, inD x y w = some r ∧ P (.bl (!r)) w := by
 unfold kO
 cases inD x y w with
 | none => simp [T]
 | some r => simp [T]
theorem aBk : T (cZ [d] w) P = ∃ n, JM d w = some n ∧ P (.int n) w := by
 show T (match JM d w with
  | some n => Res.ok (D.int n) w
  | none => .bad) P = _
 cases JM d w with
 | none => simp [T]
 | some n => simp [T]
theorem kG {i : Nat} {xs : List D} (h : w[i]? = some (.lst xs)) : T (cJ (.ref i) [d] w) P = (xs.length < sizeLine ∧ P .non (w.set i (.lst (xs ++ [d])))) := by
 simp only [cJ, h, dW, bZ]
theorem aIn {i : Nat} {kvs : List (Key × D)} {z : Str} {PU : Unit → W → Prop} (h : w[i]? = some (.dK kvs)) : T (setM (.ref i) (.str z) d w) PU = (kvs.length < sizeLine ∧ PU () (w.set i (.dK (putD kvs (.inr z) d)))) := by
 simp only [setM, h, keyD, dW, bZ]
end
theorem aIA {it : lO} {g : MG} {body : MS} {P : Fl → W → Prop} (Inv : Nat → Sg → W → Prop) (ok : ∀ i σ w, Inv i σ w → it.ok w)
  (step : ∀ i x σ w, it.xs[i]? = some x → Inv i σ w → T (g x σ w) fun σ1 w1 => T (body σ1 w1) fun f w2 => match f with
   | .nx s => Inv (i + 1) s w2
   | .ct s => Inv (i + 1) s w2
   | .bk s => P (.nx s) w2
   | .rt d => P (.rt d) w2) (fin : ∀ σ w, Inv it.xs.length σ w → P (.nx σ) w) : ∀ {i : Nat} {σ : Sg} {w : W}, i ≤ it.xs.length → Inv i σ w → T (forL it g body (it.xs.drop i) σ w) P := by
 intro i
 generalize hn : it.xs.length - i = n
 induction n generalizing i with
 | zero =>
  intro σ w hi h
  have e : i = it.xs.length := by omega
  subst e
  rw [List.drop_length]
  unfold forL
  rw [if_pos (ok _ _ _ h)]
  rw [bZ]; exact fin σ w h
 | succ n ih =>
  intro σ w hi h
  have hlt : i < it.xs.length := by omega
  rw [List.drop_eq_getElem_cons hlt]
  unfold forL
  rw [if_pos (ok _ _ _ h), bQ]
  refine (step i _ σ w (bo hlt) h).mono fun s1 w1 _ q => ?_
  rw [bQ]
  refine T.mono q fun f w2 _ q2 => ?_
  cases f with
  | nx s => exact ih (by omega) (by omega) q2
  | ct s => exact ih (by omega) (by omega) q2
  | bk s => rw [bZ]; exact q2
  | rt d => rw [bZ]; exact q2
theorem US {m : MI} {g : MG} {body : MS} {σ : Sg} {w : W} {P : Fl → W → Prop} : T (g9 m g body σ w) P = T (m σ w) fun it w1 => T (forL it g body it.xs σ w1) P := by unfold g9; simp only [bQ]
theorem QV {it : lO} {vs : List Nat} {g : MG} {t : MT} {e : ME} {σ : Sg} {P : List D → W → Prop} (Inv : Nat → List D → W → Prop) (ok : ∀ i acc w, Inv i acc w → it.ok w)
  (step : ∀ i x acc w, it.xs[i]? = some x → Inv i acc w → T (g x (cQ σ vs) w) fun σ1 w1 => T (t σ1 w1) fun b w2 => if b = true then T (e σ1 w2) fun y w3 => Inv (i + 1) (acc ++ [y]) w3 else Inv (i + 1) acc w2)
  (fin : ∀ acc w, Inv it.xs.length acc w → P acc w) : ∀ {i : Nat} {acc : List D} {w : W}, i ≤ it.xs.length → Inv i acc w → T (jD it vs g t e (it.xs.drop i) σ w) fun ys w1 => P (acc ++ ys) w1 := by
 intro i
 generalize hn : it.xs.length - i = n
 induction n generalizing i with
 | zero =>
  intro acc w hi h
  have e : i = it.xs.length := by omega
  subst e
  rw [List.drop_length]
  unfold jD
  rw [if_pos (ok _ _ _ h)]
  rw [bZ, du]
  exact fin acc w h
 | succ n ih =>
  intro acc w hi h
  have hlt : i < it.xs.length := by omega
  rw [List.drop_eq_getElem_cons hlt]
  unfold jD
  rw [if_pos (ok _ _ _ h), bQ, aD0]
  refine (step i _ acc w (bo hlt) h).mono fun s1 w1 _ q => ?_
  rw [bQ, aD0]
  refine T.mono q fun b w2 _ q2 => ?_
  cases b with
  | true =>
   simp only [af] at q2 ⊢
   rw [bQ, aD0]
   refine T.mono q2 fun y w3 _ q3 => ?_
   rw [bQ]
   refine (ih (by omega) (by omega) q3).mono fun ys w4 _ q4 => ?_
   rw [bZ]
   simpa using q4
  | false =>
   simp only [dc, ae] at q2 ⊢
   exact ih (by omega) (by omega) q2
theorem aIw {m : MI} {vs : List Nat} {g : MG} {t : MT} {e : ME} {σ : Sg} {w : W} {P : D → W → Prop} : T (a8 m vs g t e σ w) P = T (m σ w) fun it w1 => it.xs.length ≤ sizeLine ∧ T (jD it vs g t e it.xs σ w1) fun ys w2 => P (.lst ys) w2 := by
 unfold a8 aAT
 simp only [bQ, dW, bZ]
structure vR (w w' : W) (d c : Nat) : Prop where
 le : w.length ≤ w'.length
 at_ : ∀ i, i < w.length → i ≠ d → i ≠ c → w'[i]? = w[i]?
section
variable {w w1 w2 : W} {d c i : Nat} {o : MO}
theorem vR.refl : vR w w d c := ⟨az _, fun _ _ _ _ => rfl⟩
theorem vR.trans (a : vR w w1 d c) (b : vR w1 w2 d c) : vR w w2 d c := ⟨bq a.le b.le, fun i h1 h2 h3 => (b.at_ i (Nat.lt_of_lt_of_le h1 a.le) h2 h3).trans (a.at_ i h1 h2 h3)⟩
theorem Kept.refl : Kept w w d c := ⟨rfl, fun _ _ _ => rfl⟩
theorem Kept.trans (a : Kept w w1 d c) (b : Kept w1 w2 d c) : Kept w w2 d c := ⟨b.1.trans a.1, fun i h1 h2 => (b.2 i h1 h2).trans (a.2 i h1 h2)⟩
theorem Kept.obj (a : Kept w w1 d c) (h : w[i]? = some o) (h1 : i ≠ d) (h2 : i ≠ c) : w1[i]? = some o := by rw [a.2 i h1 h2]; exact h
theorem Kept.grow (k : Kept w w1 d c) : vR w w1 d c := ⟨Nat.le_of_eq k.1.symm, fun i _ h2 h3 => k.2 i h2 h3⟩
theorem vR.app {g : W} : vR w (w ++ g) d c := ⟨by simp, fun i h _ _ => by rw [bj h]⟩
theorem vR.obj (a : vR w w1 d c) (h : w[i]? = some o) (h1 : i ≠ d) (h2 : i ≠ c) : w1[i]? = some o := by rw [a.at_ i (ar.mp h).1 h1 h2]; exact h
theorem wA.lt (h : wA w d c) : d < w.length ∧ c < w.length := by
 obtain ⟨_, cells, sm, n, h1, h2, _⟩ := h
 exact ⟨(ar.mp h1).1, (ar.mp h2).1⟩
theorem wA.app {g : W} (h : wA w d c) : wA (w ++ g) d c := by
 obtain ⟨l1, l2⟩ := h.lt
 obtain ⟨hne, cells, sm, n, h1, h2, h3⟩ := h
 exact ⟨hne, cells, sm, n, by rw [bj l1]; exact h1, by rw [bj l2]; exact h2, h3⟩
theorem wA.set (h : wA w d c) (h1 : i ≠ d) (h2 : i ≠ c) : wA (w.set i o) d c := by
 obtain ⟨hne, cells, sm, n, g1, g2, g3⟩ := h
 exact ⟨hne, cells, sm, n, by rw [bu h1]; exact g1, by rw [bu h2]; exact g2, g3⟩
end
theorem atI_nat {xs : List D} {r : Int} (h0 : 0 ≤ r) (h1 : r < xs.length) : ∃ (i : Nat) (x : D), xs[i]? = some x ∧ atI xs r = some x ∧ (i : Int) = r := by
 have l : r.toNat < xs.length := by omega
 refine ⟨r.toNat, xs[r.toNat], bo l, ?_, by omega⟩
 unfold atI ixN
 rw [if_pos h0, if_pos h1]
 show xs[r.toNat]? = _
 exact bo l
section
variable {σ : Sg} {w : W} {PI : lO → W → Prop} {P : D → W → Prop}
theorem aJe {m : ME} : T (cK m σ w) PI = T (m σ w) fun d w1 => T (iterM d w1) PI := by unfold cK; simp only [bQ]
theorem IM {f : List D → W → Res lO} {ma : MA} : T (dB f ma σ w) PI = T (ma σ w) fun xs w1 => T (f xs w1) PI := by unfold dB; simp only [bQ]
theorem aKD {xs : List D} : T (iterM (.tup xs) w) PI = PI ⟨xs, always⟩ w := by unfold T; rfl
theorem aLU {xs : List D} : T (iterM (.lst xs) w) PI = PI ⟨xs, always⟩ w := by unfold T; rfl
theorem wX {n : Int} (h : 0 ≤ n) (h2 : n < 1073741824) : T (iO [.int n] w) PI = PI (fW 0 n.toNat) w := by
 simp only [iO]
 rw [if_pos (by constructor <;> omega)]
 unfold T; rfl
theorem aFX {PO : Option Int → W → Prop} : T (bS σ w) PO = PO none w := by unfold T; rfl
theorem aGK {m : ME} {PO : Option Int → W → Prop} : T (bK m σ w) PO = T (m σ w) fun d w1 => match d with
 | .int i => PO (some i) w1
 | _ => False := by
 unfold bK
 simp only [bQ]
 congr 1; funext d w1
 cases d <;> (unfold T; rfl)
theorem aMj {f : D → Option Int → Option Int → W → Res D} {a : ME} {lo hi : MO'} : T (iU f a lo hi σ w) P = T (a σ w) fun x w1 => T (lo σ w1) fun l w2 => T (hi σ w2) fun u w3 => T (f x l u w3) P := by unfold iU; simp only [bQ]
theorem oZ : ∀ ns : List Int, mW (ns.map D.int) = some ns
 | [] => rfl
 | n :: ns => by simp [mW, oZ ns]
theorem aGs {ns : List Int} {lo hi : Option Int} : ∃ ms : List Int, cutD (ns.map D.int) lo hi = ms.map D.int ∧ ms.length ≤ ns.length := by
 unfold cutD
 rw [← List.map_drop, ← List.map_take]
 exact ⟨_, rfl, by simp; omega⟩
end
def M7 (r : List Int) : D := .tup (r.map .int)
def aMK (t : Int × Int × Int) : D := .tup [.int t.1, .int t.2.1, .int t.2.2]
structure Mo where
 dO : List (List Int)
 qR : Int
 X2 : Int
 MU : Int
 bears : D
 gap : Int
 hold : Int
 takes : Bool
 aBE : List (Int × Int × Int)
 vQ : Int
def Mo.kvs (m : Mo) : List (Key × D) := [(.inr "ranks", .tup (m.dO.map M7)), (.inr "every", .int m.qR), (.inr "lost", .int m.X2), (.inr "slow", .int m.MU), (.inr "bears", m.bears), (.inr "gap", .int m.gap), (.inr "hold", .int m.hold),
 (.inr "takes", .bl m.takes), (.inr "ties", .tup (m.aBE.map aMK)), (.inr "hosts", .int m.vQ)]
structure aGH (rs : List (List Int)) (h : Nat) : Prop where
 h1 : 1 ≤ h
 h6 : h ≤ 6
 row : ∀ r ∈ rs, r.length = h ∧ ∀ x ∈ r, 1 ≤ x ∧ x ≤ 12
structure aHZ (ts : List (Int × Int × Int)) (h : Nat) : Prop where
 few : ts.length ≤ 6
 each : ∀ t ∈ ts, (0 ≤ t.1 ∧ t.1 < h) ∧ (0 ≤ t.2.1 ∧ t.2.1 ≤ 9) ∧ (1 ≤ t.2.2 ∧ t.2.2 ≤ 11)
 up : ts.Pairwise fun a b => a.1 < b.1 ∨ (a.1 = b.1 ∧ a.2.1 < b.2.1)
theorem j5 {n : Nat} {lo : Int} : (fW lo n).xs.length = n := by simp [fW]
open PySem.W (dataLe)
def l3 (t : Int × Int × Int) : List Int := [t.1, t.2.1, t.2.2]
def pairD (p : Int × Int) : D := .tup [.int p.1, .int p.2]
section
variable {σ : Sg} {w : W} {P : D → W → Prop} {PP : List (D × D) → W → Prop}
theorem ZI : T (aAl σ w) PP = PP [] w := by unfold T; rfl
theorem SD {a b : ME} {r : MP} : T (hX a b r σ w) PP = T (a σ w) fun k w1 => T (b σ w1) fun v w2 => T (r σ w2) fun ps w3 => PP ((k, v) :: ps) w3 := by unfold hX; simp only [bQ, bZ]
theorem aCN {m : MP} : T (U6 m σ w) P = T (m σ w) fun ps w1 => ∃ kvs, keyed ps = some kvs ∧ kvs.length ≤ 15 ∧ P (.ref w1.length) (w1 ++ [.dK (AM [] kvs)]) := by
 unfold U6
 simp only [bQ]
 congr 1; funext ps w1
 cases keyed ps with
 | none => simp [T]
 | some kvs => simp [dW, bZ]
end
section
variable {α β : Type} {it : lO} {vs : List Nat} {g : MG} {t : MT} {e : ME} {σ : Sg} {w : W} {P : List D → W → Prop}
theorem fD (ys : List α) (enc : α → D) (f : α → D) (hx : it.xs = ys.map enc) (hok : it.ok w)
  (h : ∀ y ∈ ys, T (g (enc y) (cQ σ vs) w) fun σ1 w1 => T (t σ1 w1) fun b w2 => b = true ∧ T (e σ1 w2) fun z w3 => z = f y ∧ w3 = w) (k : P (ys.map f) w) :
  T (jD it vs g t e it.xs σ w) P := by
 have cl := QV (it := it) (vs := vs) (g := g) (t := t) (e := e) (σ := σ) (P := P) (fun i acc w1 => w1 = w ∧ acc = (ys.take i).map f) (fun _ _ _ q => by rw [q.1]; exact hok)
  (fun i x acc w1 hi q => by
   obtain ⟨rfl, rfl⟩ := q
   rw [hx, da] at hi
   cases hy : ys[i]? with
   | none => rw [hy] at hi; cases hi
   | some y =>
    rw [hy] at hi
    cases hi
    refine (h y (cq hy)).mono fun σ1 w2 _ q => q.mono fun b w3 _ q => ?_
    obtain ⟨rfl, q⟩ := q
    rw [if_pos rfl]
    refine q.mono fun z w4 _ q => ⟨q.2, ?_⟩
    rw [List.take_add_one, hy, q.1]
    simp)
  (fun acc w1 q => by
   obtain ⟨rfl, rfl⟩ := q
   rw [hx, av, List.take_length]
   exact k) (i := 0) (acc := []) (w := w) (Nat.zero_le _) ⟨rfl, rfl⟩
 rw [dk] at cl
 exact cl.mono fun _ _ _ q => by simpa using q
theorem aFi (ys : List α) (enc : α → D) (f : α → D) (p : α → Bool) (hx : it.xs = ys.map enc) (hok : it.ok w)
  (h : ∀ y ∈ ys, T (g (enc y) (cQ σ vs) w) fun σ1 w1 => T (t σ1 w1) fun b w2 => (w2 = w ∧ b = p y) ∧ (p y = true → T (e σ1 w2) fun z w3 => z = f y ∧ w3 = w)) (k : P ((ys.filter p).map f) w) :
  T (jD it vs g t e it.xs σ w) P := by
 have cl := QV (it := it) (vs := vs) (g := g) (t := t) (e := e) (σ := σ) (P := P) (fun i acc w1 => w1 = w ∧ acc = ((ys.take i).filter p).map f) (fun _ _ _ q => by rw [q.1]; exact hok)
  (fun i x acc w1 hi q => by
   obtain ⟨rfl, rfl⟩ := q
   rw [hx, da] at hi
   cases hy : ys[i]? with
   | none => rw [hy] at hi; cases hi
   | some y =>
    rw [hy] at hi
    cases hi
    refine (h y (cq hy)).mono fun σ1 w2 _ q => q.mono fun b w3 _ q => ?_
    obtain ⟨⟨rfl, rfl⟩, q⟩ := q
    rw [List.take_add_one, hy]
    by_cases hp : p y = true
    ·rw [if_pos hp]
     refine (q hp).mono fun z w4 _ q => ⟨q.2, ?_⟩
     rw [q.1]
     simp [List.filter_append, hp]
    ·rw [if_neg hp]
     refine ⟨rfl, ?_⟩
     simp [List.filter_append, hp])
  (fun acc w1 q => by
   obtain ⟨rfl, rfl⟩ := q
   rw [hx, av, List.take_length]
   exact k) (i := 0) (acc := []) (w := w) (Nat.zero_le _) ⟨rfl, rfl⟩
 rw [dk] at cl
 exact cl.mono fun _ _ _ q => by simpa using q
theorem XU (ys : List α) (f : α → Bool) : wR (ys.map fun y => D.bl (f y)) = some (ys.map f) := by
 induction ys with
 | nil => rfl
 | cons y ys ih => simp [wR, ih]
theorem EV {P : D → W → Prop} (ys : List α) (f : α → Bool) : T (allM [.lst (ys.map fun y => .bl (f y))] w) P = P (.bl (ys.all f)) w := by
 have e : allM [.lst (ys.map fun y => .bl (f y))] w = .ok (.bl (ys.all f)) w := by
  simp only [allM, tL, Option.bind_some, XU]
  congr 2
  rw [List.all_map]
  rfl
 rw [e, bZ]
end
end Pc
namespace Lb
open PySem PySem.Spec PyProof.Rows L2 Pc
structure bE where
 eK : Addr
 aJ5 : Addr
def gC : List Str := [("thing" : Str)]
def jX (k : bE) : MS :=
 (aU (iZ (aP (gQ g6) (aA (aB 0) (aA (eC (.ty "int")) aD))) (AZ notM (aP (gQ g6) (aA (aB 0) (aA (eC (.ty "bool")) aD))))))
def gB (k : bE) : MF := bF (jX k) gC
theorem FP (x0 : D) : begin gC [x0] = [some x0] := rfl
def fE : List Str := [("thing" : Str), ("least" : Str), ("most" : Str)]
def hV (k : bE) : MS :=
 (aU (iZ (aH (gB k) 1 aM (aA (aB 0) aD)) (eCh UE UE (aB 1) (aB 0) (aB 2))))
def cE (k : bE) : MF := bF (hV k) fE
theorem BE (x0 x1 x2 : D) : begin fE [x0, x1, x2] = [some x0, some x1, some x2] := rfl
def aBP : List Str := [("plan" : Str), ("rank" : Str)]
def aB8 (k : bE) : MS :=
 (aU (aE a9 (eC (.int 2)) (aE mulM (eJ k.eK ("gap" : Str) (aB 0)) (aE nK (eC (.int 12)) (aB 1)))))
def aBJ (k : bE) : MF := bF (aB8 k) aBP
def JP : List Str := [("plan" : Str), ("lost" : Str)]
def HU (k : bE) : MS :=
 (aU (aE a9 (aE mulM (aE a9 (aB 1) (eC (.int 1))) (eJ k.eK ("every" : Str) (aB 0))) (eJ k.eK ("slow" : Str) (aB 0))))
def LA (k : bE) : MF := bF (HU k) JP
def aCj : List Str := [("plan" : Str), ("rank" : Str)]
def aCk (k : bE) : MS :=
 (aU (aE a9 (aH (LA k) 2 aM (aA (aB 0) (aA (eJ k.eK ("bears" : Str) (aB 0)) aD))) (aE mulM (eJ k.eK ("gap" : Str) (aB 0)) (aE nK (eC (.int 12)) (aB 1)))))
def OQ (k : bE) : MF := bF (aCk k) aCj
def YH : List Str := [("self" : Str)]
def aAe (k : bE) : MS :=
 (aU (aP cZ (aA (aE aY (eJ k.eK ("ranks" : Str) (aB 0)) (eC (.int 0))) aD)))
def iH (k : bE) : MF := bF (aAe k) YH
section
variable {w : W} {P : D → W → Prop} (k : bE)
theorem sz (n : Nat) (h : n ≤ 1000) : n ≤ sizeLine := by rw [sizeLine_eq]; omega
theorem P5 (x : Int) : T (gQ g6 [.int x, .ty "int"] w) P = P (.bl true) w := by unfold T; rfl
theorem aDD {a b : Int} : T (eG (.int a) (.int b) w) P = P (.bl (a == b)) w := by
 rw [nP, k7]
 simp
theorem aDw {a b : Int} : T (oX (.int a) (.int b) w) P = P (.bl (!(a == b))) w := by
 rw [LF, k7]
 simp
theorem aFD {xs : List D} : T (cZ [.tup xs] w) P = P (.int xs.length) w := by rw [aBk]; simp [JM, D.items]
theorem SJ {xs : List D} : T (cZ [.lst xs] w) P = P (.int xs.length) w := by rw [aBk]; simp [JM, D.items]
theorem aMg {xs : List D} : T (cZ [.vU xs] w) P = P (.int xs.length) w := by rw [aBk]; simp [JM, D.items]
theorem at0 {x : D} {xs : List D} : atI (x :: xs) 0 = some x := by
 unfold atI ixN
 rw [if_pos (by omega), if_pos (by simp)]
 rfl
end
section
variable {w : W} {P : D → W → Prop} (k : bE)
theorem aMe {xs ys : List D} {PI : lO → W → Prop} : T (zsM [.tup xs, .tup ys] w) PI = (xs.length = ys.length ∧ PI ⟨(xs.zip ys).map fun p => .tup [p.1, p.2], always⟩ w) := by
 simp only [zsM, AV, dW, bZ]
theorem aGJ {xs : List D} : fO (.tup xs) none (some (-1)) w = .ok (.tup xs.dropLast) w := by
 simp only [fO, Pc.cutD, HT.sIx]
 congr 2
 rw [if_pos (by omega), dk, List.dropLast_eq_take]
 congr 1
 omega
theorem aAv {xs : List D} : fO (.tup xs) (some 1) none w = .ok (.tup xs.tail) w := by
 simp only [fO, Pc.cutD, HT.sIx]
 congr 2
 rw [if_neg (by omega)]
 cases xs with
 | nil => simp
 | cons x xs => simp
theorem aLw {a : Addr} {tab : List (Str × Option D)} {z : Str} {o : Option D} (h : tab.lookup z = some o) : T (V5 a tab (.str z) (.con a) w) P = P (.bl o.isSome) w := by
 simp only [V5, af, h, bZ]
theorem aKr {a : Addr} {tab : List (Str × Option D)} {z : Str} {d : D} (h : tab.lookup z = some (some d)) : T (ZL a tab (.con a) (.str z) w) P = P d w := by
 simp only [ZL, af, h, bZ]
theorem aHg {a b : Str} (ha : PyData.strOk a = true) (hb : PyData.strOk b = true) : DX (.str a) (.str b) w = some (a == b) := by
 simp [DX, y8, D.py, D.e8, SeqAt.shaped, PyData.canLay0, PyData.depth, PyData.eqv, ha, hb]
theorem aGd {a b : Str} {r : Bool} (h : DX (.str a) (.str b) w = some r) : T (eG (.str a) (.str b) w) P = P (.bl r) w := by
 rw [nP, h]
 simp
end
section
variable {w : W} {P : D → W → Prop} {PF : Fl → W → Prop} {PI : lO → W → Prop} {σ : Sg}
theorem aDL {m : ME} : T (aAH m σ w) PI = T (m σ w) fun d w1 => T (aDt d w1) PI := by unfold aAH; simp only [bQ]
def Turn (next : Sg → W → Prop) (PF : Fl → W → Prop) : Fl → W → Prop := fun f w => match f with
 | .nx s => next s w
 | .ct s => next s w
 | .bk s => PF (.nx s) w
 | .rt d => PF (.rt d) w
open Classical in
open Classical in
structure MoB (m : Mo) (h : Nat) : Prop where
 dO : aGH m.dO h
 n1 : 1 ≤ m.dO.length
 n4 : m.dO.length ≤ 4
 qR : 1 ≤ m.qR ∧ m.qR ≤ 5
 X2 : 0 ≤ m.X2 ∧ m.X2 ≤ 3
 MU : 1 ≤ m.MU ∧ m.MU ≤ 4
 gap : 0 ≤ m.gap ∧ m.gap ≤ 3
 hold : 0 ≤ m.hold ∧ m.hold ≤ 20
 aBE : aHZ m.aBE h
 vQ : 0 ≤ m.vQ ∧ m.vQ ≤ 4
variable (k : bE)
end
section
variable {w : W} {P : D → W → Prop} {PF : Fl → W → Prop} {PI : lO → W → Prop} {σ : Sg}
theorem sl0 : (0 ≤ sizeLine) = True := eq_true (sz _ (by omega))
theorem sl1 : (0 + 1 ≤ sizeLine) = True := eq_true (sz _ (by omega))
theorem sl2 : (0 + 1 + 1 ≤ sizeLine) = True := eq_true (sz _ (by omega))
theorem sl3 : (0 + 1 + 1 + 1 ≤ sizeLine) = True := eq_true (sz _ (by omega))
theorem sl4 : (0 + 1 + 1 + 1 + 1 ≤ sizeLine) = True := eq_true (sz _ (by omega))
theorem sl5 : (0 + 1 + 1 + 1 + 1 + 1 ≤ sizeLine) = True := eq_true (sz _ (by omega))
theorem sl6 : (0 + 1 + 1 + 1 + 1 + 1 + 1 ≤ sizeLine) = True := eq_true (sz _ (by omega))
theorem sl7 : (0 + 1 + 1 + 1 + 1 + 1 + 1 + 1 ≤ sizeLine) = True := eq_true (sz _ (by omega))
theorem sl8 : (0 + 1 + 1 + 1 + 1 + 1 + 1 + 1 + 1 ≤ sizeLine) = True := eq_true (sz _ (by omega))
theorem sl9 : (0 + 1 + 1 + 1 + 1 + 1 + 1 + 1 + 1 + 1 ≤ sizeLine) = True := eq_true (sz _ (by omega))
theorem aMz : (0 + 1 + 1 + 1 + 1 + 1 + 1 + 1 + 1 + 1 + 1 ≤ sizeLine) = True := eq_true (sz _ (by omega))
theorem aMy : (0 + 1 + 1 + 1 + 1 + 1 + 1 + 1 + 1 + 1 + 1 + 1 ≤ sizeLine) = True := eq_true (sz _ (by omega))
theorem aMc : (0 + 1 + 1 + 1 + 1 + 1 + 1 + 1 + 1 + 1 + 1 + 1 + 1 ≤ sizeLine) = True := eq_true (sz _ (by omega))
variable (k : bE)
variable {k} {p : Nat} {m : Mo} {b : Int}
def tP (m : Mo) (b r : Int) : Int := (b + 1) * m.qR + m.MU + m.gap * (12 - r)
def GG (m : Mo) (r : Int) : Int := 2 + m.gap * (12 - r)
variable (k)
end
theorem hD (a b : Str) : PyData.strOk (a ++ b) = (PyData.strOk a && PyData.strOk b) := by
 show Array.all (a.cps ++ b.cps) _ = _
 unfold PyData.strOk
 rw [Array.all_append]
theorem fF (s : String) : PyData.strOk (Str.ofString s) = true := by
 rw [Str.ofString_eq_toList]
 unfold PyData.strOk
 rw [Array.all_eq_true_iff_forall_mem]
 intro c hc
 simp only [List.mem_toArray, cg] at hc
 obtain ⟨ch, _, rfl⟩ := hc
 have := ch.valid
 simp only [ai]
 have h2 : ch.toNat < 0x110000 := by
  have h3 : ch.toNat = ch.val.toNat := rfl
  rcases this with h | ⟨_, h⟩
  ·rw [h3]; exact Nat.lt_trans h (by decide)
  ·rw [h3]; exact h
 exact h2
theorem rE : ∀ (ts : List Str) (k : Nat) (acc : Str), PyData.strOk acc = true → (∀ t ∈ ts, PyData.strOk t = true) → PyData.strOk (textFrom k acc ts) = true
 | [], k, acc, h, _ => h
 | t :: ts, k, acc, h, ht => by
  unfold textFrom
  refine rE ts (k + 1) _ ?_ fun x hx => ht x (bc _ hx)
  rw [hD, hD, h, ht t (aw ..), fF]
  rfl
theorem A5 (sep : Str) (hs : PyData.strOk sep = true) : ∀ ts : List Str, (∀ t ∈ ts, PyData.strOk t = true) → PyData.strOk (Str.join sep ts) = true
 | [], _ => by show PyData.strOk Str.empty = true; decide +kernel
 | [x], h => h x (aw ..)
 | x :: y :: r, h => by
  show PyData.strOk (x ++ sep ++ Str.join sep (y :: r)) = true
  rw [hD, hD, hs, h x (aw ..), A5 sep hs (y :: r) fun t ht => h t (bc _ ht)]
  rfl
mutual
/-- data of short numbers and fine short texts, lists and tuples of such -/
def c9 : PyData → Bool
 | .none | .bool _ => true
 | .int i => decide (i.natAbs < 10 ^ 40)
 | .str x => PyData.strOk (reprText x) && PyData.strOk x && PyData.leavesShort 60 (.str x) && decide (x.length ≤ 100)
 | .list xs | .tuple xs => plainPs xs
 | .dict _ => false
def plainPs : List PyData → Bool
 | [] => true
 | x :: xs => c9 x && plainPs xs
end
mutual
theorem E6 : ∀ p : PyData, c9 p = true → PyData.strOk p.shown = true
 | .none, _ => fF _
 | .bool b, _ => by cases b <;> exact fF _
 | .int i, _ => fF _
 | .str x, h => by
  simp only [c9, ak] at h
  exact h.1.1.1
 | .list xs, h => by
  rw [c9] at h
  show PyData.strOk (textFrom 0 "[" (PyData.shownAll xs) ++ "]") = true
  rw [hD, rE _ _ _ (fF _) (plains_shown xs h), fF]
  rfl
 | .tuple xs, h => by
  rw [c9] at h
  show PyData.strOk (tupleText (PyData.shownAll xs)) = true
  unfold tupleText
  rw [hD, hD, fF, A5 _ (fF _) _ (plains_shown xs h)]
  split <;> rw [fF] <;> rfl
 | .dict _, h => by simp [c9] at h
theorem plains_shown : ∀ ps : List PyData, plainPs ps = true → ∀ t ∈ PyData.shownAll ps, PyData.strOk t = true
 | [], _, t, ht => by simp [PyData.shownAll] at ht
 | p :: ps, h, t, ht => by
  simp only [plainPs, ak] at h
  simp only [PyData.shownAll, ay] at ht
  rcases ht with rfl | ht
  ·exact E6 p h.1
  ·exact plains_shown ps h.2 t ht
end
theorem EB {i : Int} (h : i.natAbs < 10 ^ 40) : PyData.leavesShort 60 (.int i) = true := by
 have e := int_text_length_le10 (k := 40) (by decide) h
 simp only [PyData.leavesShort, ai]
 show (Str.ofString (toString i)).length ≤ 60
 rw [PySem.ofString_length]
 omega
theorem CC {i : Int} (h : i.natAbs < 10 ^ 40) : PyData.showable (.int i) = true := by
 simp only [PyData.showable, ai]
 by_cases h0 : i.natAbs = 0
 ·rw [h0]; decide
 ·rw [Nat.log2_lt h0]
  exact Nat.lt_of_lt_of_le h (by decide +kernel)
mutual
theorem plain_all : ∀ p : PyData, c9 p = true → p.leavesShort 60 = true ∧ p.showable = true ∧ p.hasDict = false ∧ p.canLay0 = true
 | .none, _ => by simp [PyData.leavesShort, PyData.showable, PyData.hasDict, PyData.canLay0]
 | .bool b, _ => by simp [PyData.leavesShort, PyData.showable, PyData.hasDict, PyData.canLay0]
 | .int i, h => by
  simp only [c9, ai] at h
  exact ⟨EB h, CC h, by simp [PyData.hasDict], by simp [PyData.canLay0]⟩
 | .str x, h => by
  simp only [c9, ak] at h
  exact ⟨h.1.2, by simp [PyData.showable], by simp [PyData.hasDict], by simp [PyData.canLay0, h.1.1.2]⟩
 | .list xs, h => by
  rw [c9] at h
  have := plains_all xs h
  simp only [PyData.leavesShort, PyData.showable, PyData.hasDict, PyData.canLay0]
  exact this
 | .tuple xs, h => by
  rw [c9] at h
  have := plains_all xs h
  simp only [PyData.leavesShort, PyData.showable, PyData.hasDict, PyData.canLay0]
  exact this
 | .dict _, h => by simp [c9] at h
theorem plains_all : ∀ p : List PyData, plainPs p = true → PyData.leavesShortAll 60 p = true ∧ PyData.showableAll p = true ∧ PyData.hasDictAll p = false ∧ PyData.canLayAll0 p = true
 | [], _ => by simp [PyData.leavesShortAll, PyData.showableAll, PyData.hasDictAll, PyData.canLayAll0]
 | p :: ps, h => by
  simp only [plainPs, ak] at h
  obtain ⟨a1, a2, a3, a4⟩ := plain_all p h.1
  obtain ⟨b1, b2, b3, b4⟩ := plains_all ps h.2
  simp only [PyData.leavesShortAll, PyData.showableAll, PyData.hasDictAll, PyData.canLayAll0, a1, a2, a3, a4, b1, b2, b3, b4]
  simp
end
section
variable {w : W} {P : D → W → Prop} {x y : D} {p q : PyData}
theorem cV {a b : Str} (ha : PyData.strOk a = true) (hb : PyData.strOk b = true) : DX (.str a) (.str b) w = some (decide (a = b)) := by
 rw [aHg ha hb]
 rfl
end
theorem KU {it : lO} {g : MG} {body : MS} {P : Fl → W → Prop} {σ : Sg} {w : W} (Inv : Nat → Sg → W → Prop) (ok : ∀ i σ w, Inv i σ w → it.ok w) (init : Inv 0 σ w)
  (step : ∀ i x σ w, it.xs[i]? = some x → Inv i σ w → T (g x σ w) fun σ1 w1 => T (body σ1 w1) (Turn (Inv (i + 1)) P)) (fin : ∀ σ w, Inv it.xs.length σ w → P (.nx σ) w) : T (forL it g body it.xs σ w) P := by
 have fl := aIA (it := it) (g := g) (body := body) (P := P) Inv ok (fun i x σ w h1 h2 => (step i x σ w h1 h2).mono fun s1 w1 _ q => q.mono fun f w2 _ q2 => by cases f <;> exact q2) fin (i := 0) (σ := σ) (w := w) (Nat.zero_le _) init
 rw [dk] at fl
 exact fl
theorem B6 {it : lO} {vs : List Nat} {g : MG} {t : MT} {e : ME} {σ : Sg} {w : W} {P : List D → W → Prop} (Inv : Nat → List D → W → Prop) (ok : ∀ i acc w, Inv i acc w → it.ok w) (init : Inv 0 [] w)
  (step : ∀ i x acc w, it.xs[i]? = some x → Inv i acc w → T (g x (cQ σ vs) w) fun σ1 w1 => T (t σ1 w1) fun b w2 => if b = true then T (e σ1 w2) fun y w3 => Inv (i + 1) (acc ++ [y]) w3 else Inv (i + 1) acc w2)
  (fin : ∀ acc w, Inv it.xs.length acc w → P acc w) : T (jD it vs g t e it.xs σ w) P := by
 have cl := QV (it := it) (vs := vs) (g := g) (t := t) (e := e) (σ := σ) (P := P) Inv ok step fin (i := 0) (acc := []) (w := w) (Nat.zero_le _) init
 rw [dk] at cl
 exact cl.mono fun _ _ _ q => by simpa using q
inductive Role where
 | rests | qX | xP
deriving DecidableEq
def Role.s : Role → Str
 | .rests => "rests"
 | .qX => "waits"
 | .xP => "serves"
structure DL where
 left : Int
 a : Int
 s : Int
 r : Int
 rank : Int
structure jO where
 living : List Int
 parts : List Int
 downs : List Int
 dO : List (List Int)
 cD : List (List (Role × Int))
 fS : List DL
 wD : List (List (List Int))
 tables : List (List Int)
 asks : List (Int × Int)
def aJP (p : Role × Int) : D := .tup [.str p.1.s, .int p.2]
def aKQ (r : List (Role × Int)) : D := .tup (r.map aJP)
def aHt (l : DL) : D := .tup [.int l.left, .int l.a, .int l.s, .int l.r, .int l.rank]
def aHR (l : List (List Int)) : D := .tup (l.map M7)
section
variable {w : W} {P : D → W → Prop} {k : bE} {p h : Nat} {m : Mo} {b : Int}
theorem lI (n : Nat) (h : n ≤ 1000000) : n ≤ sizeLine := by rw [sizeLine_eq]; omega
theorem TM (x : Str) : T (gQ g6 [.str x, .ty "str"] w) P = P (.bl true) w := by unfold T; rfl
end
section
variable {w : W} {P : D → W → Prop} {k : bE} {p h : Nat} {m : Mo} {b : Int}
theorem aE1 {xs : List D} {j : Nat} {d : D} (e : xs[j]? = some d) : atI xs (j : Int) = some d := by
 have hl := (ar.mp e).1
 unfold atI ixN
 rw [if_pos (by omega), if_pos (by omega)]
 exact e
end
section
variable {w : W} {P : D → W → Prop} {k : bE} {p h : Nat} {m : Mo} {b : Int}
def first (m : Mo) (b : Int) (h : Nat) : jO where
 living := List.replicate h 1
 parts := List.replicate (h + m.vQ.toNat) 0
 downs := []
 dO := m.dO
 cD := m.dO.map fun r => r.map fun x => (.qX, tP m b x + m.hold)
 fS := []
 wD := m.dO.map fun _ => List.replicate h (List.replicate (h + m.vQ.toNat) 0)
 tables := List.replicate m.vQ.toNat (List.replicate m.dO.length (-1))
 asks := List.replicate m.vQ.toNat (0, 0)
theorem vT {xs : List D} : T (cH [.lst xs] w) P = P (.tup xs) w := by
 have e : cH [.lst xs] w = .ok (.tup xs) w := rfl
 rw [e, bZ]
end
structure dI (n d : Nat) (x : D) : Prop where
 ex : ∃ q, (∀ f, x.e8 f = some q) ∧ c9 q = true ∧ q.bulk ≤ n ∧ q.depth ≤ d
structure fG (n d : Nat) (xs : List D) : Prop where
 ex : ∃ qs, (∀ f, D.pysR f xs = some qs) ∧ plainPs qs = true ∧ PyData.bulkAll qs ≤ n ∧ PyData.depthAll qs ≤ d
section
variable {n n' d d' : Nat} {x : D} {xs : List D}
theorem dI.mono (h : dI n d x) (h1 : n ≤ n') (h2 : d ≤ d') : dI n' d' x := by
 obtain ⟨q, a, b, c, e⟩ := h.ex
 exact ⟨q, a, b, by omega, by omega⟩
theorem dI.int {i : Int} (h : i.natAbs < 10 ^ 40) : dI 0 1 (.int i) := ⟨.int i, fun _ => rfl, by simp only [c9, ai]; exact h, by simp [PyData.bulk], by simp [PyData.depth]⟩
theorem dI.bl {b : Bool} : dI 0 1 (.bl b) := ⟨.bool b, fun _ => rfl, by simp [c9], by simp [PyData.bulk], by simp [PyData.depth]⟩
theorem dI.str {s : Str} (h : c9 (.str s) = true) : dI 100 1 (.str s) := by
 refine ⟨.str s, fun _ => rfl, h, ?_, by simp [PyData.depth]⟩
 simp only [c9, ak, ai] at h
 exact h.2
theorem fG.nil : fG 0 0 [] := ⟨[], fun _ => rfl, rfl, by simp [PyData.bulkAll], by simp [PyData.depthAll]⟩
theorem fG.cons (h : dI n d x) (t : fG n' d xs) : fG (n + 1 + n') d (x :: xs) := by
 obtain ⟨q, a1, a2, a3, a4⟩ := h.ex
 obtain ⟨qs, b1, b2, b3, b4⟩ := t.ex
 refine ⟨q :: qs, fun f => by simp [D.pysR, a1, b1], by simp [plainPs, a2, b2], by simp only [PyData.bulkAll]; omega, ?_⟩
 simp only [PyData.depthAll]
 omega
theorem fG.mono (h : fG n d xs) (h1 : n ≤ n') (h2 : d ≤ d') : fG n' d' xs := by
 obtain ⟨q, a, b, c, e⟩ := h.ex
 exact ⟨q, a, b, by omega, by omega⟩
theorem fG.all : ∀ {xs : List D}, (∀ x ∈ xs, dI n d x) → fG (xs.length * (n + 1)) d xs
 | [], _ => fG.nil.mono (Nat.zero_le _) (Nat.zero_le _)
 | x :: xs, h => by
  refine (fG.cons (h x (aw ..)) (fG.all fun y hy => h y (bc _ hy))).mono ?_ (az _)
  rw [bg, Nat.succ_mul]
  omega
theorem dI.tup (h : fG n d xs) : dI n (d + 1) (.tup xs) := by
 obtain ⟨qs, b1, b2, b3, b4⟩ := h.ex
 refine ⟨.tuple qs, fun f => by simp [D.e8, b1], by rw [c9]; exact b2, by rw [PyData.bulk]; exact b3, by rw [PyData.depth]; omega⟩
theorem dI.lst (h : fG n d xs) : dI n (d + 1) (.lst xs) := by
 obtain ⟨qs, b1, b2, b3, b4⟩ := h.ex
 refine ⟨.list qs, fun f => by simp [D.e8, b1], by rw [c9]; exact b2, by rw [PyData.bulk]; exact b3, by rw [PyData.depth]; omega⟩
theorem dI.aIh {c : Nat} (h : ∀ x ∈ xs, dI n d x) (hl : xs.length ≤ c) : dI (c * (n + 1)) (d + 1) (.tup xs) :=
 (dI.tup (fG.all h)).mono (dw _ hl) (az _)
theorem dI.row {xs : List Int} {c : Nat} (h : ∀ x ∈ xs, x.natAbs < 10 ^ 40) (hl : xs.length ≤ c) : dI c 2 (M7 xs) := by
 refine (dI.aIh (n := 0) (d := 1) (c := c) (fun y hy => ?_) (by rw [av]; exact hl)).mono (by omega) (az _)
 obtain ⟨x, hx, rfl⟩ := cg.mp hy
 exact dI.int (h x hx)
theorem dI.role (r : Role) : dI 100 1 (.str r.s) := dI.str (by cases r <;> decide +kernel)
end
def zZ := And.intro @dM (And.intro @A7 (And.intro @aGf (And.intro @aKj (And.intro @aJY (And.intro @aK4 (And.intro @aJi (And.intro @U8 (And.intro @aI9 (And.intro @aH3 (And.intro @aIV (And.intro @aIL (And.intro @aF7 (And.intro @aIi (And.intro @aHh (And.intro @T_C (And.intro @T_V (And.intro @aKi (And.intro @aMG (And.intro @aKO (And.intro @aMx (And.intro @aMT (And.intro @IP (And.intro @BP (And.intro @aLv (And.intro @aLf (And.intro @aLm (And.intro @aLc (And.intro @aIK (And.intro @aH1 (And.intro @aFG (And.intro @aIe (And.intro @aKN (And.intro @aMJ (And.intro @aLR (And.intro @aKV (And.intro @aJm (And.intro @aJv (And.intro @aKF (And.intro @aG6 (And.intro @A2 (And.intro @aKb (And.intro @UR (And.intro @N1 (And.intro @LQ (And.intro @aKT (And.intro @aMo (And.intro @aMA (And.intro @aMQ (And.intro @aKX (And.intro @WM (And.intro @aKc (And.intro @VC (And.intro @aDg (And.intro @aLI (And.intro @aJg (And.intro @aIW (And.intro @aI0 (And.intro @bZ (And.intro @aIw (And.intro @aJe (And.intro @IM (And.intro @aMj (And.intro @aFX (And.intro @aGK (And.intro @US (And.intro @DR (And.intro @aJb (And.intro @aKD (And.intro @aLU (And.intro @aKk (And.intro @aHE (And.intro @aK7 (And.intro @aEt (And.intro @sl0 (And.intro @sl1 (And.intro @sl2 (And.intro @sl3 (And.intro @sl4 (And.intro @sl5 (And.intro @sl6 (And.intro @sl7 (And.intro @sl8 (And.intro @sl9 (And.intro @aMz (And.intro @aMy (And.intro @aMc (And.intro @aCN (And.intro @SD (And.intro @ZI (And.intro @aFD (And.intro @SJ (And.intro @aMg (And.intro @aDD (And.intro @aDw (@aDL)))))))))))))))))))))))))))))))))))))))))))))))))))))))))))))))))))))))))))))))))))))))))))))))
theorem aFU {xs ys : List D} : aM xs ys = xs := rfl
def zY := And.intro zZ (And.intro @List.getElem?_cons_zero.{0} (And.intro @List.getElem?_cons_succ.{0} (And.intro @List.set_cons_zero.{0} (And.intro @List.set_cons_succ.{0} (And.intro @bg.{0} (And.intro @cw.{0} (And.intro @aFU (And.intro @true_and (And.intro @and_true (And.intro @dc (And.intro @cb (And.intro @ck (And.intro @Bool.true_eq_false (And.intro @bx.{1} @aj.{0}))))))))))))))
def oB : Nat → D → Bool
 | 0, _ => false
 | _ + 1, .non => true
 | _ + 1, .bl _ => true
 | _ + 1, .int i => decide (i ≤ 100000000000000000000000000000000000000000000000000)
 | _ + 1, .str x => PyData.strOk x
 | n + 1, .tup xs => xs.all (oB n) && decide (xs.length ≤ 70000)
 | n + 1, .lst xs => xs.all (oB n) && decide (xs.length ≤ 70000)
 | n + 1, .EZ ks vs => (ks.all (oB n) && vs.all (oB n)) && decide (ks.length ≤ 15)
 | _ + 1, _ => false
def isInt : D → Bool
 | .int _ => true
 | _ => false
def rB (lo hi : Int) : D → Bool
 | .int i => decide (lo ≤ i) && decide (i ≤ hi)
 | _ => false
def sD : D → Bool
 | .tup _ => true
 | _ => false
def D9 : D → Bool
 | .str _ => true
 | _ => false
section
variable {w : W} {P : D → W → Prop} {k : bE} {p h n : Nat} {m : Mo} {b : Int} {d : D}
theorem yZ {xs : List D} (e : oB (n + 1) (.tup xs) = true) : (∀ x ∈ xs, oB n x = true) ∧ xs.length ≤ 70000 := by
 simp only [oB, ak, au, ai] at e
 exact e
theorem aLj (e : oB n d = true) : T (gQ g6 [d, .ty "int"] w) P = P (.bl (match d with | .int _ => true | .bl _ => true | _ => false)) w := by
 cases n with
 | zero => simp [oB] at e
 | succ n => cases d <;> first | (simp [oB] at e; done) | (unfold T; rfl)
theorem aIs (e : oB n d = true) : T (gQ g6 [d, .ty "bool"] w) P = P (.bl (match d with | .bl _ => true | _ => false)) w := by
 cases n with
 | zero => simp [oB] at e
 | succ n => cases d <;> first | (simp [oB] at e; done) | (unfold T; rfl)
theorem U1 (e : oB n d = true) : T (gQ g6 [d, .ty "tuple"] w) P = P (.bl (sD d)) w := by
 cases n with
 | zero => simp [oB] at e
 | succ n => cases d <;> first | (simp [oB] at e; done) | (unfold T; rfl)
theorem aDZ (e : oB n d = true) : T (gQ g6 [d, .ty "str"] w) P = P (.bl (D9 d)) w := by
 cases n with
 | zero => simp [oB] at e
 | succ n => cases d <;> first | (simp [oB] at e; done) | (unfold T; rfl)
theorem aHd (e : oB n d = true) : T (gB k [d] w) P = P (.bl (isInt d)) w := by
 unfold gB jX
 rw [dM, FP]
 simp only [aLj e, aIs e, zY, af, ae, reduceCtorEq]
 cases d <;> simp [isInt]
theorem aE6 (lo hi : Int) (e : oB n d = true) : T (cE k [d, .int lo, .int hi] w) P = P (.bl (rB lo hi d)) w := by
 unfold cE hV
 rw [dM, BE]
 simp only [aHd e, zY, af, ae, reduceCtorEq]
 cases d <;> simp only [isInt, rB, zY, af, ae, reduceCtorEq]
 rename_i i
 by_cases h : lo ≤ i <;> simp [h]
end
section
variable {w : W} {P : D → W → Prop} {k : bE} {p h n : Nat} {m : Mo} {b : Int} {d : D}
def lJ (ls : List D) : List D := (List.range ls.length).zipWith (fun i x => D.tup [.int (i : Nat), x]) ls
end
theorem QU {f : Nat → Option PyData} : ∀ {xs : List D} {ps : List PyData}, D.pysR f xs = some ps → ps.length = xs.length
 | [], ps, h => by simp only [D.pysR, aj] at h; subst h; rfl
 | x :: xs, ps, h => by
  simp only [D.pysR] at h
  split at h
  ·rename_i p ps' e1 e2
   cases h
   simp [QU e2]
  ·cases h
theorem KZ {w : W} {ys : List D} : DX (.lst ys) (.lst []) w = some ys.isEmpty := by
 unfold DX
 cases h : y8 (.lst ys) (.lst []) w with
 | none => rfl
 | some b =>
  unfold y8 at h
  have e2 : D.py w (.lst []) = some (.list []) := rfl
  rw [e2] at h
  split at h
  ·rename_i p q e3 e4
   cases e4
   split at h
   ·cases h
    unfold D.py D.e8 at e3
    obtain ⟨ps, q1, rfl⟩ := aq.mp e3
    have hl := QU q1
    cases ys with
    | nil => cases ps with
     | nil => rfl
     | cons => simp at hl
    | cons y ys => cases ps with
     | nil => simp at hl
     | cons => rfl
   ·cases h
  ·cases h
theorem yJ {w : W} {ys : List D} : DX (.tup ys) (.tup []) w = some ys.isEmpty := by
 unfold DX
 cases h : y8 (.tup ys) (.tup []) w with
 | none => rfl
 | some b =>
  unfold y8 at h
  have e2 : D.py w (.tup []) = some (.tuple []) := rfl
  rw [e2] at h
  split at h
  ·rename_i p q e3 e4
   cases e4
   split at h
   ·cases h
    unfold D.py D.e8 at e3
    obtain ⟨ps, q1, rfl⟩ := aq.mp e3
    have hl := QU q1
    cases ys with
    | nil => cases ps with
     | nil => rfl
     | cons => simp at hl
    | cons y ys => cases ps with
     | nil => simp at hl
     | cons => rfl
   ·cases h
  ·cases h
section
variable {w : W} {P : D → W → Prop} {k : bE} {p h n i : Nat} {m : Mo} {b : Int} {d : D}
theorem aA6 {ys : List D} (h : ∀ y ∈ ys, oB n y = true) (hn : n ≤ 60) : DX (.lst ys) (.lst []) w = some ys.isEmpty := KZ
theorem ne_nil {ys : List D} (h : ∀ y ∈ ys, oB n y = true) (hn : n ≤ 60) : T (oX (.lst ys) (.lst []) w) P = P (.bl (!ys.isEmpty)) w := by
 rw [LF, aA6 h hn]
 simp
theorem eq_nil {ys : List D} (h : ∀ y ∈ ys, oB n y = true) (hn : n ≤ 60) : T (eG (.lst ys) (.lst []) w) P = P (.bl ys.isEmpty) w := by
 rw [nP, aA6 h hn]
 simp
end
section
variable {w : W} {P : D → W → Prop} {k : bE} {p h n i : Nat} {m : Mo} {b : Int} {d : D}
theorem aCL : ∀ {ds : List Int}, ((ds.dropLast.zip ds.tail).all fun q => decide (q.1 < q.2)) = decide (ds = fV ds) := by
 intro ds
 have pw : ∀ ds : List Int, ((ds.dropLast.zip ds.tail).all fun q => decide (q.1 < q.2)) = true ↔ ds.Pairwise (· < ·) := by
  intro ds
  induction ds with
  | nil => simp
  | cons a ds ih =>
   cases ds with
   | nil => simp
   | cons c ds =>
    simp only [List.dropLast_cons₂, List.tail_cons, List.zip_cons_cons, List.all_cons, ak, ai]
    have ih' : ((c :: ds).dropLast.zip ds).all (fun q => decide (q.1 < q.2)) = true ↔ (c :: ds).Pairwise (· < ·) := ih
    rw [ih']
    constructor
    ·rintro ⟨h1, h2⟩
     refine List.pairwise_cons.mpr ⟨fun y hy => ?_, h2⟩
     rcases ay.mp hy with rfl | hy
     ·exact h1
     ·have := (List.pairwise_cons.mp h2).1 y hy
      omega
    ·intro h
     obtain ⟨h1, h2⟩ := List.pairwise_cons.mp h
     exact ⟨h1 c (aw ..), h2⟩
 rw [Bool.eq_iff_iff, pw, ai]
 constructor
 ·intro h
  exact yV h kA fun k => lS.symm
 ·intro h
  rw [h]
  exact kA
end
section
variable {w : W} {P : D → W → Prop} {k : bE} {p h n i : Nat} {m : Mo} {b : Int} {d : D}
theorem oZ : ∀ {l : List Int}, mW (l.map D.int) = some l
 | [] => rfl
 | a :: l => by simp [mW, oZ (l := l)]
end
theorem uR {it : lO} {vs : List Nat} {g : MG} {t : MT} {e : ME} {σ : Sg} {w : W} {P : List D → W → Prop} (F : D → Prop) (hok : ∀ w, it.ok w) (hd : wA w 1 0)
  (step : ∀ (j : Nat) (x : D) (w' : W), it.xs[j]? = some x → wA w' 1 0 → Pc.Kept w w' 1 0 → T (g x (cQ σ vs) w') fun σ1 w1 => T (t σ1 w1) fun b w2 => (wA w2 1 0 ∧ Pc.Kept w w2 1 0) ∧ (b = true → T (e σ1 w2) fun y w3 => F y ∧ wA w3 1 0 ∧ Pc.Kept w w3 1 0))
  (fin : ∀ ys w', (∀ y ∈ ys, F y) → ys.length ≤ it.xs.length → wA w' 1 0 → Pc.Kept w w' 1 0 → P ys w') : T (jD it vs g t e it.xs σ w) P := by
 refine B6 (fun j acc w' => (∀ y ∈ acc, F y) ∧ acc.length ≤ j ∧ wA w' 1 0 ∧ Pc.Kept w w' 1 0) (fun _ _ w' _ => hok w') ⟨by simp, by simp, hd, .refl⟩ (fun j x acc w' hx ⟨h1, h2, h3, h4⟩ => ?_) fun acc w' ⟨h1, h2, h3, h4⟩ => fin acc w' h1 h2 h3 h4
 refine (step j x w' hx h3 h4).mono fun σ1 w1 _ q => q.mono fun b w2 _ q => ?_
 obtain ⟨⟨q1, q2⟩, q⟩ := q
 by_cases hb : b = true
 ·rw [if_pos hb]
  refine (q hb).mono fun y w3 _ q => ⟨fun z hz => ?_, by simp; omega, q.2.1, q.2.2⟩
  rcases bh.mp hz with hz | hz
  ·exact h1 z hz
  ·simp at hz; subst hz; exact q.1
 ·rw [if_neg hb]
  exact ⟨h1, by omega, q1, q2⟩
theorem UJ {k : Int} : ∀ {xs : List Int}, (EG k xs).length ≤ xs.length + 1
 | [] => by simp [EG]
 | x :: xs => by
  unfold EG
  split
  ·simp
  ·split
   ·simp
   ·have := UJ (k := k) (xs := xs)
    simp only [bg]; omega
theorem NZ : ∀ {xs : List Int}, (fV xs).length ≤ xs.length
 | [] => az _
 | x :: xs => by
  have e : fV (x :: xs) = EG x (fV xs) := rfl
  have h1 := NZ (xs := xs)
  have h2 := UJ (k := x) (xs := fV xs)
  rw [e, bg]; omega
def aBy : List (Str × Option D) := [(("fall" : Str), some (.int 1)), (("stop" : Str), some (.int 1)), (("rise" : Str), some (.int 1)), (("down" : Str), some (.int 1)), (("up" : Str), some (.int 1)), (("rank" : Str), some (.int 3)), (("tear" : Str), some (.int 2)), (("heal" : Str), some (.int 0)), (("ask" : Str), some (.int 2))]
def MQ : List Str := [("plan" : Str), ("state" : Str), ("host" : Str), ("address" : Str), ("told" : Str)]
def NQ (k : bE) : MS :=
 (aJ (aO (aE aY (aE aY (aE aY (aB 1) (eC (.int 7))) (aB 2)) (aB 3)) (aQ 4))
 (aJ (dH (iB (aV (aE TV (aB 4) (eC (.int 0)))) (aV (aE oX (aE aY (aE aY (aB 1) (eC (.int 1))) (aB 4)) (aE aY (aE aY (aB 1) (eC (.int 1))) (aE a9 (aP (T4 k.eK (iH k)) (aA (aB 0) aD)) (aB 2)))))) (aU (eC (.bl false))) aZ)
 (aU (aE eG (aE aY (aE aY (aE aY (aE aY (aB 1) (eC (.int 4))) (aB 3)) (aB 4)) (eC (.int 0))) (eC (.str ("serves" : Str)))))))
def NN (k : bE) : MF := bF (NQ k) MQ
def aKw : List Str := [("row" : Str), ("at" : Str), ("thing" : Str)]
def aKL (k : bE) : MS :=
 (aU (aE a9 (aE a9 (iU fO (aB 0) bS (bK (aB 1))) (bH (aA (aB 2) aD))) (iU fO (aB 0) (bK (aE a9 (aB 1) (eC (.int 1)))) bS)))
def pT (k : bE) : MF := bF (aKL k) aKw
def Z2 : List Str := [("plan" : Str), ("state" : Str), ("host" : Str), ("address" : Str), ("many" : Str), ("dropped" : Str), ("told" : Str)]
def ZA (k : bE) : MS :=
 (aJ (aO (aE aY (aE aY (aB 1) (eC (.int 8))) (aB 2)) (bV 2 (aI (aQ 4) (aI (aQ 5) bO))))
 (aJ (aO (bH (aA (aE a9 (aB 4) (eC (.int 1))) (aA (aE a9 (aB 5) (aP MY (aA (AZ notM (aH (NN k) 4 aM (aA (aB 0) (aA (aB 1) (aA (aB 2) (aA (aB 3) aD)))))) aD))) aD))) (aQ 6))
 (aU (aH (pT k) 3 aM (aA (aB 1) (aA (eC (.int 8)) (aA (aH (pT k) 3 aM (aA (aE aY (aB 1) (eC (.int 8))) (aA (aB 2) (aA (aB 6) aD)))) aD)))))))
def YG (k : bE) : MF := bF (ZA k) Z2
def D2 : List Str := [("plan" : Str)]
def D1 (k : bE) : MS :=
 (aU (aP cZ (aA (eJ k.eK ("ranks" : Str) (aB 0)) aD)))
def eQ (k : bE) : MF := bF (D1 k) D2
def XM : List Str := [("state" : Str), ("house" : Str), ("lives" : Str)]
def XJ (k : bE) : MS :=
 (aU (aH (pT k) 3 aM (aA (aB 0) (aA (eC (.int 0)) (aA (aH (pT k) 3 aM (aA (aE aY (aB 0) (eC (.int 0))) (aA (aB 1) (aA (aB 2) aD)))) aD)))))
def E2 (k : bE) : MF := bF (XJ k) XM
def ND : List Str := [("state" : Str), ("house" : Str), ("stands" : Str), ("rows" : Str), ("row" : Str), ("stand" : Str)]
def NH (k : bE) : MS :=
 (aJ (aO (aP cH (aA (a8 (dB zmM (aA (aE aY (aB 0) (eC (.int 4))) (aA (aB 2) aD))) [4, 5] (bV 2 (aI (aQ 4) (aI (aQ 5) bO))) bA (aH (pT k) 3 aM (aA (aB 4) (aA (aB 1) (aA (aB 5) aD))))) aD)) (aQ 3))
 (aU (aH (pT k) 3 aM (aA (aB 0) (aA (eC (.int 4)) (aA (aB 3) aD))))))
def zL (k : bE) : MF := bF (NH k) ND
def aEU : List Str := [("plan" : Str), ("state" : Str), ("house" : Str)]
def aEP (k : bE) : MS :=
 (aU (aH (zL k) 3 aM (aA (aH (E2 k) 3 aM (aA (aB 1) (aA (aB 2) (aA (eC (.int 0)) aD)))) (aA (aB 2) (aA (aE mulM (dQ (aA (bH (aA (eC (.str ("rests" : Str))) (aA (eC (.int 0)) aD))) aD)) (aH (eQ k) 1 aM (aA (aB 0) aD))) aD)))))
def T6 (k : bE) : MF := bF (aEP k) aEU
def aAg : List Str := [("plan" : Str), ("state" : Str), ("address" : Str), ("house" : Str), ("downs" : Str), ("ranks" : Str), ("taken" : Str), ("one" : Str), ("tie" : Str), ("less" : Str)]
def ZS (k : bE) : MS :=
 (aJ (aO (bH (aA (aE aY (aB 1) (eC (.int 2))) (aA (aE aY (aB 1) (eC (.int 3))) aD))) (bV 2 (aI (aQ 4) (aI (aQ 5) bO))))
 (aJ (aO (aP XN (aA (a8 (cK (eJ k.eK ("ties" : Str) (aB 0))) [7, 8, 9] (bV 3 (aI (aQ 7) (aI (aQ 8) (aI (aQ 9) bO)))) (fU (aV (aE eG (aB 7) (aB 3))) (aV (aE L7 (aB 8) (aB 4)))) (aB 9)) aD)) (aQ 6))
 (aU (aP max2 (aA (eC (.int 1)) (aA (aE nK (aE aY (aE aY (aB 5) (aB 2)) (aB 3)) (aB 6)) aD))))))
def pW (k : bE) : MF := bF (ZS k) aAg
def M4 : List Str := [("plan" : Str), ("state" : Str), ("address" : Str), ("house" : Str)]
def NA (k : bE) : MS :=
 (aU (aE a9 (aH (OQ k) 2 aM (aA (aB 0) (aA (aH (pW k) 4 aM (aA (aB 0) (aA (aB 1) (aA (aB 2) (aA (aB 3) aD))))) aD))) (eJ k.eK ("hold" : Str) (aB 0))))
def sF (k : bE) : MF := bF (NA k) M4
def ML : List Str := [("plan" : Str), ("ahead" : Str), ("state" : Str), ("address" : Str), ("house" : Str), ("role" : Str), ("clock" : Str), ("row" : Str)]
def MZ (k : bE) : MS :=
 (aJ (g9 (dB iO (aA (aH (eQ k) 1 aM (aA (aB 0) aD)) aD)) (aQ 3) (g9 (dB iO (aA (aP (T4 k.eK (iH k)) (aA (aB 0) aD)) aD)) (aQ 4) (aJ (aO (aE aY (aE aY (aE aY (aB 2) (eC (.int 4))) (aB 3)) (aB 4)) (bV 2 (aI (aQ 5) (aI (aQ 6) bO))))
 (dH (fU (aV (aE eG (aB 5) (eC (.str ("waits" : Str))))) (aV (aE gtM (aH (pW k) 4 aM (aA (aB 0) (aA (aB 2) (aA (aB 3) (aA (aB 4) aD))))) (aH (pW k) 4 aM (aA (aB 0) (aA (aB 1) (aA (aB 3) (aA (aB 4) aD)))))))) (aJ (aO (aP max2 (aA (aB 6) (aA (aH (sF k) 4 aM (aA (aB 0) (aA (aB 2) (aA (aB 3) (aA (aB 4) aD))))) aD))) (aQ 6))
 (aJ (aO (aH (pT k) 3 aM (aA (aE aY (aE aY (aB 2) (eC (.int 4))) (aB 3)) (aA (aB 4) (aA (bH (aA (aB 5) (aA (aB 6) aD))) aD)))) (aQ 7))
 (aO (aH (pT k) 3 aM (aA (aB 2) (aA (eC (.int 4)) (aA (aH (pT k) 3 aM (aA (aE aY (aB 2) (eC (.int 4))) (aA (aB 3) (aA (aB 7) aD)))) aD)))) (aQ 2)))) aZ))))
 (aU (aB 2)))
def sA (k : bE) : MF := bF (MZ k) ML
def aGX : List Str := [("plan" : Str), ("state" : Str), ("house" : Str), ("stands" : Str), ("address" : Str)]
def aGq (k : bE) : MS :=
 (aJ (aO (a8 (dB iO (aA (aH (eQ k) 1 aM (aA (aB 0) aD)) aD)) [4] (aQ 4) bA (bH (aA (eC (.str ("waits" : Str))) (aA (aH (sF k) 4 aM (aA (aB 0) (aA (aB 1) (aA (aB 4) (aA (aB 2) aD))))) aD)))) (aQ 3))
 (aU (aH (zL k) 3 aM (aA (aH (E2 k) 3 aM (aA (aB 1) (aA (aB 2) (aA (eC (.int 1)) aD)))) (aA (aB 2) (aA (aB 3) aD))))))
def aGu (k : bE) : MF := bF (aGq k) aGX
def ZT : List Str := [("lacks" : Str), ("sent" : Str), ("fates" : Str), ("found" : Str), ("address" : Str), ("sender" : Str), ("receiver" : Str), ("rank" : Str), ("lost" : Str), ("rows" : Str), ("own" : Str), ("houses" : Str), ("row" : Str), ("many" : Str)]
def Z7 (k : bE) : MS :=
 (aJ (aO TJ (aQ 3))
 (aJ (g9 (cK (aB 1)) (bV 4 (aI (aQ 4) (aI (aQ 5) (aI (aQ 6) (aI (aQ 7) bO))))) (aJ (aO (aE eG (bB "dict" getM (aB 2) (aA (bH (aA (aB 4) (aA (aB 5) (aA (aB 6) aD)))) (aA (eC (.int 1)) aD))) (eC (.int 0))) (aQ 8))
 (aO (sQ (dS (aB 8)) (aE a9 (aE aY (aE aY (aE aY (aB 0) (aB 4)) (aB 5)) (aB 6)) (eC (.int 1))) (eC (.int 0))) (eM (aB 3) (bH (aA (aB 4) (aA (aB 5) (aA (aB 6) aD))))))))
 (aJ (dH (aV (aE eqE (aB 3) TJ)) (aU (aB 0)) aZ)
 (aJ (aO (eNew aD) (aQ 9))
 (aJ (g9 (dB LY (aA (aB 0) aD)) (bV 2 (aI (aQ 4) (aI (aQ 10) bO))) (aJ (aO (eNew aD) (aQ 11))
 (aJ (g9 (dB LY (aA (aB 10) aD)) (bV 2 (aI (aQ 5) (aI (aQ 12) bO))) (cR (bB "list" cJ (aB 11) (aA (aP cH (aA (a8 (dB LY (aA (aB 12) aD)) [6, 13] (bV 2 (aI (aQ 6) (aI (aQ 13) bO))) bA (bB "dict" getM (aB 3) (aA (bH (aA (aB 4) (aA (aB 5) (aA (aB 6) aD)))) (aA (aB 13) aD)))) aD)) aD))))
 (cR (bB "list" cJ (aB 9) (aA (aP cH (aA (aB 11) aD)) aD))))))
 (aU (aP cH (aA (aB 9) aD))))))))
def IY (k : bE) : MF := bF (Z7 k) ZT
def QD : List Str := [("sent" : Str), ("fates" : Str), ("found" : Str), ("address" : Str), ("sender" : Str), ("receiver" : Str), ("rank" : Str), ("fate" : Str)]
def QS (k : bE) : MS :=
 (aJ (aO (eNew aD) (aQ 2))
 (aJ (g9 (cK (aB 0)) (bV 4 (aI (aQ 3) (aI (aQ 4) (aI (aQ 5) (aI (aQ 6) bO))))) (aJ (aO (bB "dict" getM (aB 1) (aA (bH (aA (aB 3) (aA (aB 4) (aA (aB 5) aD)))) (aA (eC (.int 1)) aD))) (aQ 7))
 (dH (aV (aE gtM (aB 7) (eC (.int 0)))) (cR (bB "list" cJ (aB 2) (aA (bH (aA (aB 7) (aA (aB 3) (aA (aB 4) (aA (aB 5) (aA (aB 6) aD)))))) aD))) aZ)))
 (aU (aP cH (aA (aB 2) aD)))))
def A3 (k : bE) : MF := bF (QS k) QD
def IZ : List Str := [("plan" : Str), ("state" : Str), ("house" : Str), ("living" : Str), ("parts" : Str), ("found" : Str), ("receiver" : Str), ("part" : Str)]
def IB (k : bE) : MS :=
 (aJ (aDo 3 4 (aA (aE aY (aB 1) (eC (.int 0))) (aA (aE aY (aB 1) (eC (.int 1))) aD)))
 (aJ (aO (eNew aD) (aQ 5))
 (aJ (g9 (dB LY (aA (aB 4) aD)) (bV 2 (aI (aQ 6) (aI (aQ 7) bO))) (dH (fU (aV (aE oX (aB 6) (aB 2))) (fU (aV (aE eG (aB 7) (aE aY (aB 4) (aB 2)))) (iB (aV (aE geM (aB 6) (aP (T4 k.eK (iH k)) (aA (aB 0) aD)))) (aV (aE eG (aE aY (aB 3) (aB 6)) (eC (.int 1))))))) (cR (bB "list" cJ (aB 5) (aA (aB 6) aD))) aZ))
 (aU (aP cH (aA (aB 5) aD))))))
def x6 (k : bE) : MF := bF (IB k) IZ
def J9 : List Str := [("plan" : Str), ("state" : Str), ("address" : Str), ("house" : Str), ("rank" : Str), ("fates" : Str), ("sent" : Str), ("letters" : Str), ("receiver" : Str)]
def LB (k : bE) : MS :=
 (aJ (aO (a8 (cK (aH (x6 k) 3 aM (aA (aB 0) (aA (aB 1) (aA (aB 3) aD))))) [8] (aQ 8) bA (bH (aA (aB 2) (aA (aB 3) (aA (aB 8) (aA (aB 4) aD)))))) (aQ 6))
 (aJ (aO (aE a9 (aE aY (aB 1) (eC (.int 5))) (aH (A3 k) 2 aM (aA (aB 6) (aA (aB 5) aD)))) (aQ 7))
 (aU (aE a9 (aE a9 (iU fO (aB 1) bS (bK (eC (.int 5)))) (bH (aA (aB 7) (aA (aH (IY k) 3 aM (aA (aE aY (aB 1) (eC (.int 6))) (aA (aB 6) (aA (aB 5) aD)))) aD)))) (iU fO (aB 1) (bK (aE a9 (eC (.int 6)) (eC (.int 1)))) bS)))))
def HZ (k : bE) : MF := bF (LB k) J9
def aBO : List Str := [("plan" : Str), ("state" : Str), ("house" : Str), ("fates" : Str), ("address" : Str), ("row" : Str)]
def aBv (k : bE) : MS :=
 (aJ (g9 (dB LY (aA (aE aY (aB 1) (eC (.int 4))) aD)) (bV 2 (aI (aQ 4) (aI (aQ 5) bO))) (dH (aV (aE eG (aE aY (aE aY (aB 5) (aB 2)) (eC (.int 0))) (eC (.str ("serves" : Str))))) (aO (aH (HZ k) 6 aM (aA (aB 0) (aA (aB 1) (aA (aB 4) (aA (aB 2) (aA (eC (.int 0)) (aA (aB 3) aD))))))) (aQ 1)) aZ))
 (aU (aH (T6 k) 3 aM (aA (aB 0) (aA (aB 1) (aA (aB 2) aD))))))
def aBW (k : bE) : MF := bF (aBv k) aBO
def WY : List Str := [("plan" : Str), ("state" : Str), ("houses" : Str), ("hosts" : Str), ("there" : Str), ("host" : Str), ("place" : Str)]
def U5 (k : bE) : MS :=
 (aJ (aO (aE a9 (aB 2) (aP cH (aA (a8 (cK (aB 3)) [5] (aQ 5) bA (aE a9 (aP (T4 k.eK (iH k)) (aA (aB 0) aD)) (aB 5))) aD))) (aQ 4))
 (aU (aH (pT k) 3 aM (aA (aB 1) (aA (eC (.int 1)) (aA (aP cH (aA (a8 (dB iO (aA (aP cZ (aA (aE aY (aB 1) (eC (.int 1))) aD)) aD)) [6] (aQ 6) bA (aP MY (aA (aE L7 (aB 6) (aB 4)) aD))) aD)) aD))))))
def FY (k : bE) : MF := bF (U5 k) WY
def W0 : List Str := [("plan" : Str), ("state" : Str), ("deed" : Str), ("fates" : Str), ("word" : Str), ("rest" : Str), ("downs" : Str), ("address" : Str), ("house" : Str), ("rank" : Str), ("ranks" : Str), ("tie" : Str)]
def V6 (k : bE) : MS :=
 (aJ (aO (aB 2) (zJ 1 (aI (aQ 4) (aI (aQ 5) bO))))
 (aJ (dH (aV (aE eG (aB 4) (eC (.str ("fall" : Str))))) (aU (aH (T6 k) 3 aM (aA (aB 0) (aA (aB 1) (aA (aE aY (aB 5) (eC (.int 0))) aD))))) aZ)
 (aJ (dH (aV (aE eG (aB 4) (eC (.str ("stop" : Str))))) (aU (aH (aBW k) 4 aM (aA (aB 0) (aA (aB 1) (aA (aE aY (aB 5) (eC (.int 0))) (aA (aB 3) aD)))))) aZ)
 (aJ (dH (aV (aE eG (aB 4) (eC (.str ("rise" : Str))))) (aU (aH (aGu k) 3 aM (aA (aB 0) (aA (aB 1) (aA (aE aY (aB 5) (eC (.int 0))) aD))))) aZ)
 (aJ (dH (aV (aE eG (aB 4) (eC (.str ("down" : Str))))) (aU (aH (sA k) 3 aM (aA (aB 0) (aA (aB 1) (aA (aH (pT k) 3 aM (aA (aB 1) (aA (eC (.int 2)) (aA (aP cH (aA (aP aGM (aA (aE a9 (aE aY (aB 1) (eC (.int 2))) (bH (aA (aE aY (aB 5) (eC (.int 0))) aD))) aD)) aD)) aD)))) aD))))) aZ)
 (aJ (dH (aV (aE eG (aB 4) (eC (.str ("up" : Str))))) (aJ (aO (aP cH (aA (a8 (cK (aE aY (aB 1) (eC (.int 2)))) [11] (aQ 11) (aV (aE oX (aB 11) (aE aY (aB 5) (eC (.int 0))))) (aB 11)) aD)) (aQ 6))
 (aU (aH (sA k) 3 aM (aA (aB 0) (aA (aB 1) (aA (aH (pT k) 3 aM (aA (aB 1) (aA (eC (.int 2)) (aA (aB 6) aD)))) aD)))))) aZ)
 (aJ (dH (aV (aE eG (aB 4) (eC (.str ("rank" : Str))))) (aJ (aO (aB 5) (aHB 3 (aI (aQ 7) (aI (aQ 8) (aI (aQ 9) bO)))))
 (aJ (aO (aH (pT k) 3 aM (aA (aE aY (aB 1) (eC (.int 3))) (aA (aB 7) (aA (aH (pT k) 3 aM (aA (aE aY (aE aY (aB 1) (eC (.int 3))) (aB 7)) (aA (aB 8) (aA (aB 9) aD)))) aD)))) (aQ 10))
 (aU (aH (sA k) 3 aM (aA (aB 0) (aA (aB 1) (aA (aH (pT k) 3 aM (aA (aB 1) (aA (eC (.int 3)) (aA (aB 10) aD)))) aD))))))) aZ)
 (aJ (dH (aV (aE eG (aB 4) (eC (.str ("tear" : Str))))) (aU (aH (FY k) 4 aM (aA (aB 0) (aA (aB 1) (aA (aE aY (aB 5) (eC (.int 0))) (aA (aE aY (aB 5) (eC (.int 1))) aD)))))) aZ)
 (aJ (dH (aV (aE eG (aB 4) (eC (.str ("heal" : Str))))) (aU (aH (FY k) 4 aM (aA (aB 0) (aA (aB 1) (aA (bH aD) (aA (bH aD) aD)))))) aZ)
 (aU (aH (YG k) 4 aM (aA (aB 0) (aA (aB 1) (aA (aE aY (aB 5) (eC (.int 0))) (aA (aE aY (aB 5) (eC (.int 1))) aD)))))))))))))))
def WL (k : bE) : MF := bF (V6 k) W0
def ZY : List Str := [("thing" : Str), ("many" : Str), ("one" : Str), ("other" : Str)]
def Z1 (k : bE) : MS :=
 (aJ (dH (iB (cS (dS (aP (gQ g6) (aA (aB 0) (aA (eC (.ty "tuple")) aD))))) (cS (dS (aP allM (aA (a8 (cK (aB 0)) [2] (aQ 2) bA (aH (cE k) 3 aM (aA (aB 2) (aA (eC (.int 0)) (aA (aE nK (aB 1) (eC (.int 1))) aD))))) aD))))) (aU (eC (.bl false))) aZ)
 (aU (aP allM (aA (a8 (dB zsM (aA (iU fO (aB 0) bS (bK (AZ DF (eC (.int 1))))) (aA (iU fO (aB 0) (bK (eC (.int 1))) bS) aD))) [2, 3] (bV 2 (aI (aQ 2) (aI (aQ 3) bO))) bA (aE TV (aB 2) (aB 3))) aD))))
def IA (k : bE) : MF := bF (Z1 k) ZY
def aAh : List Str := [("plan" : Str), ("state" : Str), ("houses" : Str), ("hosts" : Str)]
def YQ (k : bE) : MS :=
 (aJ (dH (iB (dS (aP anyM (aA (aE aY (aB 1) (eC (.int 1))) aD))) (iB (cS (dS (aH (IA k) 2 aM (aA (aB 2) (aA (aP (T4 k.eK (iH k)) (aA (aB 0) aD)) aD))))) (cS (dS (aH (IA k) 2 aM (aA (aB 3) (aA (eJ k.eK ("hosts" : Str) (aB 0)) aD))))))) (aU (eC (.bl false))) aZ)
 (aU (eCh TV TV (eC (.int 0)) (aP cZ (aA (aB 2) aD)) (aP (T4 k.eK (iH k)) (aA (aB 0) aD)))))
def YW (k : bE) : MF := bF (YQ k) aAh
def IS : List Str := [("plan" : Str), ("address" : Str), ("house" : Str), ("rank" : Str)]
def LW (k : bE) : MS :=
 (aJ (dH (iB (cS (dS (aH (cE k) 3 aM (aA (aB 1) (aA (eC (.int 0)) (aA (aE nK (aH (eQ k) 1 aM (aA (aB 0) aD)) (eC (.int 1))) aD)))))) (cS (dS (aH (cE k) 3 aM (aA (aB 2) (aA (eC (.int 0)) (aA (aE nK (aP (T4 k.eK (iH k)) (aA (aB 0) aD)) (eC (.int 1))) aD))))))) (aU (eC (.bl false))) aZ)
 (aU (aH (cE k) 3 aM (aA (aB 3) (aA (eC (.int 1)) (aA (eC (.int 12)) aD))))))
def JX (k : bE) : MF := bF (LW k) IS
def IJ : List Str := [("plan" : Str), ("thing" : Str), ("house" : Str), ("tie" : Str), ("less" : Str)]
def LU (k : bE) : MS :=
 (aU (iZ (aH (cE k) 3 aM (aA (aB 1) (aA (eC (.int 0)) (aA (eC (.int 9)) aD)))) (aE L7 (aB 1) (a8 (cK (eJ k.eK ("ties" : Str) (aB 0))) [2, 3, 4] (bV 3 (aI (aQ 2) (aI (aQ 3) (aI (aQ 4) bO)))) bA (aB 3)))))
def H9 (k : bE) : MF := bF (LU k) IJ
def aBU : List Str := [("plan" : Str), ("state" : Str), ("thing" : Str), ("word" : Str), ("rest" : Str)]
def aBQ (k : bE) (tS : Addr) : MS :=
 (aJ (dH (iB (cS (dS (aP (gQ g6) (aA (aB 2) (aA (eC (.ty "tuple")) aD))))) (iB (aV (aE eG (aB 2) (bH aD))) (cS (dS (aP (gQ g6) (aA (aE aY (aB 2) (eC (.int 0))) (aA (eC (.ty "str")) aD))))))) (aU (eC (.bl false))) aZ)
 (aJ (aO (aB 2) (zJ 1 (aI (aQ 3) (aI (aQ 4) bO))))
 (aJ (dH (aV (aE oX (aP cZ (aA (aB 4) aD)) (aLx tS aBy (eC (.con tS)) (aA (aB 3) (aA (AZ DF (eC (.int 1))) aD))))) (aU (eC (.bl false))) aZ)
 (aJ (dH (aV (aE L7 (aB 3) (bH (aA (eC (.str ("fall" : Str))) (aA (eC (.str ("stop" : Str))) (aA (eC (.str ("rise" : Str))) aD)))))) (aU (iZ (aH (cE k) 3 aM (aA (aE aY (aB 4) (eC (.int 0))) (aA (eC (.int 0)) (aA (aE nK (aP (T4 k.eK (iH k)) (aA (aB 0) aD)) (eC (.int 1))) aD)))) (aE eG (aE aY (aE aY (aB 1) (eC (.int 0))) (aE aY (aB 4) (eC (.int 0)))) (aP MY (aA (aE oX (aB 3) (eC (.str ("rise" : Str)))) aD))))) aZ)
 (aJ (dH (aV (aE L7 (aB 3) (bH (aA (eC (.str ("down" : Str))) (aA (eC (.str ("up" : Str))) aD))))) (aU (iZ (aH (H9 k) 2 aM (aA (aB 0) (aA (aE aY (aB 4) (eC (.int 0))) aD))) (aE eG (aE L7 (aE aY (aB 4) (eC (.int 0))) (aE aY (aB 1) (eC (.int 2)))) (aE eG (aB 3) (eC (.str ("up" : Str))))))) aZ)
 (aJ (dH (aV (aE eG (aB 3) (eC (.str ("rank" : Str))))) (aU (aH (JX k) 4 aM (aA (aB 0) (aA (aE aY (aB 4) (eC (.int 0))) (aA (aE aY (aB 4) (eC (.int 1))) (aA (aE aY (aB 4) (eC (.int 2))) aD)))))) aZ)
 (aJ (dH (aV (aE eG (aB 3) (eC (.str ("tear" : Str))))) (aU (aH (YW k) 4 aM (aA (aB 0) (aA (aB 1) (aA (aE aY (aB 4) (eC (.int 0))) (aA (aE aY (aB 4) (eC (.int 1))) aD)))))) aZ)
 (aJ (dH (aV (aE eG (aB 3) (eC (.str ("heal" : Str))))) (aU (aP anyM (aA (aE aY (aB 1) (eC (.int 1))) aD))) aZ)
 (aU (iZ (aH (cE k) 3 aM (aA (aE aY (aB 4) (eC (.int 0))) (aA (eC (.int 0)) (aA (aE nK (eJ k.eK ("hosts" : Str) (aB 0)) (eC (.int 1))) aD)))) (aH (cE k) 3 aM (aA (aE aY (aB 4) (eC (.int 1))) (aA (eC (.int 0)) (aA (aE nK (aH (eQ k) 1 aM (aA (aB 0) aD)) (eC (.int 1))) aD))))))))))))))
def aB5 (k : bE) (tS : Addr) : MF := bF (aBQ k tS) aBU
end Lb
namespace Lw
open PySem PySem.Spec PyProof.Rows L2 Pc Lb
def UY : List Str := [("_law_model_here" : Str), ("_law_world_here" : Str), ("_law_a" : Str), ("_law_h" : Str), ("_law_down" : Str), ("_law_house" : Str), ("_law_tie" : Str), ("_law_less" : Str)]
def W8 (k : bE) : MS :=
 (aJ (aO (aP XN (aA (a8 (cK (aE aY (aB 0) (eC (.str ("ties" : Str))))) [5, 6, 7] (bV 3 (aI (aQ 5) (aI (aQ 6) (aI (aQ 7) bO)))) (fU (aV (aE eG (aB 5) (aB 3))) (aV (aE L7 (aB 6) (aE aY (aB 1) (eC (.str ("downs" : Str))))))) (aB 7)) aD)) (aQ 4))
 (aU (aP max2 (aA (eC (.int 1)) (aA (aE nK (aE aY (aE aY (aE aY (aB 1) (eC (.str ("ranks" : Str)))) (aB 2)) (aB 3)) (aB 4)) aD)))))
def nD (k : bE) : MF := bF (W8 k) UY
def W9 : List Str := [("_law_model_here" : Str), ("_law_rank_here" : Str), ("_law_whole" : Str)]
def WR (k : bE) : MS :=
 (aJ (aO (aE a9 (aE mulM (aE a9 (aE aY (aB 0) (eC (.str ("bears" : Str)))) (eC (.int 1))) (aE aY (aB 0) (eC (.str ("every" : Str))))) (aE aY (aB 0) (eC (.str ("slow" : Str))))) (aQ 2))
 (aU (aE a9 (aB 2) (aE mulM (aE aY (aB 0) (eC (.str ("gap" : Str)))) (aE nK (eC (.int 12)) (aB 1))))))
def FH (k : bE) : MF := bF (WR k) W9
def SA : List Str := [("_law_model_here" : Str), ("_law_world_here" : Str), ("_law_a" : Str), ("_law_h" : Str)]
def RY (k : bE) : MS :=
 (aU (eNew (aA (eC (.str ("waits" : Str))) (aA (aE a9 (aH (FH k) 2 aM (aA (aB 0) (aA (aH (nD k) 4 aM (aA (aB 0) (aA (aB 1) (aA (aB 2) (aA (aB 3) aD))))) aD))) (aE aY (aB 0) (eC (.str ("hold" : Str))))) aD))))
def uM (k : bE) : MF := bF (RY k) SA
def BD : List Str := [("_law_lots" : Str), ("_law_one" : Str)]
def CJ (k : bE) : MS :=
 (aU (aP aLs (aA (a8 (cK (aB 0)) [1] (aQ 1) bA (bH (aA (iU fO (aB 1) bS (bK (eC (.int 3)))) (aA (aE aY (aB 1) (eC (.int 3))) aD)))) aD)))
def C0 (k : bE) : MF := bF (CJ k) BD
def QM : List Str := [("_law_world_here" : Str), ("_law_host" : Str), ("_law_a" : Str), ("_law_told" : Str), ("_law_many" : Str), ("_law_good" : Str)]
def QH (k : bE) : MS :=
 (aJ (aO (aE aY (aE aY (aE aY (aB 0) (eC (.str ("tables" : Str)))) (aB 1)) (aB 2)) (aQ 3))
 (aJ (aO (aP cZ (aA (aE aY (aB 0) (eC (.str ("living" : Str)))) aD)) (aQ 4))
 (aJ (aO (iZ (aE geM (aB 3) (eC (.int 0))) (aE eG (aE aY (aE aY (aB 0) (eC (.str ("parts" : Str)))) (aB 3)) (aE aY (aE aY (aB 0) (eC (.str ("parts" : Str)))) (aE a9 (aB 4) (aB 1))))) (aQ 5))
 (aJ (aO (iZ (aB 5) (aE eG (aE aY (aE aY (aE aY (aE aY (aB 0) (eC (.str ("stands" : Str)))) (aB 2)) (aB 3)) (eC (.int 0))) (eC (.str ("serves" : Str))))) (aQ 5))
 (aO (eNew (aA (aE a9 (aE aY (aE aY (aE aY (aB 0) (eC (.str ("asks" : Str)))) (aB 1)) (eC (.int 0))) (eC (.int 1))) (aA (aE a9 (aE aY (aE aY (aE aY (aB 0) (eC (.str ("asks" : Str)))) (aB 1)) (eC (.int 1))) (aP MY (aA (AZ notM (aB 5)) aD))) aD))) (eM (aE aY (aB 0) (eC (.str ("asks" : Str)))) (aB 1)))))))
def SK (k : bE) : MF := bF (QH k) QM
def QT : List Str := [("_law_world_here" : Str), ("_law_h" : Str), ("_law_news" : Str), ("_law_a" : Str), ("_law_row" : Str)]
def RH (k : bE) : MS :=
 (aJ (aO (eC (.int 0)) (eM (aE aY (aB 0) (eC (.str ("living" : Str)))) (aB 1)))
 (g9 (dB lJ (aA (aE aY (aB 0) (eC (.str ("stands" : Str)))) aD)) (bV 2 (aI (aQ 3) (aI (aQ 4) bO))) (aJ (aO (eNew (aA (eC (.str ("rests" : Str))) (aA (eC (.int 0)) aD))) (eM (aB 4) (aB 1)))
 (cR (bB "list" cJ (aB 2) (aA (bH (aA (aB 3) (aA (aB 1) (aA (eC (.str ("rests" : Str))) aD)))) aD))))))
def SO (k : bE) : MF := bF (RH k) QT
def XF : List Str := [("_law_world_here" : Str), ("_law_a" : Str), ("_law_s" : Str), ("_law_rank_here" : Str), ("_law_lots" : Str), ("_law_r" : Str), ("_law_fate" : Str)]
def UA (k : bE) : MS :=
 (g9 (dB iO (aA (aP cZ (aA (aE aY (aB 0) (eC (.str ("parts" : Str)))) aD)) aD)) (aQ 5) (dH (fU (aV (aE oX (aB 5) (aB 2))) (fU (aV (aE eG (aE aY (aE aY (aB 0) (eC (.str ("parts" : Str)))) (aB 5)) (aE aY (aE aY (aB 0) (eC (.str ("parts" : Str)))) (aB 2)))) (aV (aE oX (iU fO (aE aY (aB 0) (eC (.str ("living" : Str)))) (bK (aB 5)) (bK (aE a9 (aB 5) (eC (.int 1))))) (dQ (aA (eC (.int 0)) aD)))))) (aJ (aO (bB "dict" getM (aB 4) (aA (bH (aA (aB 1) (aA (aB 2) (aA (aB 5) aD)))) (aA (eC (.int 1)) aD))) (aQ 6))
 (aJ (aO (sQ (aV (aE eG (aB 6) (eC (.int 0)))) (aE a9 (bB "dict" getM (aE aY (aB 0) (eC (.str ("lacks" : Str)))) (aA (bH (aA (aB 1) (aA (aB 2) (aA (aB 5) aD)))) (aA (eC (.int 0)) aD))) (eC (.int 1))) (eC (.int 0))) (eM (aE aY (aB 0) (eC (.str ("lacks" : Str)))) (bH (aA (aB 1) (aA (aB 2) (aA (aB 5) aD))))))
 (aJ (cR (bB "list" cJ (aE aY (aB 0) (eC (.str ("sent" : Str)))) (aA (bH (aA (aB 1) (aA (aB 2) (aA (aB 5) aD)))) aD)))
 (dH (aV (aE gtM (aB 6) (eC (.int 0)))) (cR (bB "list" cJ (aE aY (aB 0) (eC (.str ("under" : Str)))) (aA (bH (aA (aB 6) (aA (aB 1) (aA (aB 2) (aA (aB 5) (aA (aB 3) aD)))))) aD))) aZ)))) aZ))
def GI (k : bE) : MF := bF (UA k) XF
def MJ : List Str := [("_law_model_here" : Str), ("_law_world_here" : Str), ("_law_deed_here" : Str), ("_law_word" : Str), ("_law_rest" : Str), ("_law_many" : Str), ("_law_old" : Str), ("_law_a" : Str), ("_law_row" : Str), ("_law_h" : Str), ("_law_stand" : Str), ("_law_tie" : Str)]
def MC (k : bE) : MS :=
 (aJ (aO (bH (aA (aE aY (aB 2) (eC (.int 0))) (aA (iU fO (aB 2) (bK (eC (.int 1))) bS) aD))) (bV 2 (aI (aQ 3) (aI (aQ 4) bO))))
 (aJ (aO (aP cZ (aA (aE aY (aB 1) (eC (.str ("living" : Str)))) aD)) (aQ 5))
 (aJ (aO (a8 (dB iO (aA (aP cZ (aA (aE aY (aB 0) (eC (.str ("ranks" : Str)))) aD)) aD)) [7] (aQ 7) bA (a8 (dB iO (aA (aB 5) aD)) [9] (aQ 9) bA (aH (nD k) 4 aM (aA (aB 0) (aA (aB 1) (aA (aB 7) (aA (aB 9) aD))))))) (aQ 6))
 (aJ (dH (aV (aE eG (aB 3) (eC (.str ("down" : Str))))) (cR (bB "list" cJ (aE aY (aB 1) (eC (.str ("downs" : Str)))) (aA (aE aY (aB 4) (eC (.int 0))) aD))) aZ)
 (aJ (dH (aV (aE eG (aB 3) (eC (.str ("up" : Str))))) (aO (Z3 (cK (aE aY (aB 1) (eC (.str ("downs" : Str))))) [11] (aQ 11) (aV (aE oX (aB 11) (aE aY (aB 4) (eC (.int 0))))) (aB 11)) (eM (aB 1) (eC (.str ("downs" : Str))))) aZ)
 (aJ (dH (aV (aE eG (aB 3) (eC (.str ("rank" : Str))))) (aO (aE aY (aB 4) (eC (.int 2))) (eM (aE aY (aE aY (aB 1) (eC (.str ("ranks" : Str)))) (aE aY (aB 4) (eC (.int 0)))) (aE aY (aB 4) (eC (.int 1))))) aZ)
 (g9 (dB lJ (aA (aE aY (aB 1) (eC (.str ("stands" : Str)))) aD)) (bV 2 (aI (aQ 7) (aI (aQ 8) bO))) (g9 (dB lJ (aA (aB 8) aD)) (bV 2 (aI (aQ 9) (aI (aQ 10) bO))) (dH (fU (aV (aE eG (aE aY (aB 10) (eC (.int 0))) (eC (.str ("waits" : Str))))) (aV (aE gtM (aH (nD k) 4 aM (aA (aB 0) (aA (aB 1) (aA (aB 7) (aA (aB 9) aD))))) (aE aY (aE aY (aB 6) (aB 7)) (aB 9))))) (aO (aP max2 (aA (aE aY (aB 10) (eC (.int 1))) (aA (aE aY (aH (uM k) 4 aM (aA (aB 0) (aA (aB 1) (aA (aB 7) (aA (aB 9) aD))))) (eC (.int 1))) aD))) (eM (aB 10) (eC (.int 1)))) aZ)))))))))
def NR (k : bE) : MF := bF (MC k) MJ
def VF : List Str := [("_law_model_here" : Str), ("_law_world_here" : Str), ("_law_deed_here" : Str), ("_law_lots" : Str), ("_law_news" : Str), ("_law_word" : Str), ("_law_rest" : Str), ("_law_a" : Str), ("_law_row" : Str), ("_law_many" : Str), ("_law_there" : Str), ("_law_host" : Str), ("_law_k" : Str)]
def UT (k : bE) : MS :=
 (aJ (aDo 5 6 (aA (aE aY (aB 2) (eC (.int 0))) (aA (iU fO (aB 2) (bK (eC (.int 1))) bS) aD)))
 (aJ (dH (aV (aE eG (aB 5) (eC (.str ("stop" : Str))))) (g9 (dB lJ (aA (aE aY (aB 1) (eC (.str ("stands" : Str)))) aD)) (bV 2 (aI (aQ 7) (aI (aQ 8) bO))) (dH (aV (aE eG (aE aY (aE aY (aB 8) (aE aY (aB 6) (eC (.int 0)))) (eC (.int 0))) (eC (.str ("serves" : Str))))) (cR (aH (GI k) 5 aM (aA (aB 1) (aA (aB 7) (aA (aE aY (aB 6) (eC (.int 0))) (aA (eC (.int 0)) (aA (aB 3) aD))))))) aZ)) aZ)
 (aJ (dH (aV (aE L7 (aB 5) (bH (aA (eC (.str ("stop" : Str))) (aA (eC (.str ("fall" : Str))) aD))))) (cR (aH (SO k) 3 aM (aA (aB 1) (aA (aE aY (aB 6) (eC (.int 0))) (aA (aB 4) aD))))) aZ)
 (aJ (dH (aV (aE eG (aB 5) (eC (.str ("rise" : Str))))) (aJ (aO (eC (.int 1)) (eM (aE aY (aB 1) (eC (.str ("living" : Str)))) (aE aY (aB 6) (eC (.int 0)))))
 (g9 (dB lJ (aA (aE aY (aB 1) (eC (.str ("stands" : Str)))) aD)) (bV 2 (aI (aQ 7) (aI (aQ 8) bO))) (aO (aH (uM k) 4 aM (aA (aB 0) (aA (aB 1) (aA (aB 7) (aA (aE aY (aB 6) (eC (.int 0))) aD))))) (eM (aB 8) (aE aY (aB 6) (eC (.int 0))))))) aZ)
 (aJ (dH (aV (aE L7 (aB 5) (bH (aA (eC (.str ("down" : Str))) (aA (eC (.str ("up" : Str))) (aA (eC (.str ("rank" : Str))) aD)))))) (cR (aH (NR k) 3 aM (aA (aB 0) (aA (aB 1) (aA (aB 2) aD))))) aZ)
 (aJ (dH (aV (aE L7 (aB 5) (bH (aA (eC (.str ("tear" : Str))) (aA (eC (.str ("heal" : Str))) aD))))) (aJ (aO (aP cZ (aA (aE aY (aB 1) (eC (.str ("living" : Str)))) aD)) (aQ 9))
 (aJ (aO (sQ (aV (aE eG (aB 5) (eC (.str ("tear" : Str))))) (aE a9 (aP aHF (aA (aE aY (aB 6) (eC (.int 0))) aD)) (a8 (cK (aE aY (aB 6) (eC (.int 1)))) [11] (aQ 11) bA (aE a9 (aB 9) (aB 11)))) (dQ aD)) (aQ 10))
 (aO (Z3 (dB iO (aA (aP cZ (aA (aE aY (aB 1) (eC (.str ("parts" : Str)))) aD)) aD)) [12] (aQ 12) bA (aP MY (aA (aE L7 (aB 12) (aB 10)) aD))) (eM (aB 1) (eC (.str ("parts" : Str))))))) aZ)
 (dH (aV (aE eG (aB 5) (eC (.str ("ask" : Str))))) (cR (aH (SK k) 3 aM (aA (aB 1) (aA (aE aY (aB 6) (eC (.int 0))) (aA (aE aY (aB 6) (eC (.int 1))) aD))))) aZ)))))))
def XC (k : bE) : MF := bF (UT k) VF
def SH : List Str := [("_law_model_here" : Str), ("_law_world_here" : Str), ("_law_many" : Str), ("_law_receivers" : Str), ("_law_lacks" : Str), ("_law_a" : Str), ("_law_rows" : Str), ("_law_stands" : Str), ("_law_ranks" : Str), ("_law_tables" : Str), ("_law_asks" : Str), ("_law_parts" : Str), ("_law_downs" : Str), ("_law_s" : Str), ("_law_r" : Str), ("_law_row" : Str), ("_law_stand" : Str)]
def P2 (k : bE) : MS :=
 (aJ (aO (bH (aA (aP cZ (aA (aE aY (aB 1) (eC (.str ("living" : Str)))) aD)) (aA (aP cZ (aA (aE aY (aB 1) (eC (.str ("parts" : Str)))) aD)) aD))) (bV 2 (aI (aQ 2) (aI (aQ 3) bO))))
 (aJ (aO (eNew aD) (aQ 4))
 (aJ (g9 (dB iO (aA (aP cZ (aA (aE aY (aB 0) (eC (.str ("ranks" : Str)))) aD)) aD)) (aQ 5) (aJ (aO (a8 (dB iO (aA (aB 2) aD)) [13] (aQ 13) bA (aP cH (aA (a8 (dB iO (aA (aB 3) aD)) [14] (aQ 14) bA (bB "dict" getM (aE aY (aB 1) (eC (.str ("lacks" : Str)))) (aA (bH (aA (aB 5) (aA (aB 13) (aA (aB 14) aD)))) (aA (eC (.int 0)) aD)))) aD))) (aQ 6))
 (cR (bB "list" cJ (aB 4) (aA (aP cH (aA (aB 6) aD)) aD)))))
 (aJ (aO (aP cH (aA (a8 (cK (aE aY (aB 1) (eC (.str ("stands" : Str))))) [15] (aQ 15) bA (aP cH (aA (a8 (cK (aB 15)) [16] (aQ 16) bA (aP cH (aA (aB 16) aD))) aD))) aD)) (aQ 7))
 (aJ (aO (aP cH (aA (a8 (cK (aE aY (aB 1) (eC (.str ("ranks" : Str))))) [15] (aQ 15) bA (aP cH (aA (aB 15) aD))) aD)) (aQ 8))
 (aJ (aDo 9 10 (aA (aP cH (aA (a8 (cK (aE aY (aB 1) (eC (.str ("tables" : Str))))) [15] (aQ 15) bA (aP cH (aA (aB 15) aD))) aD)) (aA (aP cH (aA (a8 (cK (aE aY (aB 1) (eC (.str ("asks" : Str))))) [15] (aQ 15) bA (aP cH (aA (aB 15) aD))) aD)) aD)))
 (aJ (aDo 11 12 (aA (aP cH (aA (aE aY (aB 1) (eC (.str ("parts" : Str)))) aD)) (aA (aP cH (aA (aP aAp (aA (aE aY (aB 1) (eC (.str ("downs" : Str)))) aD)) aD)) aD)))
 (aU (bH (aA (aP cH (aA (aE aY (aB 1) (eC (.str ("living" : Str)))) aD)) (aA (aB 11) (aA (aB 12) (aA (aB 8) (aA (aB 7) (aA (aP cH (aA (aE aY (aB 1) (eC (.str ("under" : Str)))) aD)) (aA (aP cH (aA (aB 4) aD)) (aA (aB 9) (aA (aB 10) aD))))))))))))))))))
def CL (k : bE) : MF := bF (P2 k) SH
end Lw
namespace Lb
open PySem PySem.Spec PyProof.Rows L2 Pc
section
variable {w : W} {P : D → W → Prop} {PS : Sg → W → Prop} {PI : lO → W → Prop} {σ : Sg} {k : bE} {p h : Nat} {m : Mo} {b : Int} {s : jO}
theorem aF5 {n : Nat} {r : TZ} {xs : List D} : T (zJ n r (.tup xs) σ w) PS = ((n ≤ xs.length ∧ xs.length ≤ sizeLine) ∧ T (r (xs.take n ++ [.lst (xs.drop n)]) σ w) PS) := by simp only [zJ, AV, dW]
def aDd (m : Mo) (s : jO) (h : Int) : Int := ((m.aBE.filter fun t => (t.1 == h) && decide (t.2.1 ∈ s.downs)).map fun t => t.2.2).sum
def aLe (s : jO) (a h : Nat) : Int := ((s.dO[a]?).getD []).getD h 0
def zA (m : Mo) (s : jO) (a h : Nat) : Int := if aLe s a h - aDd m s h > 1 then aLe s a h - aDd m s h else 1
def KY (m : Mo) (b : Int) (s : jO) (a h : Nat) : Int := tP m b (zA m s a h) + m.hold
end
def aDq (s : jO) (c a : Nat) : Int := ((s.tables[c]?).getD []).getD a (-1)
def G7 (s : jO) (a h : Nat) : Role × Int := ((s.cD[a]?).getD []).getD h (.rests, 0)
def EI (s : jO) (i : Nat) : Int := s.parts.getD i 0
def aB3 (h : Nat) (s : jO) (c a : Nat) : Bool := if aDq s c a < 0 then false else EI s (aDq s c a).toNat == EI s (h + c) && decide ((G7 s a (aDq s c a).toNat).1 = .xP)
def aKy (h : Nat) (s : jO) (c a : Nat) : jO := { s with asks := s.asks.set c ((s.asks.getD c (0, 0)).1 + 1, (s.asks.getD c (0, 0)).2 + if aB3 h s c a = true then 0 else 1) }
def aDJ (h : Nat) (s : jO) (hs cs : List Int) : jO := { s with parts := (List.range s.parts.length).map fun i : Nat => if (i : Int) ∈ hs ++ cs.map fun c => (h : Int) + c then 1 else 0 }
section
variable {α : Type}
def aHj (f : Nat → Nat → α → α) (rows : List (List α)) : List (List α) := rows.mapIdx fun a row => row.mapIdx fun c q => f a c q
end
def upQ (m : Mo) (b : Int) (ahead s : jO) (a c : Nat) (q : Role × Int) : Role × Int := if q.1 = .qX ∧ zA m ahead a c < zA m s a c then (.qX, if KY m b s a c > q.2 then KY m b s a c else q.2) else q
def reS (m : Mo) (b : Int) (ahead s : jO) : jO := { s with cD := aHj (upQ m b ahead s) s.cD }
inductive aDH where
 | UD | stop | rise | down | up | rank | RA | TH | ask
deriving DecidableEq
def aDH.s : aDH → Str
 | .UD => "fall" | .stop => "stop" | .rise => "rise" | .down => "down" | .up => "up" | .rank => "rank" | .RA => "tear" | .TH => "heal" | .ask => "ask"
inductive uS where
 | down (t : Int) | up (t : Int) | rank (a c : Nat) (r : Int) | RA (hs cs : List Int) | TH | ask (c a : Nat)
 | UD (c : Nat) | stop (c : Nat) | rise (c : Nat)
def uS.word : uS → aDH
 | .down _ => .down | .up _ => .up | .rank .. => .rank | .RA .. => .RA | .TH => .TH | .ask .. => .ask | .UD _ => .UD | .stop _ => .stop | .rise _ => .rise
def uS.args : uS → List D
 | .down t => [.int t] | .up t => [.int t] | .rank a c r => [.int (a : Nat), .int (c : Nat), .int r] | .RA hs cs => [M7 hs, M7 cs] | .TH => [] | .ask c a => [.int (c : Nat), .int (a : Nat)]
 | .UD c => [.int (c : Nat)] | .stop c => [.int (c : Nat)] | .rise c => [.int (c : Nat)]
def sortI (ns : List Int) : List Int := ns.mergeSort leI
def aBi (s : jO) (a c : Nat) (r : Int) : jO := { s with dO := s.dO.set a (((s.dO[a]?).getD []).set c r) }
def doS (m : Mo) (b : Int) (h : Nat) (s : jO) : uS → jO
 | .down t => reS m b s { s with downs := sortI (s.downs ++ [t]) }
 | .up t => reS m b s { s with downs := s.downs.filter fun x => !(x == t) }
 | .rank a c r => reS m b s (aBi s a c r)
 | .RA hs cs => aDJ h s hs cs
 | .TH => aDJ h s [] []
 | .ask c a => aKy h s c a
 | _ => s
section
variable {w : W} {P : D → W → Prop} {PL : List (List Key × D) → W → Prop} {σ : Sg} {k : bE} {tS : Addr} {p h : Nat} {m : Mo} {b : Int} {s : jO}
def aDH.size : aDH → Int
 | .rank => 3
 | .RA => 2
 | .TH => 0
 | .ask => 2
 | _ => 1
def aC8 (n : Int) (xs : List Int) : Prop := (∀ x ∈ xs, 0 ≤ x ∧ x ≤ n - 1) ∧ xs.Pairwise (· < ·)
def Fits (m : Mo) (h : Nat) : uS → Prop
 | .down t => (0 ≤ t ∧ t ≤ 9) ∧ t ∈ m.aBE.map fun t => t.2.1
 | .up t => (0 ≤ t ∧ t ≤ 9) ∧ t ∈ m.aBE.map fun t => t.2.1
 | .rank a c r => a < m.dO.length ∧ c < h ∧ 1 ≤ r ∧ r ≤ 12
 | .RA hs cs => (aC8 h hs ∧ aC8 m.vQ cs) ∧ (hs.length ≤ 100 ∧ cs.length ≤ 100) ∧ 0 < hs.length ∧ hs.length < h
 | .TH => True
 | .ask c a => (c : Int) < m.vQ ∧ a < m.dO.length
 | .UD c => c < h
 | .stop c => c < h
 | .rise c => c < h
end
end Lb
namespace Lw
open PySem PySem.Spec PyProof.Rows L2 Pc Lb
inductive vK where
 | dict | living | parts | downs | under | wD | dO | cD | tables | asks | xT
 | aCI (a : Nat) | ZP (a : Nat) | UX (a c : Nat) | aDC (c : Nat) | ask (c : Nat)
deriving DecidableEq
abbrev HB := vK → Nat
abbrev Con := vK → Option MO
def pY {α : Type} (f : vK → α) (l : vK) (x : α) : vK → α := fun q => if q = l then x else f q
theorem rJ {α : Type} {f : vK → α} {l : vK} {x : α} : pY f l x l = x := if_pos rfl
theorem fR {α : Type} {f : vK → α} {l q : vK} {x : α} (h : q ≠ l) : pY f l x q = f q := if_neg h
def onS (S : vK → Bool) (C : Con) : Con := fun l => if S l then C l else none
def uB (n : Nat) (w : W) (A : HB) (C : Con) : Prop := ∀ l o, C l = some o → n ≤ A l ∧ w[A l]? = some o ∧ ∀ l' o', C l' = some o' → A l' = A l → l' = l
section
variable {n : Nat} {w w' : W} {A A' : HB} {C C' : Con} {l : vK} {o : MO}
theorem uB.get (h : uB n w A C) (e : C l = some o) : w[A l]? = some o := (h l o e).2.1
theorem uB.lt (h : uB n w A C) (e : C l = some o) : A l < w.length := (ar.mp (h.get e)).1
theorem uB.keep (h : uB n w A C) (hk : ∀ i, n ≤ i → i < w.length → w'[i]? = w[i]?) : uB n w' A C := fun l o e =>
 ⟨(h l o e).1, by rw [hk _ (h l o e).1 (h.lt e)]; exact h.get e, (h l o e).2.2⟩
theorem uB.grow (h : uB n w A C) (h2 : 2 ≤ n) (g : vR w w' 1 0) : uB n w' A C := h.keep fun i hi hl => g.at_ i hl (by omega) (by omega)
theorem uB.app (h : uB n w A C) (u : W) : uB n (w ++ u) A C := h.keep fun i _ hl => bj hl
theorem uB.set (h : uB n w A C) (e : C l = some o) (o1 : MO) : uB n (w.set (A l) o1) A (pY C l (some o1)) := fun q u eq => by
 have inj : ∀ l' o', pY C l (some o1) l' = some o' → ∃ o2, C l' = some o2 := fun l' o' e' => by
  by_cases c : l' = l
  ·subst c; exact ⟨o, e⟩
  ·rw [fR c] at e'; exact ⟨o', e'⟩
 obtain ⟨u2, e2⟩ := inj q u eq
 refine ⟨(h q u2 e2).1, ?_, fun l' o' e' ea => ?_⟩
 ·by_cases c : q = l
  ·subst c
   rw [rJ] at eq
   cases eq
   rw [cc (h.lt e)]
  ·rw [fR c] at eq
   rw [bu (fun x => c ((h l o e).2.2 q u2 e2 x.symm))]
   exact h.get eq
 ·obtain ⟨o3, e3⟩ := inj l' o' e'
  exact (h q u2 e2).2.2 l' o3 e3 ea
theorem uB.new (h : uB n w A C) (hk : ∀ i, n ≤ i → i < w.length → w'[i]? = w[i]?) {r : Nat} (h1 : w.length ≤ r) (h0 : n ≤ w.length) (e : w'[r]? = some o) (l : vK) : uB n w' (pY A l r) (pY C l (some o)) := fun q u eq => by
 by_cases c : q = l
 ·subst c
  rw [rJ] at eq ⊢
  cases eq
  refine ⟨bq h0 h1, e, fun l' o' e' ea => ?_⟩
  by_cases c' : l' = q
  ·exact c'
  ·rw [fR c'] at e' ea
   have := h.lt e'
   omega
 ·rw [fR c] at eq ⊢
  refine ⟨(h q u eq).1, by rw [hk _ (h q u eq).1 (h.lt eq)]; exact h.get eq, fun l' o' e' ea => ?_⟩
  by_cases c' : l' = l
  ·subst c'
   rw [rJ] at ea
   have := h.lt eq
   omega
  ·rw [fR c'] at e' ea
   exact (h q u eq).2.2 l' o' e' ea
theorem uB.add (h : uB n w A C) (h0 : n ≤ w.length) (l : vK) (o : MO) : uB n (w ++ [o]) (pY A l w.length) (pY C l (some o)) :=
 h.new (fun i _ hl => bj hl) (az _) h0 (by rw [cy (az _)]; simp) l
theorem uB.sub (h : uB n w A C) (hs : ∀ l o, C' l = some o → C l = some o ∧ A' l = A l) : uB n w A' C' := fun l o e => by
 obtain ⟨e1, e2⟩ := hs l o e
 rw [e2]
 refine ⟨(h l o e1).1, h.get e1, fun l' o' e' ea => ?_⟩
 obtain ⟨e3, e4⟩ := hs l' o' e'
 rw [e4] at ea
 exact (h l o e1).2.2 l' o' e3 ea
theorem uB.nil : uB n w A fun _ => none := fun l o e => nomatch e
end
structure Wx where
 s : jO
 lk : List (List Key × D)
 xT : List D
def UN (A : HB) : List (Key × D) := [(.inr "living", .ref (A .living)), (.inr "parts", .ref (A .parts)), (.inr "downs", .ref (A .downs)), (.inr "under", .ref (A .under)), (.inr "lacks", .ref (A .wD)),
 (.inr "ranks", .ref (A .dO)), (.inr "stands", .ref (A .cD)), (.inr "tables", .ref (A .tables)), (.inr "asks", .ref (A .asks)), (.inr "sent", .ref (A .xT))]
def f9 (A : HB) (g : Nat → vK) (k : Nat) : List D := (List.range k).map fun i => .ref (A (g i))
def VA (xs : List Int) : MO := .lst (xs.map D.int)
def aK5 (q : Role × Int) : MO := .lst [.str q.1.s, .int q.2]
def aMr (q : Int × Int) : MO := .lst [.int q.1, .int q.2]
def cont (A : HB) (x : Wx) : Con
 | .dict => some (.dK (UN A))
 | .living => some (VA x.s.living)
 | .parts => some (VA x.s.parts)
 | .downs => some (VA x.s.downs)
 | .under => some (.lst (x.s.fS.map aHt))
 | .wD => some (.dT x.lk)
 | .dO => some (.lst (f9 A .aCI x.s.dO.length))
 | .cD => some (.lst (f9 A .ZP x.s.cD.length))
 | .tables => some (.lst (f9 A .aDC x.s.tables.length))
 | .asks => some (.lst (f9 A .ask x.s.asks.length))
 | .xT => some (.lst x.xT)
 | .aCI a => x.s.dO[a]?.map VA
 | .ZP a => x.s.cD[a]?.map fun r => .lst (f9 A (.UX a) r.length)
 | .UX a c => (x.s.cD[a]?.bind (·[c]?)).map aK5
 | .aDC c => x.s.tables[c]?.map VA
 | .ask c => x.s.asks[c]?.map aMr
def World (n : Nat) (w : W) (A : HB) (x : Wx) : Prop := uB n w A (cont A x)
section
variable {n : Nat} {w w' : W} {A A' : HB} {x x' : Wx} {P : D → W → Prop} {PU : Unit → W → Prop} {l : vK} {o o1 : MO}
theorem World.set (h : World n w A x) (e : cont A x l = some o) (o1 : MO) (hc : ∀ q, cont A x' q = pY (cont A x) l (some o1) q) : World n (w.set (A l) o1) A x' := by
 unfold World
 rw [funext hc]
 exact uB.set h e o1
theorem aB1 {g : Nat → vK} {k i v : Nat} (inj : ∀ i j, g i = g j → i = j) : (f9 A g k).set i (.ref v) = f9 (pY A (g i) v) g k := by
 refine List.ext_getElem? fun j => ?_
 rw [List.getElem?_set]
 unfold f9
 by_cases c : i = j
 ·subst c
  rw [if_pos rfl]
  by_cases h : i < k
  ·simp [h, rJ]
  ·simp [h]
 ·rw [if_neg c]
  simp only [da]
  cases e : (List.range k)[j]? with
  | none => rfl
  | some y =>
   have : y = j := by
    have := ar.mp e
    obtain ⟨_, h⟩ := this
    rw [List.getElem_range] at h
    exact h.symm
   subst this
   simp only [Option.map_some]
   rw [fR (fun z => c (inj _ _ z).symm)]
end
open PySem.W (dataLe)
section
variable {n : Nat} {w w' : W} {A A' : HB} {x x' : Wx} {P : D → W → Prop} {PU : Unit → W → Prop} {l : vK} {o o1 : MO} {k : bE} {i h : Nat} {m : Mo} {b : Int}
theorem aJd {r : Nat} {xs : List D} (e : w[r]? = some (.lst xs)) : T (cH [.ref r] w) P = P (.tup xs) w := by
 have : cH [.ref r] w = .ok (.tup xs) w := by simp only [cH, tL, e]
 rw [this, bZ]
def LC (w : W) (i : Nat) (m : Mo) : Prop := w[i]? = some (.dK m.kvs)
end
def lkI (lk : List (List Key × D)) (a s r : Nat) : Int := match jM lk [.inl (a : Int), .inl (s : Int), .inl (r : Int)] with
 | some (.int i) => i
 | _ => 0
def aKg (na nh np : Nat) (lk : List (List Key × D)) : List (List (List Int)) := (List.range na).map fun a => (List.range nh).map fun s => (List.range np).map fun r => lkI lk a s r
def aLl (m : Mo) (h : Nat) (x : Wx) : jO := { x.s with downs := sortI x.s.downs, wD := aKg m.dO.length h x.s.parts.length x.lk }
def aLz (lk : List (List Key × D)) : Prop := ∀ ks d, jM lk ks = some d → ∃ i, d = .int i
section
variable {n : Nat} {w w' : W} {A A' : HB} {x x' : Wx} {P : D → W → Prop} {PU : Unit → W → Prop} {PI : lO → W → Prop} {l : vK} {o o1 : MO} {k : bE} {i h : Nat} {m : Mo} {b : Int}
theorem World.app (hW : World n w A x) (u : W) : World n (w ++ u) A x := uB.app hW u
end
section
variable {n : Nat} {w w' : W} {A A' : HB} {C : Con} {x x' : Wx} {σ : Sg} {P : D → W → Prop} {PL : List D → W → Prop} {PF : Fl → W → Prop} {PU : Unit → W → Prop} {PI : lO → W → Prop} {l : vK} {o1 : MO} {k : bE} {i h : Nat} {m : Mo} {b : Int}
theorem uB.bind {S : vK → Bool} (h : uB n w A (onS S (cont A x))) (hS : S .dict = true) (hn : n ≤ w.length) (hl : l ≠ .dict) (hc : cont (pY A l w.length) x' l = some o1)
  (hr : ∀ q, q ≠ .dict → q ≠ l → S q = true → cont (pY A l w.length) x' q = cont A x q) :
  uB n ((w ++ [o1]).set (A .dict) (.dK (UN (pY A l w.length)))) (pY A l w.length) (onS (fun q => S q || q == l) (cont (pY A l w.length) x')) := by
 have h1 := h.add hn l o1
 have e : pY (onS S (cont A x)) l (some o1) .dict = some (.dK (UN A)) := by
  rw [fR hl.symm, onS, hS]
  rfl
 have h3 := h1.set e (.dK (UN (pY A l w.length)))
 rw [fR hl.symm] at h3
 refine h3.sub fun q o e => ⟨?_, rfl⟩
 replace e : (if (S q || q == l) = true then cont (pY A l w.length) x' q else none) = some o := e
 by_cases c : q = .dict
 ·subst c
  rw [rJ]
  rw [hS] at e
  exact e
 ·rw [fR c]
  by_cases c2 : q = l
  ·subst c2
   rw [rJ]
   simp only [beq_self_eq_true, Bool.or_true, af] at e
   rw [← hc]
   exact e
  ·rw [fR c2]
   unfold onS
   have c3 : (q == l) = false := by simpa using c2
   rw [c3, Bool.or_false] at e
   cases s : S q with
   | false => rw [s] at e; exact nomatch e
   | true =>
    rw [s] at e
    simp only [af] at e ⊢
    rw [← hr q c c2 s]
    exact e
end
def vK.top : vK → Bool
 | .living => true | .parts => true | .downs => true | .under => true | .wD => true | .dO => true | .cD => true | .tables => true | .asks => true | .xT => true
 | _ => false
def dep : vK → vK → Prop
 | .dict, q => q.top = true
 | .dO, q => ∃ a, q = .aCI a
 | .cD, q => ∃ a, q = .ZP a
 | .tables, q => ∃ a, q = .aDC a
 | .asks, q => ∃ a, q = .ask a
 | .ZP a, q => ∃ c, q = .UX a c
 | _, _ => False
theorem nH {A A' : HB} {g : Nat → vK} {k : Nat} (h : ∀ i, A (g i) = A' (g i)) : f9 A g k = f9 A' g k := by
 unfold f9
 exact List.map_congr_left fun i _ => by rw [h i]
theorem aAd {A A' : HB} {x : Wx} {l : vK} (h : ∀ q, dep l q → A q = A' q) : cont A x l = cont A' x l := by
 cases l with
 | dict =>
  show some (MO.dK (UN A)) = some (MO.dK (UN A'))
  unfold UN
  rw [h .living rfl, h .parts rfl, h .downs rfl, h .under rfl, h .wD rfl, h .dO rfl, h .cD rfl, h .tables rfl, h .asks rfl, h .xT rfl]
 | dO =>
  show some (MO.lst (f9 A .aCI x.s.dO.length)) = some (MO.lst (f9 A' .aCI x.s.dO.length))
  rw [nH fun i => h _ ⟨i, rfl⟩]
 | cD =>
  show some (MO.lst (f9 A .ZP x.s.cD.length)) = some (MO.lst (f9 A' .ZP x.s.cD.length))
  rw [nH fun i => h _ ⟨i, rfl⟩]
 | tables =>
  show some (MO.lst (f9 A .aDC x.s.tables.length)) = some (MO.lst (f9 A' .aDC x.s.tables.length))
  rw [nH fun i => h _ ⟨i, rfl⟩]
 | asks =>
  show some (MO.lst (f9 A .ask x.s.asks.length)) = some (MO.lst (f9 A' .ask x.s.asks.length))
  rw [nH fun i => h _ ⟨i, rfl⟩]
 | ZP a =>
  show x.s.cD[a]?.map (fun r => MO.lst (f9 A (.UX a) r.length)) = x.s.cD[a]?.map (fun r => MO.lst (f9 A' (.UX a) r.length))
  congr 1
  funext r
  rw [nH fun i => h _ ⟨i, rfl⟩]
 | _ => rfl
section
variable {n : Nat} {w w' w0 : W} {A A' A1 : HB} {C : Con} {x x' : Wx} {σ : Sg} {P : D → W → Prop} {PL : List D → W → Prop} {PF : Fl → W → Prop} {PU : Unit → W → Prop} {PI : lO → W → Prop} {l : vK} {o1 : MO} {k : bE} {i h : Nat} {m : Mo} {b : Int}
theorem aEk {v : Nat} {q : vK} (ht : l.top = true) (hq : q ≠ .dict) : cont (pY A l v) x q = cont A x q := aAd fun r d => fR fun e => by
 subst e
 cases q <;> simp only [dep] at d
 case dict => exact hq rfl
 all_goals
  obtain ⟨a, rfl⟩ := d
  exact nomatch ht
end
section
variable {n : Nat} {w w' w0 : W} {A A' A1 : HB} {C : Con} {x x' : Wx} {σ : Sg} {P : D → W → Prop} {PL : List D → W → Prop} {PF : Fl → W → Prop} {PU : Unit → W → Prop} {PI : lO → W → Prop} {l : vK} {o1 : MO} {k : bE} {i h : Nat} {m : Mo} {b : Int}
theorem World.onS (hW : World n w A x) : uB n w A (Lw.onS (fun _ => true) (cont A x)) := hW
theorem World.le (hW : World n w A x) : n ≤ A .dict := (hW .dict _ rfl).1
theorem World.lt (hW : World n w A x) (l : vK) {o : MO} (e : cont A x l = some o) : A l < w.length := uB.lt hW e
theorem World.aIt (hW : World n w A x) : n ≤ w.length := by
 have h1 := hW.le
 have h2 := hW.lt .dict rfl
 omega
theorem World.bind (hW : World n w A x) (l : vK) (ht : l.top = true) (hc : ∀ A, cont A x' l = some o1) (hr : ∀ A q, q ≠ .dict → q ≠ l → cont A x' q = cont A x q) :
  World n ((w ++ [o1]).set (A .dict) (.dK (UN (pY A l w.length)))) (pY A l w.length) x' := by
 have hl : l ≠ .dict := fun e => by subst e; exact nomatch ht
 have := uB.bind (x' := x') (l := l) (o1 := o1) hW.onS rfl hW.aIt hl (hc _) fun q q1 q2 _ => by rw [hr _ q q1 q2, aEk ht q1]
 exact this.sub fun q o e => ⟨by unfold Lw.onS; exact e, rfl⟩
def Apart (A : HB) (x : Wx) (r : Nat) : Prop := ∀ l o, cont A x l = some o → A l ≠ r
theorem World.other (hW : World n w A x) {r : Nat} (ap : Apart A x r) (o : MO) : World n (w.set r o) A x := fun l u e => by
 obtain ⟨h1, h2, h3⟩ := hW l u e
 exact ⟨h1, by rw [bu (Ne.symm (ap l u e))]; exact h2, h3⟩
end
section
variable {n d0 : Nat} {w w' w0 : W} {A A' A1 : HB} {C : Con} {x x' : Wx} {σ : Sg} {P : D → W → Prop} {PL : List D → W → Prop} {PF : Fl → W → Prop} {PU : Unit → W → Prop} {PI : lO → W → Prop} {l : vK} {o o1 u : MO} {k : bE} {tS : Addr} {i h p : Nat} {m : Mo} {b : Int}
theorem Kept.WA (kk : Pc.Kept w w' 1 0) (h2 : 2 ≤ n) (hW : World n w A x) : World n w' A x := uB.keep hW fun i h1 _ => kk.2 i (by omega) (by omega)
theorem Kept.mod (kk : Pc.Kept w w' 1 0) (i2 : 2 ≤ i) (hM : LC w i m) : LC w' i m := kk.obj hM (by omega) (by omega)
theorem vR.mod (g : vR w w' 1 0) (i2 : 2 ≤ i) (hM : LC w i m) : LC w' i m := by
 unfold LC
 rw [g.at_ i (ar.mp hM).1 (by omega) (by omega)]
 exact hM
theorem World.row {par : vK} {gl : Nat → vK} {kk c r : Nat} (hW : World n w A x) (hk : ∀ i, n ≤ i → i < w.length → w'[i]? = w[i]?) (hr : w.length ≤ r) (er : w'[r]? = some o) (inj : ∀ i j, gl i = gl j → i = j) (hne : par ≠ gl c)
  (hpar : cont A x par = some (.lst (f9 A gl kk))) (hpar' : ∀ A', cont A' x' par = some (.lst (f9 A' gl kk))) (hrow : ∀ A', cont A' x' (gl c) = some o) (hoth : ∀ A' q, q ≠ par → q ≠ gl c → (∀ l, l ≠ gl c → A' l = A l) → cont A' x' q = cont A x q) :
  World n (w'.set (A par) (.lst ((f9 A gl kk).set c (.ref r)))) (pY A (gl c) r) x' := by
 have h1 := uB.new hW hk hr hW.aIt er (gl c)
 have ee : pY (cont A x) (gl c) (some o) par = some (.lst (f9 A gl kk)) := by rw [fR hne]; exact hpar
 have h3 := h1.set ee (.lst ((f9 A gl kk).set c (.ref r)))
 rw [fR hne] at h3
 refine h3.sub fun q u e => ⟨?_, rfl⟩
 by_cases c1 : q = par
 ·subst c1
  rw [rJ, aB1 inj]
  rw [hpar'] at e
  exact e
 rw [fR c1]
 by_cases c2 : q = gl c
 ·subst c2
  rw [rJ]
  rw [hrow] at e
  exact e
 rw [fR c2, ← e]
 exact (hoth _ q c1 c2 fun l hl => fR hl).symm
end
structure St (n i : Nat) (m : Mo) (w0 w : W) (A : HB) (x : Wx) : Prop where
 aKn : wA w 1 0
 mod : LC w i m
 WA : World n w A x
 n2 : 2 ≤ n
 i2 : 2 ≤ i
 hi : i < n
 le : w0.length ≤ w.length
 fd : ∀ j, j < n → j ≠ 1 → j ≠ 0 → w[j]? = w0[j]?
section
variable {n d0 : Nat} {w w' w0 : W} {A A' A1 : HB} {C : Con} {x x' : Wx} {σ : Sg} {P : D → W → Prop} {PL : List D → W → Prop} {PF : Fl → W → Prop} {PU : Unit → W → Prop} {PI : lO → W → Prop} {l : vK} {o o1 u : MO} {k : bE} {tS : Addr} {i h p : Nat} {m : Mo} {b : Int}
theorem St.kept (s : St n i m w0 w A x) (d : wA w' 1 0) (kk : Pc.Kept w w' 1 0) : St n i m w0 w' A x :=
 ⟨d, Kept.mod kk s.i2 s.mod, Kept.WA kk s.n2 s.WA, s.n2, s.i2, s.hi, by rw [kk.1]; exact s.le, fun j h1 h2 h3 => by rw [kk.2 j h2 h3]; exact s.fd j h1 h2 h3⟩
theorem St.grow (s : St n i m w0 w A x) (d : wA w' 1 0) (g : vR w w' 1 0) : St n i m w0 w' A x :=
 ⟨d, vR.mod g s.i2 s.mod, uB.grow s.WA s.n2 g, s.n2, s.i2, s.hi, bq s.le g.le, fun j h1 h2 h3 => by rw [g.at_ j (by have := s.WA.aIt; omega) h2 h3]; exact s.fd j h1 h2 h3⟩
theorem St.app (s : St n i m w0 w A x) (u : W) : St n i m w0 (w ++ u) A x := s.grow s.aKn.app ⟨by simp, fun i hi _ _ => bj hi⟩
theorem St.set {j : Nat} (s : St n i m w0 w A x) (hj : n ≤ j) (hw : World n (w.set j o) A' x') : St n i m w0 (w.set j o) A' x' :=
 ⟨s.aKn.set (by have := s.n2; omega) (by have := s.n2; omega), by unfold LC; rw [bu (by have := s.hi; omega)]; exact s.mod, hw, s.n2, s.i2, s.hi, by rw [List.length_set]; exact s.le, fun j' h1 h2 h3 => by rw [bu (by omega)]; exact s.fd j' h1 h2 h3⟩
end
def aHA (x : Wx) (ps : List Int) : Wx := { x with s := { x.s with parts := ps } }
def aHn (h : Nat) (x : Wx) (hs cs : List Int) : List Int := (aDJ h x.s hs cs).parts
def faI (kv : List (List Key × D)) (a s r : Nat) : Int := match jM kv [.inl (a : Int), .inl (s : Int), .inl (r : Int)] with
 | some (.int i) => i
 | _ => 1
abbrev nY := Nat → Nat → Nat → Int
structure OV where
 a : Nat
 s : Nat
 r : Nat
 rank : Int
def aMb (fa : nY) (t : OV) : DL := ⟨fa t.a t.s t.r, (t.a : Int), (t.s : Int), (t.r : Int), t.rank⟩
def DA (fa : nY) (ts : List OV) : List DL := (ts.filter fun t => decide (0 < fa t.a t.s t.r)).map (aMb fa)
def aJo (ts : List OV) (a s r : Nat) : Bool := ts.any fun t => t.a == a && t.s == s && t.r == r
def aI1 (fa : nY) (ts : List OV) (a s r : Nat) (v : Int) : Int := if aJo ts a s r then (if fa a s r = 0 then v + 1 else 0) else v
def aHa (fa : nY) (ts : List OV) (lk : List (List (List Int))) : List (List (List Int)) := lk.mapIdx fun a own => own.mapIdx fun s row => row.mapIdx fun r v => aI1 fa ts a s r v
section
variable {n : Nat} {w w' : W} {x : Wx} {σ : Sg} {P : D → W → Prop} {PF : Fl → W → Prop} {PU : Unit → W → Prop} {k : bE} {i h p f : Nat} {m : Mo} {b : Int} {s : jO} {ts : List OV} {kv : List (List Key × D)}
theorem AQ {o : MO} : (w ++ [o])[w.length]? = some o := by rw [cy (az _)]; simp
theorem tyL {r : Nat} {xs : List D} (e : w[r]? = some (.lst xs)) : tyD (.ref r) w = some "list" := by simp only [tyD, e]
end
def aLJ (h : Nat) (s : jO) (c r : Nat) : Bool := !(r == c) && (EI s r == EI s c) && (decide (h ≤ r) || s.living.getD r 0 == 1)
def aA7 (h : Nat) (s : jO) (c : Nat) : List Nat := (List.range s.parts.length).filter (aLJ h s c)
def aEX (h : Nat) (s : jO) (a c : Nat) (rank : Int) : List OV := (aA7 h s c).map fun r => ⟨a, c, r, rank⟩
def aLP (h : Nat) (fa : nY) (s : jO) (a c : Nat) (rank : Int) : jO := { s with fS := s.fS ++ DA fa (aEX h s a c rank), wD := aHa fa (aEX h s a c rank) s.wD }
section
variable {n B : Nat} {w w' : W} {x : Wx} {σ : Sg} {P : D → W → Prop} {PF : Fl → W → Prop} {PU : Unit → W → Prop} {PI : lO → W → Prop} {k : bE} {i h p f : Nat} {m : Mo} {b : Int} {s : jO} {ts : List OV} {kv : List (List Key × D)}
theorem nL {xs : List D} : T (iterM (.tup xs) w) PI = PI ⟨xs, always⟩ w := by unfold T; rfl
theorem vM {xs : List D} : T (iterM (.lst xs) w) PI = PI ⟨xs, always⟩ w := by unfold T; rfl
end
def aHr (s : jO) (c : Nat) (v : Int) (ss : List (Role × Int)) : jO := { s with living := s.living.set c v, cD := List.zipWith (fun row q => row.set c q) s.cD ss }
def aHk (m : Mo) (s : jO) (c : Nat) : jO := aHr s c 0 (List.replicate m.dO.length (.rests, 0))
def aK3 (m : Mo) (b : Int) (s : jO) (c : Nat) : jO := aHr s c 1 ((List.range m.dO.length).map fun a => (.qX, KY m b s a c))
def aKo (h : Nat) (fa : nY) (s0 : jO) (c : Nat) (j : Nat) : jO := (List.range j).foldl (fun q a => if (G7 s0 a c).1 = .xP then aLP h fa q a c 0 else q) s0
def aKR (m : Mo) (h : Nat) (fa : nY) (s : jO) (c : Nat) : jO := aHk m (aKo h fa s c m.dO.length) c
def doF (fa : nY) (m : Mo) (b : Int) (h : Nat) (s : jO) : uS → jO
 | .UD c => aHk m s c
 | .stop c => aKR m h fa s c
 | .rise c => aK3 m b s c
 | d => doS m b h s d
def lkP (fa : nY) (lk : List (List Key × D)) (a c : Nat) (rs : List Nat) : List (List Key × D) := rs.foldl (fun lk (r : Nat) => putD lk [.inl (a : Int), .inl (c : Int), .inl (r : Int)] (.int (if fa a c r = 0 then lkI lk a c r + 1 else 0))) lk
def keyD (a c r : Nat) : D := .tup [.int (a : Nat), .int (c : Nat), .int (r : Nat)]
def aKB (fa : nY) (x : Wx) (a c : Nat) (rank : Int) (rs : List Nat) : Wx := { x with s := { x.s with fS := x.s.fS ++ DA fa (rs.map fun r => ⟨a, c, r, rank⟩) }, lk := lkP fa x.lk a c rs, xT := x.xT ++ rs.map (keyD a c) }
def aKA (h : Nat) (fa : nY) (x : Wx) (a c : Nat) (rank : Int) : Wx := aKB fa x a c rank (aA7 h x.s c)
def stX (x : Wx) (c : Nat) (ss : Nat → Role × Int) (j : Nat) : Wx := { x with s := { x.s with cD := x.s.cD.mapIdx fun a row => if a < j then row.set c (ss a) else row } }
def aKm (x : Wx) (c : Nat) (v : Int) : Wx := { x with s := { x.s with living := x.s.living.set c v } }
def aHs (x : Wx) (c : Nat) : Wx := stX (aKm x c 0) c (fun _ => (.rests, 0)) x.s.cD.length
def aLh (m : Mo) (b : Int) (x : Wx) (c : Nat) : Wx := stX (aKm x c 1) c (fun a => (.qX, KY m b x.s a c)) x.s.cD.length
def aKf (h : Nat) (fa : nY) (x : Wx) (c j : Nat) : Wx := (List.range j).foldl (fun y a => if (G7 x.s a c).1 = .xP then aKA h fa y a c 0 else y) x
def aKh (h : Nat) (fa : nY) (x : Wx) (c : Nat) : Wx := aHs (aKf h fa x c x.s.cD.length) c
structure vV (m : Mo) (h B : Nat) (x : Wx) : Prop where
 living : x.s.living.length = h ∧ ∀ v ∈ x.s.living, 0 ≤ v ∧ v ≤ 1
 parts : (x.s.parts.length : Int) = h + m.vQ
 cD : x.s.cD.length = m.dO.length ∧ ∀ r ∈ x.s.cD, r.length = h
 lk : aLz x.lk
 b1 : x.lk.length ≤ B
 b2 : x.xT.length ≤ B
 b3 : x.s.fS.length ≤ B
section
variable {n d0 B : Nat} {w w' w0 : W} {A A' A1 : HB} {C : Con} {x x' : Wx} {σ : Sg} {P : D → W → Prop} {PL : List D → W → Prop} {PF : Fl → W → Prop} {PU : Unit → W → Prop} {PI : lO → W → Prop} {l : vK} {o o1 u : MO} {k : bE} {i h p f : Nat} {m : Mo} {b : Int} {kv : List (List Key × D)} {fa : nY}
theorem vV.le (o : MoB m h) (ok : vV m h B x) : x.s.parts.length ≤ 10 := by
 have h6 := o.dO.h6
 have ho := o.vQ
 have := ok.parts
 omega
theorem vV.mono {B' : Nat} (ok : vV m h B x) (hB : B ≤ B') : vV m h B' x := ⟨ok.living, ok.parts, ok.cD, ok.lk, bq ok.b1 hB, bq ok.b2 hB, bq ok.b3 hB⟩
end
section
variable {n d0 B : Nat} {w w' w0 : W} {A A' A1 : HB} {C : Con} {x x' : Wx} {σ : Sg} {P : D → W → Prop} {PL : List D → W → Prop} {PF : Fl → W → Prop} {PU : Unit → W → Prop} {PI : lO → W → Prop} {l : vK} {o o1 u : MO} {k : bE} {i h p f : Nat} {m : Mo} {b : Int} {kv : List (List Key × D)} {fa : nY}
theorem zipIdx {α β : Type} {f : α → β → α} {ss : Nat → β} : ∀ {xs : List α}, (xs.mapIdx fun a x => if a < xs.length then f x (ss a) else x) = List.zipWith f xs ((List.range xs.length).map ss) := fun {xs} => by
 refine List.ext_getElem? fun j => ?_
 rw [List.getElem?_mapIdx, List.getElem?_zipWith, da]
 by_cases c : j < xs.length
 ·rw [bo c, List.getElem?_range c]
  simp [c]
 ·rw [List.getElem?_eq_none (by omega)]
  rfl
end
def aIk (x : Wx) (ss : List (List (Role × Int))) : Wx := { x with s := { x.s with cD := ss } }
def aLD (x : Wx) (t : Int) : Wx := { x with s := { x.s with downs := x.s.downs ++ [t] } }
def upX (x : Wx) (t : Int) : Wx := { x with s := { x.s with downs := x.s.downs.filter fun y => !(y == t) } }
def aJ9 (x : Wx) (a c : Nat) (r : Int) : Wx := { x with s := aBi x.s a c r }
def reX (m : Mo) (b : Int) (ahead x : Wx) : Wx := aIk x (aHj (upQ m b ahead.s x.s) x.s.cD)
def aMw (h : Nat) (x : Wx) (c a : Nat) : Wx := { x with s := aKy h x.s c a }
def doX (fa : nY) (m : Mo) (b : Int) (h : Nat) (x : Wx) : uS → Wx
 | .UD c => aHs x c
 | .stop c => aKh h fa x c
 | .rise c => aLh m b x c
 | .down t => reX m b x (aLD x t)
 | .up t => reX m b x (upX x t)
 | .rank a c r => reX m b x (aJ9 x a c r)
 | .RA hs cs => aHA x (aHn h x hs cs)
 | .TH => aHA x (aHn h x [] [])
 | .ask c a => aMw h x c a
structure Bd where
 k : bE
 B : Addr
 S : Addr
def UW : List Str := [("self" : Str), ("address" : Str), ("house" : Str), ("role" : Str), ("rank" : Str), ("receiver" : Str)]
def WD (k : Bd) : MS :=
 (aJ (dH (aV (aE eG (aB 3) (eC (.str ("waits" : Str))))) (cR (bB "list" cJ (eJ k.B ("news_told" : Str) (aB 0)) (aA (bH (aA (aB 1) (aA (aB 2) (aA (eC (.str ("serves" : Str))) aD)))) aD))) aZ)
 (aJ (aO (bH (aA (eC (.str ("serves" : Str))) (aA (eJ k.k.eK ("every" : Str) (eJ k.B ("plan_here" : Str) (aB 0))) aD))) (eM (aE aY (eJ k.B ("stands_now" : Str) (aB 0)) (aB 1)) (aB 2)))
 (aJ (aO (aH (pW k.k) 4 aM (aA (eJ k.B ("plan_here" : Str) (aB 0)) (aA (eJ k.B ("state_here" : Str) (aB 0)) (aA (aB 1) (aA (aB 2) aD))))) (aQ 4))
 (g9 (cK (aH (x6 k.k) 3 aM (aA (eJ k.B ("plan_here" : Str) (aB 0)) (aA (eJ k.B ("state_here" : Str) (aB 0)) (aA (aB 2) aD))))) (aQ 5) (cR (bB "list" cJ (eJ k.B ("letters_sent" : Str) (aB 0)) (aA (bH (aA (aB 1) (aA (aB 2) (aA (aB 5) (aA (aB 4) aD))))) aD)))))))
def U4 (k : Bd) : MF := bF (WD k) UW
def A8 : List Str := [("self" : Str), ("address" : Str), ("row" : Str), ("house" : Str), ("role" : Str), ("clock" : Str)]
def B7 (k : Bd) : MS :=
 (g9 (dB lJ (aA (eJ k.B ("stands_now" : Str) (aB 0)) aD)) (bV 2 (aI (aQ 1) (aI (aQ 2) bO))) (g9 (dB lJ (aA (aP aHF (aA (aB 2) aD)) aD)) (bV 2 (aI (aQ 3) (aI (bV 2 (aI (aQ 4) (aI (aQ 5) bO))) bO))) (dH (fU (aV (aE oX (aB 4) (eC (.str ("rests" : Str))))) (aV (aE gtM (aB 5) (eC (.int 1))))) (aO (bH (aA (aB 4) (aA (aE nK (aB 5) (eC (.int 1))) aD))) (eM (aB 2) (aB 3))) (dH (aV (aE oX (aB 4) (eC (.str ("rests" : Str))))) (cR (C8 k.B ("send" : Str) (U4 k) 4 aM (aB 0) (aA (aB 1) (aA (aB 3) (aA (aB 4) aD))))) aZ))))
def BQ (k : Bd) : MF := bF (B7 k) A8
def YO : List Str := [("one" : Str), ("other" : Str), ("rank" : Str), ("number" : Str), ("other_rank" : Str), ("other_number" : Str)]
def XY (k : Bd) : MS :=
 (aJ (aO (aB 0) (bV 2 (aI (aQ 2) (aI (aQ 3) bO))))
 (aJ (aO (aB 1) (bV 2 (aI (aQ 4) (aI (aQ 5) bO))))
 (aU (eOr (aE gtM (aB 2) (aB 4)) (iZ (aE eG (aB 2) (aB 4)) (aE TV (aB 3) (aB 5)))))))
def Z4 (k : Bd) : MF := bF (XY k) YO
def VS : List Str := [("self" : Str), ("address" : Str), ("sender" : Str), ("house" : Str), ("rank" : Str), ("role" : Str), ("clock" : Str), ("own" : Str), ("is_sender_ahead" : Str)]
def VP (k : Bd) : MS :=
 (aJ (aO (aE aY (aE aY (eJ k.B ("stands_now" : Str) (aB 0)) (aB 1)) (aB 3)) (bV 2 (aI (aQ 5) (aI (aQ 6) bO))))
 (aJ (aO (aH (pW k.k) 4 aM (aA (eJ k.B ("plan_here" : Str) (aB 0)) (aA (eJ k.B ("state_here" : Str) (aB 0)) (aA (aB 1) (aA (aB 3) aD))))) (aQ 7))
 (aJ (aO (aH (Z4 k) 2 aM (aA (bH (aA (aB 4) (aA (aB 2) aD))) (aA (bH (aA (aB 7) (aA (aB 3) aD))) aD))) (aQ 8))
 (dH (aV (aE eG (aB 5) (eC (.str ("serves" : Str))))) (dH (fU (aV (aE gtM (aB 4) (eC (.int 0)))) (dS (aB 8))) (aJ (aO (bH (aA (eC (.str ("waits" : Str))) (aA (aH (sF k.k) 4 aM (aA (eJ k.B ("plan_here" : Str) (aB 0)) (aA (eJ k.B ("state_here" : Str) (aB 0)) (aA (aB 1) (aA (aB 3) aD))))) aD))) (eM (aE aY (eJ k.B ("stands_now" : Str) (aB 0)) (aB 1)) (aB 3)))
 (cR (bB "list" cJ (eJ k.B ("news_told" : Str) (aB 0)) (aA (bH (aA (aB 1) (aA (aB 3) (aA (eC (.str ("yields" : Str))) aD)))) aD)))) aZ) (dH (aV (aE eG (aB 4) (eC (.int 0)))) (aO (bH (aA (aB 5) (aA (aP min2 (aA (aB 6) (aA (aH (aBJ k.k) 2 aM (aA (eJ k.B ("plan_here" : Str) (aB 0)) (aA (aB 7) aD))) aD))) aD))) (eM (aE aY (eJ k.B ("stands_now" : Str) (aB 0)) (aB 1)) (aB 3))) (dH (iB (dS (aB 8)) (cS (dS (eJ k.k.eK ("takes" : Str) (eJ k.B ("plan_here" : Str) (aB 0)))))) (aO (bH (aA (aB 5) (aA (aP max2 (aA (aB 6) (aA (aH (OQ k.k) 2 aM (aA (eJ k.B ("plan_here" : Str) (aB 0)) (aA (aB 7) aD))) aD))) aD))) (eM (aE aY (eJ k.B ("stands_now" : Str) (aB 0)) (aB 1)) (aB 3))) aZ))))))
def VN (k : Bd) : MF := bF (VP k) VS
def M3 : List Str := [("self" : Str), ("address" : Str), ("sender" : Str), ("receiver" : Str), ("rank" : Str), ("living" : Str), ("parts" : Str), ("others" : Str)]
def NK (k : Bd) : MS :=
 (aJ (aO (eJ k.B ("state_here" : Str) (aB 0)) (zJ 2 (aI (aQ 5) (aI (aQ 6) (aI (aQ 7) bO)))))
 (aJ (dH (aV (aE oX (aE aY (aB 6) (aB 2)) (aE aY (aB 6) (aB 3)))) (aU (eC .non)) aZ)
 (dH (aV (aE geM (aB 3) (aP cZ (aA (aB 5) aD)))) (dH (aV (aE gtM (aB 4) (eC (.int 0)))) (aO (aB 2) (eM (aE aY (eJ k.B ("tables_now" : Str) (aB 0)) (aE nK (aB 3) (aP cZ (aA (aB 5) aD)))) (aB 1))) aZ) (dH (aV (aE eG (aE aY (aB 5) (aB 3)) (eC (.int 1)))) (cR (C8 k.B ("hear" : Str) (VN k) 5 aM (aB 0) (aA (aB 1) (aA (aB 2) (aA (aB 3) (aA (aB 4) aD)))))) aZ))))
def MD (k : Bd) : MF := bF (NK k) M3
def KR : List Str := [("self" : Str), ("letter" : Str), ("left" : Str), ("rest" : Str)]
def IT (k : Bd) : MS :=
 (aJ (aO (aB 1) (zJ 1 (aI (aQ 2) (aI (aQ 3) bO))))
 (dH (aV (aE gtM (aB 2) (eC (.int 1)))) (cR (bB "list" cJ (eJ k.B ("still_under_way" : Str) (aB 0)) (aA (aE a9 (bH (aA (aE nK (aB 2) (eC (.int 1))) aD)) (aP cH (aA (aB 3) aD))) aD))) (cR (C8 k.B ("arrive" : Str) (MD k) 5 aM (aB 0) (aA (aE aY (aB 3) (eC (.int 0))) (aA (aE aY (aB 3) (eC (.int 1))) (aA (aE aY (aB 3) (eC (.int 2))) (aA (aE aY (aB 3) (eC (.int 3))) aD))))))))
def H6 (k : Bd) : MF := bF (IT k) KR
def V0 : List Str := [("self" : Str), ("plan" : Str), ("state" : Str), ("many_old" : Str), ("living" : Str), ("parts" : Str), ("downs" : Str), ("ranks" : Str), ("stands" : Str), ("letters" : Str), ("lacks" : Str), ("tables" : Str), ("asks" : Str), ("letter" : Str), ("row" : Str)]
def U2 (k : Bd) : MS :=
 (aJ (aO (aB 2) (bV 9 (aI (aQ 4) (aI (aQ 5) (aI (aQ 6) (aI (aQ 7) (aI (aQ 8) (aI (aQ 9) (aI (aQ 10) (aI (aQ 11) (aI (aQ 12) bO)))))))))))
 (aJ (CO k.B ("plan_here" : Str) (aB 0) (aB 1))
 (aJ (CO k.B ("state_here" : Str) (aB 0) (aB 2))
 (aJ (CO k.B ("stands_now" : Str) (aB 0) (a8 (cK (aB 8)) [14] (aQ 14) bA (aP HV (aA (aB 14) aD))))
 (aJ (CO k.B ("tables_now" : Str) (aB 0) (a8 (cK (aB 11)) [14] (aQ 14) bA (aP HV (aA (aB 14) aD))))
 (aJ (CO k.B ("still_under_way" : Str) (aB 0) (eNew aD))
 (aJ (CO k.B ("letters_sent" : Str) (aB 0) (Z3 (cK (iU fO (aB 9) (bK (aB 3)) bS)) [13] (aQ 13) bA (iU fO (aB 13) (bK (eC (.int 1))) bS)))
 (aJ (CO k.B ("news_told" : Str) (aB 0) (eNew aD))
 (aJ (g9 (cK (iU fO (aB 9) bS (bK (aB 3)))) (aQ 13) (cR (C8 k.B ("move_on" : Str) (H6 k) 2 aM (aB 0) (aA (aB 13) aD))))
 (cR (C8 k.B ("end_clocks" : Str) (BQ k) 1 aM (aB 0) aD)))))))))))
def WJ (k : Bd) : MF := bF (U2 k) V0
def GS : List Str := [("self" : Str), ("lacks" : Str), ("fates" : Str), ("living" : Str), ("parts" : Str), ("downs" : Str), ("ranks" : Str), ("stands" : Str), ("letters" : Str), ("others" : Str), ("tables" : Str), ("asks" : Str), ("row" : Str)]
def GW (k : Bd) : MS :=
 (aJ (aO (eJ k.B ("state_here" : Str) (aB 0)) (bV 9 (aI (aQ 3) (aI (aQ 4) (aI (aQ 5) (aI (aQ 6) (aI (aQ 7) (aI (aQ 8) (aI (aQ 9) (aI (aQ 10) (aI (aQ 11) bO)))))))))))
 (aJ (aO (aP cH (aA (a8 (cK (eJ k.B ("stands_now" : Str) (aB 0))) [12] (aQ 12) bA (aP cH (aA (aB 12) aD))) aD)) (aQ 7))
 (aJ (aO (aE a9 (aP cH (aA (eJ k.B ("still_under_way" : Str) (aB 0)) aD)) (aH (A3 k.k) 2 aM (aA (eJ k.B ("letters_sent" : Str) (aB 0)) (aA (aB 2) aD)))) (aQ 8))
 (aJ (aO (aP cH (aA (a8 (cK (eJ k.B ("tables_now" : Str) (aB 0))) [12] (aQ 12) bA (aP cH (aA (aB 12) aD))) aD)) (aQ 10))
 (aU (bH (aA (aB 3) (aA (aB 4) (aA (aB 5) (aA (aB 6) (aA (aB 7) (aA (aB 8) (aA (aH (IY k.k) 3 aM (aA (aB 1) (aA (eJ k.B ("letters_sent" : Str) (aB 0)) (aA (aB 2) aD)))) (aA (aB 10) (aA (aB 11) aD)))))))))))))))
def GQ (k : Bd) : MF := bF (GW k) GS
def iQ : List Str := [("plan" : Str), ("lacks" : Str), ("sent_here" : Str), ("ahead" : Str), ("thing" : Str), ("address" : Str), ("sender" : Str), ("receiver" : Str), ("fate" : Str), ("part" : Str)]
def lP (k : Bd) : MS :=
 (aJ (dH (iB (cS (dS (aP (gQ g6) (aA (aB 4) (aA (eC (.ty "tuple")) aD))))) (iB (aV (aE oX (aP cZ (aA (aB 4) aD)) (eC (.int 4)))) (cS (dS (aP allM (aA (a8 (cK (aB 4)) [9] (aQ 9) bA (aH (gB k.k) 1 aM (aA (aB 9) aD))) aD)))))) (aU (eC (.bl false))) aZ)
 (aJ (aO (aB 4) (bV 4 (aI (aQ 5) (aI (aQ 6) (aI (aQ 7) (aI (aQ 8) bO))))))
 (aJ (dH (iB (aV (aE kO (iU fO (aB 4) bS (bK (AZ DF (eC (.int 1))))) (aB 2))) (fU (aV (aE oX (aB 3) (bH aD))) (aV (aE leA (iU fO (aB 4) bS (bK (AZ DF (eC (.int 1))))) (iU fO (aB 3) bS (bK (AZ DF (eC (.int 1))))))))) (aU (eC (.bl false))) aZ)
 (aJ (dH (aV (aE eG (aB 8) (eC (.int 0)))) (aU (aE TV (aE aY (aE aY (aE aY (aB 1) (aB 5)) (aB 6)) (aB 7)) (eJ k.k.eK ("lost" : Str) (aB 0)))) aZ)
 (aU (eCh UE UE (eC (.int 1)) (aB 8) (eJ k.k.eK ("slow" : Str) (aB 0))))))))
def j8 (k : Bd) : MF := bF (lP k) iQ
theorem KJ (x0 x1 x2 x3 x4 : D) : begin iQ [x0, x1, x2, x3, x4] = [some x0, some x1, some x2, some x3, some x4, none, none, none, none, none] := rfl
def ZZ : List Str := [("plan" : Str), ("lacks" : Str), ("sent_here" : Str), ("fates" : Str), ("found" : Str), ("ahead" : Str), ("place" : Str), ("thing" : Str)]
def XX (k : Bd) : MS :=
 (aJ (aO TJ (aQ 4))
 (aJ (aO (bH aD) (aQ 5))
 (aJ (g9 (dB LY (aA (aB 3) aD)) (bV 2 (aI (aQ 6) (aI (aQ 7) bO))) (aJ (dH (cS (dS (aH (j8 k) 5 aM (aA (aB 0) (aA (aB 1) (aA (aB 2) (aA (aB 5) (aA (aB 7) aD)))))))) aG3 aZ)
 (aJ (aO (aE aY (aB 7) (AZ DF (eC (.int 1)))) (eM (aB 4) (iU fO (aB 7) bS (bK (AZ DF (eC (.int 1)))))))
 (aO (aB 7) (aQ 5)))))
 (aU (aB 4)))))
def X4 (k : Bd) : MF := bF (XX k) ZZ
def X9 : List Str := [("plan" : Str), ("deed" : Str), ("address" : Str)]
def ZO (k : Bd) : MS :=
 (aJ (dH (aV (aE kO (aE aY (aB 1) (eC (.int 0))) (bH (aA (eC (.str ("fall" : Str))) (aA (eC (.str ("stop" : Str))) aD))))) (aU (bH aD)) aZ)
 (aU (aP cH (aA (a8 (dB iO (aA (aH (eQ k.k) 1 aM (aA (aB 0) aD)) aD)) [2] (aQ 2) bA (bH (aA (aB 2) (aA (aE aY (aB 1) (eC (.int 1))) (aA (eC (.str ("rests" : Str))) aD))))) aD))))
def X5 (k : Bd) : MF := bF (ZO k) X9
def R9 : List Str := [("plan" : Str), ("state" : Str), ("deeds" : Str), ("news" : Str), ("place" : Str), ("deed" : Str)]
def SM (k : Bd) : MS :=
 (aJ (aO (eNew aD) (aQ 3))
 (aJ (g9 (dB LY (aA (aB 2) aD)) (bV 2 (aI (aQ 4) (aI (aQ 5) bO))) (aJ (dH (cS (dS (aH (aB5 k.k k.S) 3 aM (aA (aB 0) (aA (aB 1) (aA (aB 5) aD)))))) aG3 aZ)
 (aJ (aO (aH (WL k.k) 4 aM (aA (aB 0) (aA (aB 1) (aA (aB 5) (aA TJ aD))))) (aQ 1))
 (cR (bB "list" aGk (aB 3) (aA (aH (X5 k) 2 aM (aA (aB 0) (aA (aB 5) aD))) aD))))))
 (aU (bH (aA (aB 1) (aA (aP cH (aA (aB 3) aD)) aD))))))
def P7 (k : Bd) : MF := bF (SM k) R9
def aD1 : List Str := [("plan" : Str), ("state" : Str), ("deeds" : Str), ("fates" : Str), ("after" : Str), ("news" : Str), ("beat" : Str), ("sent_here" : Str), ("known" : Str), ("letter" : Str)]
def aFb (k : Bd) : MS :=
 (aJ (aO (aH (P7 k) 3 aM (aA (aB 0) (aA (aB 1) (aA (aB 2) aD)))) (bV 2 (aI (aQ 4) (aI (aQ 5) bO))))
 (aJ (aO (aLT k.B (WJ k) 3 aM (aA (aB 0) (aA (aB 4) (aA (aP cZ (aA (aE aY (aB 1) (eC (.int 5))) aD)) aD)))) (aQ 6))
 (aJ (aO (aMm (cK (eJ k.B ("letters_sent" : Str) (aB 6))) [9] (aQ 9) bA (iU fO (aB 9) bS (bK (AZ DF (eC (.int 1))))) (eC (.bl true))) (aQ 7))
 (aJ (aO (aH (X4 k) 4 aM (aA (aB 0) (aA (aE aY (aB 1) (eC (.int 6))) (aA (aB 7) (aA (aB 3) aD))))) (aQ 8))
 (aU (bH (aA (aE a9 (aB 5) (aP cH (aA (eJ k.B ("news_told" : Str) (aB 6)) aD))) (aA (C8 k.B ("state_by" : Str) (GQ k) 3 aM (aB 6) (aA (aE aY (aB 1) (eC (.int 6))) (aA (aB 8) aD))) aD))))))))
def aCX (k : Bd) : MF := bF (aFb k) aD1
abbrev uH (k : Bd) : List D → List D → List D := fun xs zs => aKa [(0, 0), (0, 1), (1, 0), (1, 1)] xs zs []
def NF : List Str := [("_law_one" : Str), ("_law_other" : Str)]
def NP (k : bE) : MS :=
 (aU (eOr (aE gtM (aE aY (aB 0) (eC (.int 0))) (aE aY (aB 1) (eC (.int 0)))) (iZ (aE eG (aE aY (aB 0) (eC (.int 0))) (aE aY (aB 1) (eC (.int 0)))) (aE TV (aE aY (aB 0) (eC (.int 1))) (aE aY (aB 1) (eC (.int 1)))))))
def zM (k : bE) : MF := bF (NP k) NF
def JF : List Str := [("_law_model_here" : Str), ("_law_world_here" : Str), ("_law_letter" : Str), ("_law_news" : Str), ("_law_left" : Str), ("_law_a" : Str), ("_law_s" : Str), ("_law_r" : Str), ("_law_rank_here" : Str), ("_law_many" : Str), ("_law_stand" : Str), ("_law_own" : Str)]
def K4 (k : bE) : MS :=
 (aJ (aO (aB 2) (bV 5 (aI (aQ 4) (aI (aQ 5) (aI (aQ 6) (aI (aQ 7) (aI (aQ 8) bO)))))))
 (aJ (aO (aP cZ (aA (aE aY (aB 1) (eC (.str ("living" : Str)))) aD)) (aQ 9))
 (aJ (dH (iB (aV (aE oX (aE aY (aE aY (aB 1) (eC (.str ("parts" : Str)))) (aB 6)) (aE aY (aE aY (aB 1) (eC (.str ("parts" : Str)))) (aB 7)))) (fU (aV (aE TV (aB 7) (aB 9))) (aV (aE eG (aE aY (aE aY (aB 1) (eC (.str ("living" : Str)))) (aB 7)) (eC (.int 0)))))) (aU (eC .non)) aZ)
 (aJ (dH (aV (aE geM (aB 7) (aB 9))) (aJ (dH (aV (aE gtM (aB 8) (eC (.int 0)))) (aO (aB 6) (eM (aE aY (aE aY (aB 1) (eC (.str ("tables" : Str)))) (aE nK (aB 7) (aB 9))) (aB 5))) aZ)
 (aU (eC .non))) aZ)
 (aJ (aDo 10 11 (aA (aE aY (aE aY (aE aY (aB 1) (eC (.str ("stands" : Str)))) (aB 5)) (aB 7)) (aA (bH (aA (aH (nD k) 4 aM (aA (aB 0) (aA (aB 1) (aA (aB 5) (aA (aB 7) aD))))) (aA (aB 7) aD))) aD)))
 (dH (fU (aV (aE eG (aE aY (aB 10) (eC (.int 0))) (eC (.str ("serves" : Str))))) (fU (aV (aE gtM (aB 8) (eC (.int 0)))) (dS (aH (zM k) 2 aM (aA (bH (aA (aB 8) (aA (aB 6) aD))) (aA (aB 11) aD)))))) (aJ (aO (aH (uM k) 4 aM (aA (aB 0) (aA (aB 1) (aA (aB 5) (aA (aB 7) aD))))) (eM (aE aY (aE aY (aB 1) (eC (.str ("stands" : Str)))) (aB 5)) (aB 7)))
 (cR (bB "list" cJ (aB 3) (aA (bH (aA (aB 5) (aA (aB 7) (aA (eC (.str ("yields" : Str))) aD)))) aD)))) (dH (fU (aV (aE eG (aE aY (aB 10) (eC (.int 0))) (eC (.str ("waits" : Str))))) (aV (aE eG (aB 8) (eC (.int 0))))) (aO (aP min2 (aA (aE aY (aB 10) (eC (.int 1))) (aA (aE a9 (eC (.int 2)) (aE mulM (aE aY (aB 0) (eC (.str ("gap" : Str)))) (aE nK (eC (.int 12)) (aE aY (aB 11) (eC (.int 0)))))) aD))) (eM (aB 10) (eC (.int 1)))) (dH (fU (aV (aE eG (aE aY (aB 10) (eC (.int 0))) (eC (.str ("waits" : Str))))) (iB (cS (dS (aE aY (aB 0) (eC (.str ("takes" : Str)))))) (dS (aH (zM k) 2 aM (aA (bH (aA (aB 8) (aA (aB 6) aD))) (aA (aB 11) aD)))))) (aO (aP max2 (aA (aE aY (aB 10) (eC (.int 1))) (aA (aH (FH k) 2 aM (aA (aB 0) (aA (aE aY (aB 11) (eC (.int 0))) aD))) aD))) (eM (aB 10) (eC (.int 1)))) aZ))))))))
def II (k : bE) : MF := bF (K4 k) JF
def T7 : List Str := [("_law_model_here" : Str), ("_law_world_here" : Str), ("_law_acts" : Str), ("_law_lots" : Str), ("_law_news" : Str), ("_law_letters" : Str), ("_law_deed_here" : Str), ("_law_one" : Str), ("_law_a" : Str), ("_law_h" : Str), ("_law_role" : Str), ("_law_clock" : Str)]
def WC (k : bE) : MS :=
 (aJ (aO (bH (aA (eNew aD) (aA (eNew aD) aD))) (bV 2 (aI (aQ 4) (aI (eM (aB 1) (eC (.str ("sent" : Str)))) bO))))
 (aJ (aO (bH (aA (a8 (cK (aE aY (aB 1) (eC (.str ("under" : Str))))) [7] (aQ 7) bA (aE a9 (bH (aA (aE nK (aE aY (aB 7) (eC (.int 0))) (eC (.int 1))) aD)) (iU fO (aB 7) (bK (eC (.int 1))) bS))) (aA (eNew aD) aD))) (bV 2 (aI (aQ 5) (aI (eM (aB 1) (eC (.str ("under" : Str)))) bO))))
 (aJ (g9 (cK (aB 2)) (aQ 6) (cR (aH (XC k) 5 aM (aA (aB 0) (aA (aB 1) (aA (aB 6) (aA (aB 3) (aA (aB 4) aD))))))))
 (aJ (aO (aE aLo (a8 (cK (aB 5)) [7] (aQ 7) (aV (aE gtM (aE aY (aB 7) (eC (.int 0))) (eC (.int 0)))) (aB 7)) (aE aY (aB 1) (eC (.str ("under" : Str))))) (eM (aB 1) (eC (.str ("under" : Str)))))
 (aJ (g9 (cK (aB 5)) (aQ 7) (dH (aV (aE eG (aE aY (aB 7) (eC (.int 0))) (eC (.int 0)))) (cR (aH (II k) 4 aM (aA (aB 0) (aA (aB 1) (aA (aB 7) (aA (aB 4) aD)))))) aZ))
 (aJ (g9 (dB iO (aA (aP cZ (aA (aE aY (aB 0) (eC (.str ("ranks" : Str)))) aD)) aD)) (aQ 8) (g9 (dB iO (aA (aP cZ (aA (aE aY (aB 1) (eC (.str ("living" : Str)))) aD)) aD)) (aQ 9) (aJ (aO (aE aY (aE aY (aE aY (aB 1) (eC (.str ("stands" : Str)))) (aB 8)) (aB 9)) (aHB 2 (aI (aQ 10) (aI (aQ 11) bO))))
 (aJ (aO (eNew (aA (aB 10) (aA (aE nK (aB 11) (aP MY (aA (aE oX (aB 10) (eC (.str ("rests" : Str)))) aD))) aD))) (eM (aE aY (aE aY (aB 1) (eC (.str ("stands" : Str)))) (aB 8)) (aB 9)))
 (dH (fU (aV (aE oX (aB 10) (eC (.str ("rests" : Str))))) (aV (aE eG (aB 11) (eC (.int 1))))) (aJ (dH (aV (aE eG (aB 10) (eC (.str ("waits" : Str))))) (cR (bB "list" cJ (aB 4) (aA (bH (aA (aB 8) (aA (aB 9) (aA (eC (.str ("serves" : Str))) aD)))) aD))) aZ)
 (aJ (aO (eNew (aA (eC (.str ("serves" : Str))) (aA (aE aY (aB 0) (eC (.str ("every" : Str)))) aD))) (eM (aE aY (aE aY (aB 1) (eC (.str ("stands" : Str)))) (aB 8)) (aB 9)))
 (cR (aH (GI k) 5 aM (aA (aB 1) (aA (aB 8) (aA (aB 9) (aA (aH (nD k) 4 aM (aA (aB 0) (aA (aB 1) (aA (aB 8) (aA (aB 9) aD))))) (aA (aB 3) aD))))))))) aZ)))))
 (aU (aP cH (aA (aB 4) aD)))))))))
def T9 (k : bE) : MF := bF (WC k) T7
structure Bt where
 cD : List (List (Role × Int))
 tables : List (List Int)
 under : List DL
 xT : List OV
 news : List D
def nwD (a c : Nat) (z : Str) : D := .tup [.int (a : Nat), .int (c : Nat), .str z]
def K5 (y : Bt) (a c : Nat) (q : Role × Int) : Bt := { y with cD := y.cD.set a ((y.cD.getD a []).set c q) }
def BA (y : Bt) (a c : Nat) : Role × Int := (y.cD.getD a []).getD c (.rests, 0)
def aKW (m : Mo) (h : Nat) (s : jO) (y : Bt) (a c : Nat) (role : Role) : Bt :=
 {K5 y a c (.xP, m.qR) with news := y.news ++ (if role = .qX then [nwD a c "serves"] else []), xT := y.xT ++ aEX h s a c (zA m s a c) }
def aIH (m : Mo) (h : Nat) (s : jO) (y : Bt) (a c : Nat) : Bt :=
 if (BA y a c).1 = .rests then y else if 1 < (BA y a c).2 then K5 y a c ((BA y a c).1, (BA y a c).2 - 1) else aKW m h s y a c (BA y a c).1
def aMs (m : Mo) (h : Nat) (s : jO) (y : Bt) (a j : Nat) : Bt := (List.range j).foldl (fun y c => aIH m h s y a c) y
def aMF (m : Mo) (h : Nat) (s : jO) (y : Bt) (i : Nat) : Bt := (List.range i).foldl (fun y a => aMs m h s y a h) y
def aDn (r1 : Int) (n1 : Nat) (r2 : Int) (n2 : Nat) : Bool := decide (r1 > r2) || (decide (r1 = r2) && decide (n1 < n2))
def aLy (m : Mo) (b : Int) (s : jO) (y : Bt) (a sd c : Nat) (rank : Int) : Bt :=
 if (BA y a c).1 = .xP then
  if 0 < rank ∧ aDn rank sd (zA m s a c) c = true then { K5 y a c (.qX, KY m b s a c) with news := y.news ++ [nwD a c "yields"] } else y
 else if rank = 0 then K5 y a c ((BA y a c).1, if GG m (zA m s a c) < (BA y a c).2 then GG m (zA m s a c) else (BA y a c).2)
 else if aDn rank sd (zA m s a c) c = true ∨ m.takes = false then K5 y a c ((BA y a c).1, if tP m b (zA m s a c) > (BA y a c).2 then tP m b (zA m s a c) else (BA y a c).2)
 else y
def aFy (m : Mo) (b : Int) (h : Nat) (s : jO) (y : Bt) (a sd r : Nat) (rank : Int) : Bt :=
 if EI s sd = EI s r then
  if h ≤ r then (if 0 < rank then { y with tables := y.tables.set (r - h) ((y.tables.getD (r - h) []).set a (sd : Int)) } else y)
  else if s.living.getD r 0 = 1 then aLy m b s y a sd r rank else y
 else y
def aK6 (m : Mo) (b : Int) (h : Nat) (s : jO) (y : Bt) (l : DL) : Bt :=
 if 1 < l.left then { y with under := y.under ++ [{ l with left := l.left - 1 }] } else aFy m b h s y l.a.toNat l.s.toNat l.r.toNat l.rank
def aKe (l : DL) : OV := ⟨l.a.toNat, l.s.toNat, l.r.toNat, l.rank⟩
def aJI (m : Mo) (b : Int) (h : Nat) (s : jO) (y : Bt) (ls : List DL) : Bt := ls.foldl (aK6 m b h s) y
def bt0 (s : jO) (j : Nat) : Bt := ⟨s.cD, s.tables, [], (s.fS.drop j).map aKe, []⟩
abbrev fa1 : nY := fun _ _ _ => 1
def aK2 (m : Mo) (b : Int) (h : Nat) (s : jO) (ds : List uS) : jO := ds.foldl (doF fa1 m b h) s
section
variable {n B0 : Nat} {w w' : W} {A : HB} {x : Wx} {y y' : Bt} {σ : Sg} {P : D → W → Prop} {PL : List D → W → Prop} {PF : Fl → W → Prop} {PU : Unit → W → Prop} {PI : lO → W → Prop} {k : Bd} {cB : Addr} {i h p f : Nat} {m : Mo} {b : Int} {s : jO} {l : vK} {o o1 : MO} {kv : List (List Key × D)}
theorem BB {x y : D} {b : Bool} (h : inD x y w = some b) : T (kO x y w) P = P (.bl (!b)) w := by
 have : kO x y w = .ok (.bl (!b)) w := by simp only [kO, h]
 rw [this, bZ]
end
def aKd (t : OV) : List Key := [.inl (t.a : Int), .inl (t.s : Int), .inl (t.r : Int)]
def aJB (ls : List OV) : List (List Key × D) := ls.foldl (fun kv t => putD kv (aKd t) (.int t.rank)) []
def onY (x : Wx) (y : Bt) : Wx := { x with s := { x.s with cD := y.cD, tables := y.tables } }
def lkF (fa : nY) (lk : List (List Key × D)) (ts : List OV) : List (List Key × D) := ts.foldl (fun lk t => putD lk (aKd t) (.int (if fa t.a t.s t.r = 0 then lkI lk t.a t.s t.r + 1 else 0))) lk
def aL9 (t : OV) : D := keyD t.a t.s t.r
def aMf (fa : nY) (x : Wx) (ts : List OV) : Wx := { x with s := { x.s with fS := x.s.fS ++ DA fa ts }, lk := lkF fa x.lk ts, xT := x.xT ++ ts.map aL9 }
def onT (fa : nY) (x : Wx) (y : Bt) (j : Nat) : Wx := aMf fa (onY x y) (y.xT.drop j)
def Pos (y : Bt) : Prop := ∀ a c, (BA y a c).1 ≠ .rests → 1 ≤ (BA y a c).2
def aLW (x : Wx) (ds : List D) : Wx := { x with xT := ds }
def aCA (x : Wx) (ls : List DL) : Wx := { x with s := { x.s with fS := ls } }
def aET (fa : nY) (m : Mo) (b : Int) (h : Nat) (x : Wx) (ds : List uS) : Wx := ds.foldl (doX fa m b h) x
def aDY (x : Wx) : Wx := aCA (aLW x []) []
def aGV (ls : List DL) : List DL := (ls.filter fun l => decide (1 < l.left)).map fun l => { l with left := l.left - 1 }
section
variable (m : Mo) (b : Int) (h : Nat) (x : Wx) (ds : List uS)
def X7 : jO := aK2 m b h (aLl m h x) ds
def startB : Bt := bt0 (X7 m b h x ds) x.s.fS.length
def aIO : Bt := aJI m b h (X7 m b h x ds) (startB m b h x ds) x.s.fS
def doneB : Bt := aMF m h (X7 m b h x ds) (aIO m b h x ds) m.dO.length
def aIG (fa : nY) : Wx := aCA (aET fa m b h (aDY x) ds) (aGV x.s.fS ++ (aET fa m b h (aDY x) ds).s.fS)
def aGg (fa : nY) : Wx := onT fa (aIG m b h x ds fa) (doneB m b h x ds) (startB m b h x ds).xT.length
end
def iL : List Str := [("_law_model_here" : Str), ("_law_own_plan" : Str), ("_law_world_here" : Str), ("_law_acts" : Str), ("_law_lots" : Str), ("_law_state_here" : Str), ("_law_kept" : Str), ("_law_found" : Str), ("_law_news" : Str)]
def iN (k : Bd) : MS :=
 (aJ (aO (aH (CL k.k) 2 aM (aA (aB 0) (aA (aB 2) aD))) (aQ 5))
 (aJ (aO (aP aBj (aA (bH (aA (aB 5) (aA (aB 3) (aA (aB 4) aD)))) aD)) (aQ 6))
 (aJ (aO (YB (aCX k) 2 2 (uH k) (aA (aB 1) (aA (aB 5) aD)) (aA (aB 3) (aA (aB 4) aD))) (aQ 7))
 (aJ (aO (aH (T9 k.k) 4 aM (aA (aB 0) (aA (aB 2) (aA (aB 3) (aA (aH (C0 k.k) 1 aM (aA (aB 4) aD)) aD))))) (aQ 8))
 (aU (iZ (aE eG (aP aBj (aA (aB 7) aD)) (aP aBj (aA (bH (aA (aB 8) (aA (aH (CL k.k) 2 aM (aA (aB 0) (aA (aB 2) aD))) aD))) aD))) (aE eG (aP aBj (aA (bH (aA (aB 5) (aA (aB 3) (aA (aB 4) aD)))) aD)) (aB 6))))))))
def cP (k : Bd) : MF := bF (iN k) iL
open PySem.W (dataLe)
abbrev Qd := Int × Int × Int × Int
def l4 (t : Qd) : List Int := [t.1, t.2.1, t.2.2.1, t.2.2.2]
def aHW (m : Mo) (b own rank : Int) (ahead : Bool) (q : Role × Int) : (Role × Int) × Bool :=
 if q.1 = .xP then (if 0 < rank ∧ ahead = true then ((.qX, tP m b own + m.hold), true) else (q, false))
 else if rank = 0 then ((.qX, if GG m own < q.2 then GG m own else q.2), false)
 else if ahead = true ∨ m.takes = false then ((.qX, if tP m b own > q.2 then tP m b own else q.2), false)
 else (q, false)
section
variable {m : Mo} {b r0 r1 rank : Int} {q : Role × Int} {c : Nat} {y : Bt}
theorem aDV (o : MoB m 2) (b0 : 0 ≤ b) {r : Int} (hr : r ≤ 12) : 2 ≤ tP m b r := by
 have oe := o.qR
 have og := o.gap
 have os := o.MU
 have h1 : 0 ≤ b * m.qR := Int.mul_nonneg b0 (by omega)
 have h2 : 0 ≤ m.gap * (12 - r) := Int.mul_nonneg (by omega) (by omega)
 have h3 : (b + 1) * m.qR = b * m.qR + m.qR := by rw [Int.add_mul, Int.one_mul]
 unfold tP
 omega
theorem aDB (o : MoB m 2) {r : Int} (hr : r ≤ 12) : 2 ≤ GG m r := by
 have og := o.gap
 have h2 : 0 ≤ m.gap * (12 - r) := Int.mul_nonneg (by omega) (by omega)
 unfold GG
 omega
theorem aCZ {own : Int} {ah : Bool} (o : MoB m 2) (b0 : 0 ≤ b) (hr : own ≤ 12) (hq : q.1 ≠ .rests) (h1 : 1 ≤ q.2) : (aHW m b own rank ah q).1.1 ≠ .rests ∧ 1 ≤ (aHW m b own rank ah q).1.2 := by
 have w := aDV o b0 hr
 have s := aDB o hr
 have oh := o.hold
 unfold aHW
 split
 ·split
  ·exact ⟨by show Role.qX ≠ Role.rests; decide, by show 1 ≤ tP m b own + m.hold; omega⟩
  ·exact ⟨hq, h1⟩
 ·split
  ·refine ⟨by show Role.qX ≠ Role.rests; decide, ?_⟩
   show 1 ≤ (if GG m own < q.2 then GG m own else q.2)
   split <;> omega
  ·split
   ·refine ⟨by show Role.qX ≠ Role.rests; decide, ?_⟩
    show 1 ≤ (if tP m b own > q.2 then tP m b own else q.2)
    split <;> omega
   ·exact ⟨hq, h1⟩
end
def aLB (q : Role × Int) : Bool := decide (q.1 = .xP)
structure Nd where
 b : Bd
 N : Addr
section
variable {n n' nn Q : Nat} {w w' : W} {A : HB} {x : Wx} {P : D → W → Prop} {i h p q F S N r : Nat} {m : Mo} {b g l : Int} {ds : List uS} {ls : List OV} {ns : List (List D)} {nw : List D} {ys : List D}
theorem World.mono (hW : World n w A x) (h : n' ≤ n) : World n' w A x := fun l o e => by
 obtain ⟨h1, h2, h3⟩ := hW l o e
 exact ⟨by omega, h2, h3⟩
end
abbrev K7 := List uS × List OV
def aKK (m : Mo) (b : Int) (h : Nat) (x : Wx) (t : K7) : Wx := aGg m b h x t.1 (faI (aJB t.2))
def YL (m : Mo) (b : Int) (h : Nat) : Wx → List K7 → Wx
 | x, [] => x
 | x, t :: r => YL m b h (aKK m b h x t) r
section
variable {w w' : W} {P : D → W → Prop} {PF : Fl → W → Prop} {k : Nd} {q p S N q2 S2 N2 h j : Nat} {ss ss2 : List D} {cur cur2 : D} {ns ns2 : List (List D)} {g l g2 l2 b : Int} {m : Mo} {xs : List D}
theorem aJN (xs : List D) (j : Nat) : Pc.cutD xs none (some (j : Int)) = xs.take j := by
 unfold Pc.cutD
 rw [HT.sIx_none, HT.sIx_nat, dk, Nat.sub_zero]
 by_cases h : j ≤ xs.length
 ·rw [Nat.min_eq_left h]
 ·rw [Nat.min_eq_right (by omega), dh (az _), dh (by omega)]
end
end Lw
namespace Pro
structure Dat where
 N : Nat
 mem : Nat → Prop
 R : Nat → Int
 takes : Bool
 qR : Nat
 X2 : Nat
 MU : Nat
 B : Nat
 wait : Nat → Int
 srv : Nat → Nat → Prop
 clk : Nat → Nat → Int
 snd : Nat → Nat → Prop
 hit : Nat → Nat → Nat → Prop
 lk : Nat → Nat → Nat → Nat
def Dat.ahead (D : Dat) (d c : Nat) : Prop := D.R d > D.R c ∨ (D.R d = D.R c ∧ d < c)
def Dat.P (D : Dat) : Nat := (D.X2 + 1) * D.qR + D.MU - 1
variable {D : Dat}
end Pro
namespace Lw
open PySem PySem.Spec PyProof.Rows L2 Pc Lb
section
variable {m : Mo} {b : Int} {h Q : Nat} {s : jO} {x e : Wx} {a c r : Nat} {q : Role × Int} {ds : List uS} {fa : nY} {l : DL}
def aME (m : Mo) (b : Int) : Int := tP m b 1 + m.hold
end
section
variable {m : Mo} {b : Int} {h Q : Nat} {s : jO} {x x' e : Wx} {a c d r t : Nat} {p : Int} {q : Role × Int} {ds : List uS} {fa : nY} {l : DL} {ts : List K7}
open Classical in
def aLq (m : Mo) (b : Int) (h : Nat) : Nat := (h + 1) * m.MU.toNat + (aME m b).toNat
def aLr (m : Mo) : Nat := (m.X2.toNat + 1) * m.qR.toNat + m.MU.toNat - 1
end
def aE8 (h : Nat) (s : jO) (v : Nat) : List Nat := (List.range h).filter fun c => s.living.getD c 0 == 1 && s.parts.getD c 0 == (v : Int)
def SI (cs : List Nat) (j : Nat) : List (Nat × Nat) := (cs.take j).flatMap fun c => (cs.filter fun d => decide (c < d)).map fun d => (c, d)
section
variable {k : Nd} {m : Mo} {b g l : Int} {h n i n0 p q S N D0 TT Q t C : Nat} {ss : List D} {ns : List (List D)} {w w' w0 : W} {A A' : HB} {x : Wx} {s : jO} {P : D → W → Prop} {PF : Fl → W → Prop} {ds : List uS} {a c d r v : Nat} {cs : List Nat} {kvs : List (List Key × D)} {V : Nat → Nat → Nat → Int}
theorem pairs_len : ∀ j : Nat, (SI cs j).length ≤ j * cs.length
 | 0 => by simp [SI]
 | j + 1 => by
  have ih := pairs_len j
  unfold SI at ih ⊢
  rw [List.take_add_one, List.flatMap_append, bw, Nat.succ_mul]
  have : (((cs[j]?).toList).flatMap fun c => (cs.filter fun d => decide (c < d)).map fun d => (c, d)).length ≤ cs.length := by
   cases cs[j]? with
   | none => simp
   | some c =>
    simp only [Option.toList, List.flatMap_cons, List.flatMap_nil, du, av]
    exact List.length_filter_le _ _
  omega
theorem H7 {xs : List D} {PI : lO → W → Prop} : T (Pc.lJ [.lst xs] w) PI = PI ⟨dE xs, always⟩ w := by unfold T; rfl
end
section
variable {k : bE} {m : Mo} {b : Int} {h n i Q t F C : Nat} {w : W} {A : HB} {x e : Wx} {s : jO} {P : D → W → Prop} {kvs : List (List Key × D)} {xs ys : List D} {cs ds : List Nat}
theorem U3 (xs : List D) (j : Nat) : Pc.cutD xs (some (j : Int)) none = xs.drop j := by
 unfold Pc.cutD
 rw [HT.sIx_none, HT.sIx_nat]
 rcases Nat.lt_or_ge j xs.length with c | c
 ·rw [Nat.min_eq_left (by omega), dh (by rw [dq]; omega)]
 ·rw [Nat.min_eq_right c, List.drop_length, List.drop_of_length_le c]
  simp
end
section
variable {k : Nd} {m : Mo} {b : Int} {h n0 p q S N TT Q i a c r : Nat} {ss : List D} {ns : List (List D)} {w w' w0 : W} {x : Wx} {P : D → W → Prop} {PF : Fl → W → Prop} {ds : List uS} {ls : List OV} {dd ff : D}
theorem e6 (s : jO) : atI [M7 s.living, M7 s.parts, M7 s.downs, .tup (s.dO.map M7), .tup (s.cD.map aKQ), .tup (s.fS.map aHt), .tup (s.wD.map aHR), .tup (s.tables.map M7), .tup (s.asks.map Pc.pairD)] 6 = some (.tup (s.wD.map aHR)) := rfl
end
end Lw
namespace Pc
open PySem PySem.Spec PyProof.Rows L2
def TX {α : Type} (r : Res α) (P : XD → W → Prop) : Prop := match r with
 | .zC x w => P x w
 | _ => False
section
variable {α β : Type} {r r' : Res α} {f f' : α → W → Res β} {P : α → W → Prop} {PX : XD → W → Prop} {σ : Sg} {w : W} {a b a' b' : MS} {e e' : ME} {g : MG} {t : MT} {m m' : MF} {PF : Fl → W → Prop} {PD : D → W → Prop} {N : List Str} {ds : List D}
theorem TX.bind (h : T r fun a w => TX (f a w) PX) : TX (r.bind f) PX := by
 obtain ⟨a, w, e, p⟩ := h.ex
 rw [e]
 exact p
theorem TX.vB (h : TX r PX) : TX (r.bind f) PX := by
 cases r with
 | zC x w => exact h
 | ok a w => exact h.elim
 | bad => exact h.elim
theorem TX.mono {PX' : XD → W → Prop} (h : TX r PX) (k : ∀ x w, PX x w → PX' x w) : TX r PX' := by
 cases r with
 | zC x w => exact k x w h
 | ok a w => exact h.elim
 | bad => exact h.elim
theorem ZD (h : T (a σ w) fun f w1 => ∃ σ1, f = .nx σ1 ∧ TX (b σ1 w1) PX) : TX (aJ a b σ w) PX :=
 TX.bind (h.mono fun f w1 _ ⟨σ1, e, q⟩ => by subst e; exact q)
theorem TR (h : TX (a σ w) PX) : TX (aJ a b σ w) PX := TX.vB h
theorem aFB (h : TX (e σ w) PX) : TX (aO e g σ w) PX := TX.vB h
theorem aHD (h : T (t σ w) fun c w1 => TX ((if c = true then a else b) σ w1) PX) : TX (dH t a b σ w) PX :=
 TX.bind (h.mono fun c w1 _ q => by cases c <;> exact q)
theorem aEc (h : TX (a (begin N ds) w) PX) : TX (bF a N ds w) PX := TX.vB h
theorem WU {C : Addr} {z : Str} (h : T (e σ w) fun d w1 => PX ⟨.ref C, some [(z, d)]⟩ w1) : TX (EW C z e σ w) PX := TX.bind h
theorem aFz {n : Nat} {gd : List D → List D → List D} {ma : MA} (h : T (ma σ w) fun xs w1 => xs.length = n ∧ TX (m (gd xs []) w1) PX) : TX (aH m n gd ma σ w) PX :=
 TX.bind (h.mono fun xs w1 _ ⟨e, q⟩ => by rw [if_pos e]; exact q)
theorem TQ {it : lO} (Inv : Nat → Sg → W → Prop) {n : Nat} (hn : n < it.xs.length) (ok : ∀ i σ w, Inv i σ w → it.ok w)
  (step : ∀ i x σ w, i < n → it.xs[i]? = some x → Inv i σ w → T (g x σ w) fun σ1 w1 => T (a σ1 w1) (Lb.Turn (Inv (i + 1)) fun _ _ => False))
  (last : ∀ x σ w, it.xs[n]? = some x → Inv n σ w → T (g x σ w) fun σ1 w1 => TX (a σ1 w1) PX) :
  ∀ (j i : Nat) (σ : Sg) (w : W), i + j = n → Inv i σ w → TX (forL it g a (it.xs.drop i) σ w) PX
 | 0, i, σ, w, e, hI => by
  have e : i = n := by omega
  subst e
  rw [List.drop_eq_getElem_cons hn]
  unfold forL
  rw [if_pos (ok _ _ _ hI)]
  exact TX.bind ((last _ σ w (bo hn) hI).mono fun σ1 w1 _ q => TX.vB q)
 | j + 1, i, σ, w, e, hI => by
  have hi : i < it.xs.length := by omega
  rw [List.drop_eq_getElem_cons hi]
  unfold forL
  rw [if_pos (ok _ _ _ hI)]
  refine TX.bind ((step i _ σ w (by omega) (bo hi) hI).mono fun σ1 w1 _ q => TX.bind (q.mono fun f w2 _ q2 => ?_))
  cases f with
  | nx s => exact TQ Inv hn ok step last j (i + 1) s w2 (by omega) q2
  | ct s => exact TQ Inv hn ok step last j (i + 1) s w2 (by omega) q2
  | bk s => exact q2.elim
  | rt d => exact q2.elim
theorem aIj {mi : MI} (h : T (mi σ w) fun it w1 => TX (forL it g a it.xs σ w1) PX) : TX (g9 mi g a σ w) PX := TX.bind h
theorem aHe {it : lO} (Inv : Nat → Sg → W → Prop) (n : Nat) (hn : n < it.xs.length) (ok : ∀ i σ w, Inv i σ w → it.ok w) (init : Inv 0 σ w)
  (step : ∀ i x σ w, i < n → it.xs[i]? = some x → Inv i σ w → T (g x σ w) fun σ1 w1 => T (a σ1 w1) (Lb.Turn (Inv (i + 1)) fun _ _ => False))
  (last : ∀ x σ w, it.xs[n]? = some x → Inv n σ w → T (g x σ w) fun σ1 w1 => TX (a σ1 w1) PX) : TX (forL it g a it.xs σ w) PX := by
 have := TQ Inv hn ok step last n 0 σ w (by omega) init
 rw [dk] at this
 exact this
theorem aDM {l : List (Addr × Bool)} {i : Nat} {ms : XD → MS} (h : T (a σ w) PF) : T (ZE a l i ms σ w) PF := by
 obtain ⟨f, w1, e, p⟩ := h.ex
 unfold ZE
 rw [e]
 exact T.of rfl p
theorem aD3 {l : List (Addr × Bool)} {i : Nat} {ms : XD → MS} (h : TX (a σ w) fun x w1 => kmL l x.cls = some true ∧ T (ms x (forget σ) w1) fun f w2 => PF (unI i f) w2) : T (ZE a l i ms σ w) PF := by
 unfold ZE
 cases hr : a σ w with
 | ok f w1 => rw [hr] at h; exact h.elim
 | bad => rw [hr] at h; exact h.elim
 | zC x w1 =>
  rw [hr] at h
  obtain ⟨h1, h2⟩ := h
  obtain ⟨f, w2, e, p⟩ := h2.ex
  simp only [h1, e]
  exact T.of rfl p
end
end Pc
namespace Lw
open PySem PySem.Spec PyProof.Rows L2 Pc Lb
section
variable {w : W} {P : D → W → Prop} {PX : XD → W → Prop} {kn : Nd} {C C' : Addr} {p h q S N Q : Nat} {m : Mo} {b g l : Int} {x : Wx} {ds : List uS} {d ff : D} {rest : List D} {ss : List D} {ns : List (List D)} {fb : MF} {ls : List OV}
theorem aBf {σ : Sg} {ma : MA} (h : TX (ma σ w) PX) : TX (bH ma σ w) PX := TX.vB h
end
end Lw
namespace Lw
open PySem PySem.Spec PyProof.Rows L2 Pc Lb TL
def aBn (z : Str) : Prop := tl (reprText z) = 39 :: (tl z ++ [39]) ∧ 39 ∉ tl z
mutual
def fM : PyData → Prop
 | .int _ => True
 | .str z => aBn z
 | .tuple xs => SimPs xs
 | _ => False
def SimPs : List PyData → Prop
 | [] => True
 | x :: xs => fM x ∧ SimPs xs
end
def mR : List PyData → List Nat
 | [] => [41]
 | y :: t => 44 :: 32 :: (tl y.shown ++ mR t)
def oA : List PyData → List Nat
 | [] => [41]
 | [x] => tl x.shown ++ [44, 41]
 | x :: y :: t => tl x.shown ++ (44 :: 32 :: (tl y.shown ++ mR t))
theorem OR : ∀ (x : PyData) (t : List PyData), joinL [44, 32] ((PyData.shownAll (x :: t)).map tl) ++ [41] = tl x.shown ++ mR t
 | x, [] => rfl
 | x, y :: t => by
  show (tl x.shown ++ ([44, 32] ++ joinL [44, 32] ((PyData.shownAll (y :: t)).map tl))) ++ [41] = _
  rw [cz, cz, OR y t]
  rfl
theorem CF (xs : List PyData) : tl (PyData.tuple xs).shown = 40 :: oA xs := by
 have e : (PyData.tuple xs).shown = ("(" : Str) ++ Str.join ", " (PyData.shownAll xs) ++ (if (PyData.shownAll xs).length == 1 then ",)" else ")" : String) := by
  simp only [PyData.shown]
  rfl
 have e1 : tl ("(" : Str) = [40] := by decide +kernel
 have e2 : tl (", " : Str) = [44, 32] := by decide +kernel
 have e3 : tl (Str.ofString ",)") = [44, 41] := by decide +kernel
 have e4 : tl (Str.ofString ")") = [41] := by decide +kernel
 rw [e, tl_append, tl_append, tl_join, e1, e2]
 match xs with
 | [] => simp only [PyData.shownAll, cw, dz]; exact congrArg _ e4
 | [x] =>
  show ([40] ++ tl x.shown) ++ tl (Str.ofString ",)") = _
  rw [e3]; rfl
 | x :: y :: t =>
  show ([40] ++ joinL [44, 32] ((PyData.shownAll (x :: y :: t)).map tl)) ++ tl (Str.ofString ")") = _
  rw [e4, cz, OR]; rfl
theorem G8 (n : Nat) : tl (PyData.int (Int.negSucc n)).shown = 45 :: numL (n + 1) := by
 have e : (PyData.int (Int.negSucc n)).shown = Str.ofString ("-" ++ toString ((n + 1 : Nat) : Int)) := by
  simp only [PyData.shown]
  rfl
 rw [e, tl_ofString, String.toList_append, cj, ← tl_ofString, ← tl_ofString, tl_num]
 have : tl (Str.ofString "-") = [45] := by decide +kernel
 rw [this]
 rfl
theorem R4 (n : Nat) : tl (PyData.int (n : Nat)).shown = numL n := by
 simp only [PyData.shown]
 exact tl_num n
def Dl (r : List Nat) : Prop := r = [] ∨ (∃ t, r = 44 :: t) ∨ ∃ t, r = 41 :: t
theorem aBY : ∀ (a b : List Nat) {r r' : List Nat}, (∀ c ∈ a, 48 ≤ c ∧ c ≤ 57) → (∀ c ∈ b, 48 ≤ c ∧ c ≤ 57) → Dl r → Dl r' → a ++ r = b ++ r' → a = b ∧ r = r'
 | [], [], r, r', _, _, _, _, h => ⟨rfl, h⟩
 | x :: a, y :: b, r, r', ha, hb, d, d', h => by
  rw [bf, bf] at h
  injection h with h1 h2
  obtain ⟨e1, e2⟩ := aBY a b (fun c hc => ha c (bc _ hc)) (fun c hc => hb c (bc _ hc)) d d' h2
  exact ⟨by rw [h1, e1], e2⟩
 | x :: a, [], r, r', ha, _, _, d', h => by
  exfalso
  have hx := ha x (aw ..)
  rw [bz] at h
  rcases d' with e | ⟨t, e⟩ | ⟨t, e⟩ <;> rw [e, bf] at h <;> injection h <;> omega
 | [], y :: b, r, r', _, hb, d, _, h => by
  exfalso
  have hy := hb y (aw ..)
  rw [bz] at h
  rcases d with e | ⟨t, e⟩ | ⟨t, e⟩ <;> rw [e, bf] at h <;> injection h <;> omega
theorem marks : ∀ (a b : List Nat) {r r' : List Nat}, 39 ∉ a → 39 ∉ b → a ++ 39 :: r = b ++ 39 :: r' → a = b ∧ r = r'
 | [], [], _, _, _, _, h => ⟨rfl, by injection h⟩
 | x :: a, y :: b, r, r', ha, hb, h => by
  rw [bf, bf] at h
  injection h with h1 h2
  obtain ⟨e1, e2⟩ := marks a b (fun c => ha (bc _ c)) (fun c => hb (bc _ c)) h2
  exact ⟨by rw [h1, e1], e2⟩
 | x :: a, [], r, r', ha, _, h => by
  rw [bf, bz] at h
  injection h with h1 h2
  exact absurd (by rw [h1]; exact aw ..) ha
 | [], y :: b, r, r', _, hb, h => by
  rw [bf, bz] at h
  injection h with h1 h2
  exact absurd (by rw [← h1]; exact aw ..) hb
theorem BZ {z : Str} (h : aBn z) : tl (PyData.str z).shown = 39 :: (tl z ++ [39]) := by
 simp only [PyData.shown]
 exact h.1
theorem yP : ∀ (p : PyData), fM p → ∃ c l, tl p.shown = c :: l ∧ ((∃ n : Nat, p = .int (n : Nat)) ∧ (48 ≤ c ∧ c ≤ 57) ∨ (∃ n, p = .int (Int.negSucc n)) ∧ c = 45 ∨ (∃ z, p = .str z ∧ aBn z) ∧ c = 39 ∨ (∃ xs, p = .tuple xs ∧ SimPs xs) ∧ c = 40)
 | .int (Int.ofNat n), _ => by
  have e : tl (PyData.int (Int.ofNat n)).shown = numL n := R4 n
  obtain ⟨c, l, h⟩ := di (numL_ne n)
  refine ⟨c, l, e.trans h, .inl ⟨⟨n, rfl⟩, ?_⟩⟩
  have := numL_digits n c (by rw [h]; exact aw ..)
  omega
 | .int (Int.negSucc n), _ => ⟨45, _, G8 n, .inr (.inl ⟨⟨n, rfl⟩, rfl⟩)⟩
 | .str z, h => by
  rw [fM] at h
  exact ⟨39, _, BZ h, .inr (.inr (.inl ⟨⟨z, rfl, h⟩, rfl⟩))⟩
 | .tuple xs, h => by
  rw [fM] at h
  exact ⟨40, _, CF xs, .inr (.inr (.inr ⟨⟨xs, rfl, h⟩, rfl⟩))⟩
 | .none, h => by simp [fM] at h
 | .bool _, h => by simp [fM] at h
 | .list _, h => by simp [fM] at h
 | .dict _, h => by simp [fM] at h
theorem Dl.tail : ∀ (t : List PyData) (r : List Nat), Dl (mR t ++ r)
 | [], r => .inr (.inr ⟨r, rfl⟩)
 | y :: t, r => .inr (.inl ⟨_, rfl⟩)
theorem yL {p : PyData} (h : fM p) {s u : List Nat} (e : tl p.shown ++ s = 41 :: u) : False := by
 obtain ⟨c, l, e1, hc⟩ := yP p h
 rw [e1, bf] at e
 injection e with e2 _
 rcases hc with ⟨_, hc⟩ | ⟨_, hc⟩ | ⟨_, hc⟩ | ⟨_, hc⟩ <;> omega
mutual
theorem o5 : ∀ (p : PyData), fM p → ∀ (q : PyData), fM q → ∀ (r r' : List Nat), Dl r → Dl r' → tl p.shown ++ r = tl q.shown ++ r' → p = q ∧ r = r'
 | .int (Int.ofNat n), hp, q, hq, r, r', d, d', h => by
  have e : tl (PyData.int (Int.ofNat n)).shown = numL n := R4 n
  have dg : ∀ n c, c ∈ numL n → 48 ≤ c ∧ c ≤ 57 := fun n c hc => by
   have := numL_digits n c hc
   omega
  obtain ⟨c', l', e', hc'⟩ := yP (.int (Int.ofNat n)) hp
  obtain ⟨c, l, eq, hc⟩ := yP q hq
  have hcc : c' = c := by rw [e', eq, bf, bf] at h; injection h
  have h48 : 48 ≤ c' ∧ c' ≤ 57 := dg n c' (by rw [← e, e']; exact aw ..)
  rcases hc with ⟨⟨k, rfl⟩, _⟩ | ⟨_, hc⟩ | ⟨_, hc⟩ | ⟨_, hc⟩
  ·rw [e, R4] at h
   obtain ⟨e1, e2⟩ := aBY _ _ (dg n) (dg k) d d' h
   rw [numL_inj e1]
   exact ⟨rfl, e2⟩
  all_goals exfalso; omega
 | .int (Int.negSucc n), hp, q, hq, r, r', d, d', h => by
  have dg : ∀ n c, c ∈ numL n → 48 ≤ c ∧ c ≤ 57 := fun n c hc => by
   have := numL_digits n c hc
   omega
  obtain ⟨c, l, eq, hc⟩ := yP q hq
  have hcc : 45 = c := by rw [G8, eq, bf, bf] at h; injection h
  rcases hc with ⟨_, hc⟩ | ⟨⟨k, rfl⟩, _⟩ | ⟨_, hc⟩ | ⟨_, hc⟩
  ·omega
  ·rw [G8, G8, bf, bf] at h
   injection h with _ h
   obtain ⟨e1, e2⟩ := aBY _ _ (dg (n + 1)) (dg (k + 1)) d d' h
   have := numL_inj e1
   rw [show n = k by omega]
   exact ⟨rfl, e2⟩
  all_goals exfalso; omega
 | .str z, hp, q, hq, r, r', d, d', h => by
  rw [fM] at hp
  obtain ⟨c, l, eq, hc⟩ := yP q hq
  have hcc : 39 = c := by rw [BZ hp, eq, bf, bf] at h; injection h
  rcases hc with ⟨_, hc⟩ | ⟨_, hc⟩ | ⟨⟨k, rfl, hk⟩, _⟩ | ⟨_, hc⟩
  ·omega
  ·omega
  ·rw [BZ hp, BZ hk, bf, bf] at h
   injection h with _ h
   rw [cz, cz] at h
   obtain ⟨e1, e2⟩ := marks _ _ hp.2 hk.2 h
   rw [ext_tl e1]
   exact ⟨rfl, e2⟩
  ·omega
 | .tuple xs, hp, q, hq, r, r', d, d', h => by
  rw [fM] at hp
  obtain ⟨c, l, eq, hc⟩ := yP q hq
  have hcc : 40 = c := by rw [CF, eq, bf, bf] at h; injection h
  rcases hc with ⟨_, hc⟩ | ⟨_, hc⟩ | ⟨_, hc⟩ | ⟨⟨ys, rfl, hk⟩, _⟩
  ·omega
  ·omega
  ·omega
  ·rw [CF, CF, bf, bf] at h
   injection h with _ h
   obtain ⟨e1, e2⟩ := tup_key xs hp ys hk r r' h
   exact ⟨by rw [e1], e2⟩
 | .none, h, _, _, _, _, _, _, _ => by simp [fM] at h
 | .bool _, h, _, _, _, _, _, _, _ => by simp [fM] at h
 | .list _, h, _, _, _, _, _, _, _ => by simp [fM] at h
 | .dict _, h, _, _, _, _, _, _, _ => by simp [fM] at h
theorem tup_key : ∀ (xs : List PyData), SimPs xs → ∀ (ys : List PyData), SimPs ys → ∀ (r r' : List Nat), oA xs ++ r = oA ys ++ r' → xs = ys ∧ r = r'
 | [], hx, [], hy, r, r', h => ⟨rfl, by simp only [oA, bf, bz] at h; injection h⟩
 | [], hx, [y], hy, r, r', h => by
  simp only [SimPs] at hy
  simp only [oA, bf, bz, cz] at h
  exact (yL hy.1 h.symm).elim
 | [], hx, y :: y2 :: ys, hy, r, r', h => by
  simp only [SimPs] at hy
  simp only [oA, bf, bz, cz] at h
  exact (yL hy.1 h.symm).elim
 | [x], hx, [], hy, r, r', h => by
  simp only [SimPs] at hx
  simp only [oA, bf, bz, cz] at h
  exact (yL hx.1 h).elim
 | [x], hx, [y], hy, r, r', h => by
  simp only [SimPs] at hx hy
  simp only [oA, bf, bz, cz] at h
  obtain ⟨e1, e2⟩ := o5 x hx.1 y hy.1 _ _ (.inr (.inl ⟨_, rfl⟩)) (.inr (.inl ⟨_, rfl⟩)) h
  injection e2 with _ e2
  injection e2 with _ e2
  exact ⟨by rw [e1], e2⟩
 | [x], hx, y :: y2 :: ys, hy, r, r', h => by
  simp only [SimPs] at hx hy
  simp only [oA, bf, bz, cz] at h
  obtain ⟨e1, e2⟩ := o5 x hx.1 y hy.1 _ _ (.inr (.inl ⟨_, rfl⟩)) (.inr (.inl ⟨_, rfl⟩)) h
  injection e2 with _ e2
  injection e2 with e2 _
  omega
 | x :: x2 :: xs, hx, [], hy, r, r', h => by
  simp only [SimPs] at hx
  simp only [oA, bf, bz, cz] at h
  exact (yL hx.1 h).elim
 | x :: x2 :: xs, hx, [y], hy, r, r', h => by
  simp only [SimPs] at hx hy
  simp only [oA, bf, bz, cz] at h
  obtain ⟨e1, e2⟩ := o5 x hx.1 y hy.1 _ _ (.inr (.inl ⟨_, rfl⟩)) (.inr (.inl ⟨_, rfl⟩)) h
  injection e2 with _ e2
  injection e2 with e2 _
  omega
 | x :: x2 :: xs, hx, y :: y2 :: ys, hy, r, r', h => by
  simp only [SimPs] at hx hy
  simp only [oA, bf, bz, cz] at h
  obtain ⟨e1, e2⟩ := o5 x hx.1 y hy.1 _ _ (.inr (.inl ⟨_, rfl⟩)) (.inr (.inl ⟨_, rfl⟩)) h
  injection e2 with _ e2
  injection e2 with _ e2
  obtain ⟨e3, e4⟩ := o5 x2 hx.2.1 y2 hy.2.1 _ _ (Dl.tail _ _) (Dl.tail _ _) e2
  obtain ⟨e5, e6⟩ := tail_key xs hx.2.2 ys hy.2.2 r r' e4
  exact ⟨by rw [e1, e3, e5], e6⟩
theorem tail_key : ∀ (xs : List PyData), SimPs xs → ∀ (ys : List PyData), SimPs ys → ∀ (r r' : List Nat), mR xs ++ r = mR ys ++ r' → xs = ys ∧ r = r'
 | [], _, [], _, r, r', h => ⟨rfl, by simp only [mR, bf, bz] at h; injection h⟩
 | [], _, y :: ys, _, r, r', h => by
  simp only [mR, bf, bz] at h
  injection h with h _
  omega
 | x :: xs, _, [], _, r, r', h => by
  simp only [mR, bf, bz] at h
  injection h with h _
  omega
 | x :: xs, hx, y :: ys, hy, r, r', h => by
  simp only [SimPs] at hx hy
  simp only [mR, bf, bz, cz] at h
  injection h with _ h
  injection h with _ h
  obtain ⟨e1, e2⟩ := o5 x hx.1 y hy.1 _ _ (Dl.tail _ _) (Dl.tail _ _) h
  obtain ⟨e3, e4⟩ := tail_key xs hx.2 ys hy.2 r r' e2
  exact ⟨by rw [e1, e3], e4⟩
end
mutual
theorem aGO : ∀ (p : PyData), fM p → ∀ (q : PyData), fM q → (PyData.eqv p q = true ↔ p = q)
 | .int i, _, .int j, _ => by simp [PyData.eqv]
 | .str x, _, .str y, _ => by simp [PyData.eqv]
 | .tuple xs, hp, .tuple ys, hq => by
  rw [fM] at hp hq
  rw [PyData.eqv, eqvs_sim xs hp ys hq]
  simp
 | .int i, _, .str y, _ => by simp [PyData.eqv]
 | .int i, _, .tuple y, _ => by simp [PyData.eqv]
 | .str i, _, .int y, _ => by simp [PyData.eqv]
 | .str i, _, .tuple y, _ => by simp [PyData.eqv]
 | .tuple i, _, .int y, _ => by simp [PyData.eqv]
 | .tuple i, _, .str y, _ => by simp [PyData.eqv]
 | .none, h, _, _ => by simp [fM] at h
 | .bool _, h, _, _ => by simp [fM] at h
 | .list _, h, _, _ => by simp [fM] at h
 | .dict _, h, _, _ => by simp [fM] at h
 | _, _, .none, h => by simp [fM] at h
 | _, _, .bool _, h => by simp [fM] at h
 | _, _, .list _, h => by simp [fM] at h
 | _, _, .dict _, h => by simp [fM] at h
theorem eqvs_sim : ∀ (xs : List PyData), SimPs xs → ∀ (ys : List PyData), SimPs ys → (PyData.eqvAll xs ys = true ↔ xs = ys)
 | [], _, [], _ => by simp [PyData.eqvAll]
 | [], _, y :: ys, _ => by simp [PyData.eqvAll]
 | x :: xs, _, [], _ => by simp [PyData.eqvAll]
 | x :: xs, hx, y :: ys, hy => by
  simp only [SimPs] at hx hy
  rw [PyData.eqvAll, ak, aGO x hx.1 y hy.1, eqvs_sim xs hx.2 ys hy.2, List.cons.injEq]
end
mutual
def fQ : D → Prop
 | .int _ => True
 | .str z => aBn z
 | .tup xs => SimDs xs
 | _ => False
def SimDs : List D → Prop
 | [] => True
 | x :: xs => fQ x ∧ SimDs xs
end
mutual
theorem Q3 : ∀ (d : D) {f : Nat → Option PyData} {p : PyData}, fQ d → d.e8 f = some p → fM p
 | .int i, f, p, _, h1 => by
  simp only [D.e8, aj] at h1
  subst h1
  simp [fM]
 | .str i, f, p, s1, h1 => by
  simp only [D.e8, aj] at h1
  simp only [fQ] at s1
  subst h1
  simp [fM, s1]
 | .tup i, f, p, s1, h1 => by
  simp only [D.e8, aq] at h1
  obtain ⟨ps, h1, rfl⟩ := h1
  simp only [fQ] at s1
  simp only [fM]
  exact simps_of i s1 h1
 | .non, _, _, h, _ => by simp [fQ] at h
 | .bl _, _, _, h, _ => by simp [fQ] at h
 | .ty _, _, _, h, _ => by simp [fQ] at h
 | .con _, _, _, h, _ => by simp [fQ] at h
 | .lst _, _, _, h, _ => by simp [fQ] at h
 | .qK _, _, _, h, _ => by simp [fQ] at h
 | .vU _, _, _, h, _ => by simp [fQ] at h
 | .EZ _ _, _, _, h, _ => by simp [fQ] at h
 | .ref _, _, _, h, _ => by simp [fQ] at h
theorem simps_of : ∀ (xs : List D) {f : Nat → Option PyData} {ps : List PyData}, SimDs xs → D.pysR f xs = some ps → SimPs ps
 | [], f, ps, _, h1 => by
  simp only [D.pysR, aj] at h1
  subst h1
  simp [SimPs]
 | x :: xs, f, ps, s1, h1 => by
  simp only [D.pysR] at h1
  split at h1
  ·rename_i p ps e1 e2
   cases h1
   simp only [SimDs] at s1
   simp only [SimPs]
   exact ⟨Q3 x s1.1 e1, simps_of xs s1.2 e2⟩
  ·cases h1
end
mutual
theorem aJl : ∀ (d e : D) {f g : Nat → Option PyData} {p q : PyData}, fQ d → fQ e → d.e8 f = some p → e.e8 g = some q → fM p ∧ fM q ∧ (p = q ↔ d = e)
 | .int i, .int j, f, g, p, q, _, _, h1, h2 => by
  simp only [D.e8, aj] at h1 h2
  subst h1 h2
  simp [fM]
 | .str i, .str j, f, g, p, q, s1, s2, h1, h2 => by
  simp only [D.e8, aj] at h1 h2
  simp only [fQ] at s1 s2
  subst h1 h2
  simp [fM, s1, s2]
 | .tup i, .tup j, f, g, p, q, s1, s2, h1, h2 => by
  simp only [D.e8, aq] at h1 h2
  obtain ⟨ps, h1, rfl⟩ := h1
  obtain ⟨qs, h2, rfl⟩ := h2
  simp only [fQ] at s1 s2
  obtain ⟨a1, a2, a3⟩ := pys_sim i j s1 s2 h1 h2
  simp only [fM, PyData.tuple.injEq, D.tup.injEq]
  exact ⟨a1, a2, a3⟩
 | .int i, .str j, f, g, p, q, s1, s2, h1, h2 => by
  simp only [D.e8, aj] at h1 h2
  simp only [fQ] at s1 s2
  subst h1 h2
  simp [fM, s2]
 | .str i, .int j, f, g, p, q, s1, s2, h1, h2 => by
  simp only [D.e8, aj] at h1 h2
  simp only [fQ] at s1 s2
  subst h1 h2
  simp [fM, s1]
 | .tup i, .int j, f, g, p, q, s1, s2, h1, h2 => by
  simp only [D.e8, aj, aq] at h1 h2
  obtain ⟨ps, h1, rfl⟩ := h1
  subst h2
  simp only [fQ] at s1 s2
  have a1 := simps_of i s1 h1
  simp [fM, a1]
 | .tup i, .str j, f, g, p, q, s1, s2, h1, h2 => by
  simp only [D.e8, aj, aq] at h1 h2
  obtain ⟨ps, h1, rfl⟩ := h1
  subst h2
  simp only [fQ] at s1 s2
  have a1 := simps_of i s1 h1
  simp [fM, a1, s2]
 | .int i, .tup j, f, g, p, q, s1, s2, h1, h2 => by
  simp only [D.e8, aj, aq] at h1 h2
  obtain ⟨ps, h2, rfl⟩ := h2
  subst h1
  simp only [fQ] at s1 s2
  have a1 := simps_of j s2 h2
  simp [fM, a1]
 | .str i, .tup j, f, g, p, q, s1, s2, h1, h2 => by
  simp only [D.e8, aj, aq] at h1 h2
  obtain ⟨ps, h2, rfl⟩ := h2
  subst h1
  simp only [fQ] at s1 s2
  have a1 := simps_of j s2 h2
  simp [fM, a1, s1]
 | .non, _, _, _, _, _, h, _, _, _ => by simp [fQ] at h
 | .bl _, _, _, _, _, _, h, _, _, _ => by simp [fQ] at h
 | .ty _, _, _, _, _, _, h, _, _, _ => by simp [fQ] at h
 | .con _, _, _, _, _, _, h, _, _, _ => by simp [fQ] at h
 | .lst _, _, _, _, _, _, h, _, _, _ => by simp [fQ] at h
 | .qK _, _, _, _, _, _, h, _, _, _ => by simp [fQ] at h
 | .vU _, _, _, _, _, _, h, _, _, _ => by simp [fQ] at h
 | .EZ _ _, _, _, _, _, _, h, _, _, _ => by simp [fQ] at h
 | .ref _, _, _, _, _, _, h, _, _, _ => by simp [fQ] at h
 | _, .non, _, _, _, _, _, h, _, _ => by simp [fQ] at h
 | _, .bl _, _, _, _, _, _, h, _, _ => by simp [fQ] at h
 | _, .ty _, _, _, _, _, _, h, _, _ => by simp [fQ] at h
 | _, .con _, _, _, _, _, _, h, _, _ => by simp [fQ] at h
 | _, .lst _, _, _, _, _, _, h, _, _ => by simp [fQ] at h
 | _, .qK _, _, _, _, _, _, h, _, _ => by simp [fQ] at h
 | _, .vU _, _, _, _, _, _, h, _, _ => by simp [fQ] at h
 | _, .EZ _ _, _, _, _, _, _, h, _, _ => by simp [fQ] at h
 | _, .ref _, _, _, _, _, _, h, _, _ => by simp [fQ] at h
theorem pys_sim : ∀ (xs ys : List D) {f g : Nat → Option PyData} {ps qs : List PyData}, SimDs xs → SimDs ys → D.pysR f xs = some ps → D.pysR g ys = some qs → SimPs ps ∧ SimPs qs ∧ (ps = qs ↔ xs = ys)
 | [], [], f, g, ps, qs, s1, s2, h1, h2 => by
  simp only [D.pysR, aj] at h1 h2
  subst h1 h2
  simp [SimPs]
 | x :: xs, [], f, g, ps, qs, s1, s2, h1, h2 => by
  simp only [D.pysR, aj] at h1 h2
  subst h2
  split at h1
  ·rename_i p ps e1 e2
   cases h1
   simp only [SimDs] at s1
   have a1 := Q3 x s1.1 e1
   have b1 := simps_of xs s1.2 e2
   simp [SimPs, a1, b1]
  ·cases h1
 | [], y :: ys, f, g, ps, qs, s1, s2, h1, h2 => by
  simp only [D.pysR, aj] at h1 h2
  subst h1
  split at h2
  ·rename_i p ps e1 e2
   cases h2
   simp only [SimDs] at s2
   have a1 := Q3 y s2.1 e1
   have b1 := simps_of ys s2.2 e2
   simp [SimPs, a1, b1]
  ·cases h2
 | x :: xs, y :: ys, f, g, ps, qs, s1, s2, h1, h2 => by
  simp only [D.pysR] at h1 h2
  split at h1
  ·split at h2
   ·rename_i p ps e1 e2 _ _ q qs e3 e4
    cases h1
    cases h2
    simp only [SimDs] at s1 s2
    obtain ⟨a1, a2, a3⟩ := aJl x y s1.1 s2.1 e1 e3
    obtain ⟨b1, b2, b3⟩ := pys_sim xs ys s1.2 s2.2 e2 e4
    exact ⟨⟨a1, b1⟩, ⟨a2, b2⟩, by rw [List.cons.injEq, List.cons.injEq, a3, b3]⟩
   ·cases h2
  ·cases h1
end
section
variable {w : W} {d e : D} {u v : PyData}
theorem SimDs.all : ∀ {xs : List D}, (∀ x ∈ xs, fQ x) → SimDs xs
 | [], _ => by simp only [SimDs]
 | x :: xs, h => by
  simp only [SimDs]
  exact ⟨h x (aw ..), SimDs.all fun y hy => h y (bc _ hy)⟩
end
section
variable {w w' : W} {P : D → W → Prop} {k : Nd} {q p S N q2 p2 S2 N2 h j n n2 d d2 Q : Nat} {ss ss2 : List D} {cur cur2 : D} {ns ns2 : List (List D)} {g l g2 l2 b : Int} {m : Mo} {xs ys : List D} {x y : D} {u v u2 v2 : PyData} {t : K7} {ts ts2 : List K7} {X : Wx}
theorem C4 {p : PyData} (h : c9 p = true) (hd : p.depth ≤ 64) : SeqAt.shaped p = true := by
 have h1 := (plain_all p h).2.2.2
 unfold SeqAt.shaped
 simp [h1, hd]
theorem aBZ (f1 : fG n d xs) (f2 : fG n2 d2 ys) (h1 : d ≤ 60) (h2 : d2 ≤ 60) (s1 : SimDs xs) (s2 : SimDs ys) : ∃ b, (∀ w, DX (.lst xs) (.lst ys) w = some b) ∧ (∀ w r r', w[r]? = some (.lst xs) → w[r']? = some (.lst ys) → DX (.ref r) (.ref r') w = some b) ∧ (b = true ↔ xs = ys) := by
 obtain ⟨p, a1, a2, a3, a4⟩ := f1.ex
 obtain ⟨q, c1, c2, c3, c4⟩ := f2.ex
 obtain ⟨e1, e2, e3⟩ := pys_sim xs ys s1 s2 (a1 fun _ => none) (c1 fun _ => none)
 have z1 : SeqAt.shaped (.list p) = true := C4 (by rw [c9]; exact a2) (by rw [PyData.depth]; omega)
 have z2 : SeqAt.shaped (.list q) = true := C4 (by rw [c9]; exact c2) (by rw [PyData.depth]; omega)
 refine ⟨PyData.eqvAll p q, fun w => ?_, fun w r r' hr hr' => ?_, by rw [eqvs_sim p e1 q e2, e3]⟩
 ·unfold DX y8 D.py
  simp only [D.e8, a1, c1, Option.map_some, z1, z2, and_self, af]
  rw [PyData.eqv]
 ·unfold DX y8 D.py
  simp only [D.e8, MW, hr, hr', a1, c1, Option.map_some, z1, z2, and_self, af]
  rw [PyData.eqv]
end
mutual
/-- plain things, empty dicts among them -/
def iJ : PyData → Bool
 | .none | .bool _ => true
 | .int i => decide (i.natAbs < 10 ^ 40)
 | .str x => PyData.strOk (reprText x) && PyData.strOk x && PyData.leavesShort 60 (.str x) && decide (x.length ≤ 100)
 | .list xs | .tuple xs => plainXs xs
 | .dict kvs => kvs.isEmpty
def plainXs : List PyData → Bool
 | [] => true
 | x :: xs => iJ x && plainXs xs
end
mutual
theorem P4 : ∀ p : PyData, iJ p = true → PyData.strOk p.shown = true
 | .none, _ => fF _
 | .bool b, _ => by cases b <;> exact fF _
 | .int i, _ => fF _
 | .str x, h => by
  simp only [iJ, ak] at h
  exact h.1.1.1
 | .list xs, h => by
  rw [iJ] at h
  show PyData.strOk (textFrom 0 "[" (PyData.shownAll xs) ++ "]") = true
  rw [hD, rE _ _ _ (fF _) (plainXs_shown xs h), fF]
  rfl
 | .tuple xs, h => by
  rw [iJ] at h
  show PyData.strOk (tupleText (PyData.shownAll xs)) = true
  unfold tupleText
  rw [hD, hD, fF, A5 _ (fF _) _ (plainXs_shown xs h)]
  split <;> rw [fF] <;> rfl
 | .dict [], _ => by decide +kernel
 | .dict (_ :: _), h => by simp [iJ] at h
theorem plainXs_shown : ∀ ps : List PyData, plainXs ps = true → ∀ t ∈ PyData.shownAll ps, PyData.strOk t = true
 | [], _, t, ht => by simp [PyData.shownAll] at ht
 | p :: ps, h, t, ht => by
  simp only [plainXs, ak] at h
  simp only [PyData.shownAll, ay] at ht
  rcases ht with rfl | ht
  ·exact P4 p h.1
  ·exact plainXs_shown ps h.2 t ht
end
mutual
theorem aAc : ∀ p : PyData, iJ p = true → p.leavesShort 60 = true ∧ p.showable = true
 | .none, _ => by simp [PyData.leavesShort, PyData.showable]
 | .bool b, _ => by simp [PyData.leavesShort, PyData.showable]
 | .int i, h => by
  simp only [iJ, ai] at h
  exact ⟨EB h, CC h⟩
 | .str x, h => by
  simp only [iJ, ak] at h
  exact ⟨h.1.2, by simp [PyData.showable]⟩
 | .list xs, h => by
  rw [iJ] at h
  have := plainXs_all xs h
  simp only [PyData.leavesShort, PyData.showable]
  exact this
 | .tuple xs, h => by
  rw [iJ] at h
  have := plainXs_all xs h
  simp only [PyData.leavesShort, PyData.showable]
  exact this
 | .dict [], _ => by decide +kernel
 | .dict (_ :: _), h => by simp [iJ] at h
theorem plainXs_all : ∀ p : List PyData, plainXs p = true → PyData.leavesShortAll 60 p = true ∧ PyData.showableAll p = true
 | [], _ => by simp [PyData.leavesShortAll, PyData.showableAll]
 | p :: ps, h => by
  simp only [plainXs, ak] at h
  obtain ⟨a1, a2⟩ := aAc p h.1
  obtain ⟨b1, b2⟩ := plainXs_all ps h.2
  simp only [PyData.leavesShortAll, PyData.showableAll, a1, a2, b1, b2]
  simp
end
mutual
theorem aB4 : ∀ p : PyData, c9 p = true → iJ p = true
 | .none, _ => rfl
 | .bool b, _ => rfl
 | .int i, h => by rw [c9] at h; rw [iJ]; exact h
 | .str x, h => by rw [c9] at h; rw [iJ]; exact h
 | .list xs, h => by rw [c9] at h; rw [iJ]; exact plainXs_of xs h
 | .tuple xs, h => by rw [c9] at h; rw [iJ]; exact plainXs_of xs h
 | .dict _, h => by simp [c9] at h
theorem plainXs_of : ∀ p : List PyData, plainPs p = true → plainXs p = true
 | [], _ => rfl
 | p :: ps, h => by
  simp only [plainPs, ak] at h
  simp only [plainXs, aB4 p h.1, plainXs_of ps h.2, Bool.and_self]
end
mutual
theorem aIY {f g : Nat → Option PyData} (hfg : ∀ i p, f i = some p → g i = some p) : ∀ (d : D) {p : PyData}, d.e8 f = some p → d.e8 g = some p
 | .non, _, h => by simpa only [D.e8] using h
 | .bl _, _, h => by simpa only [D.e8] using h
 | .int _, _, h => by simpa only [D.e8] using h
 | .str _, _, h => by simpa only [D.e8] using h
 | .ty _, _, h => by simp [D.e8] at h
 | .con _, _, h => by simp [D.e8] at h
 | .EZ _ _, _, h => by simp [D.e8] at h
 | .ref i, _, h => by
  simp only [D.e8] at h ⊢
  exact hfg i _ h
 | .tup xs, _, h => by
  simp only [D.e8, aq] at h ⊢
  obtain ⟨ps, h1, h2⟩ := h
  exact ⟨ps, pysR_le hfg xs h1, h2⟩
 | .vU xs, _, h => by
  simp only [D.e8, aq] at h ⊢
  obtain ⟨ps, h1, h2⟩ := h
  exact ⟨ps, pysR_le hfg xs h1, h2⟩
 | .lst xs, _, h => by
  simp only [D.e8, aq] at h ⊢
  obtain ⟨ps, h1, h2⟩ := h
  exact ⟨ps, pysR_le hfg xs h1, h2⟩
 | .qK xs, _, h => by
  simp only [D.e8, aq] at h ⊢
  obtain ⟨ps, h1, h2⟩ := h
  exact ⟨ps, pysR_le hfg xs h1, h2⟩
theorem pysR_le {f g : Nat → Option PyData} (hfg : ∀ i p, f i = some p → g i = some p) : ∀ (ds : List D) {ps : List PyData}, D.pysR f ds = some ps → D.pysR g ds = some ps
 | [], _, h => by simpa only [D.pysR] using h
 | d :: ds, _, h => by
  simp only [D.pysR] at h ⊢
  split at h
  ·rename_i p ps e1 e2
   rw [aIY hfg d e1, pysR_le hfg ds e2]
   exact h
  ·cases h
end
end Lw
namespace Lw
open PySem PySem.Spec PyProof.Rows L2 Pc Lb
def aIQ (h : Nat) (s : jO) (a v : Nat) : List Nat := (aE8 h s v).filter fun c => aLB (G7 s a c)
inductive Mark where
 | one (a v : Nat) | two (a v c d : Nat)
def Mark.a : Mark → Nat
 | .one a _ => a
 | .two a _ _ _ => a
def Mark.v : Mark → Nat
 | .one _ v => v
 | .two _ v _ _ => v
def Mark.key : Mark → List Key
 | .one a v => [.inl (a : Nat), .inl (v : Nat)]
 | .two a v c d => [.inl (a : Nat), .inl (v : Nat), .inl (c : Nat), .inl (d : Nat)]
def Mark.hold (h : Nat) (s : jO) : Mark → Prop
 | .one a v => aE8 h s v ≠ [] ∧ aIQ h s a v = []
 | .two a v c d => c ∈ aIQ h s a v ∧ d ∈ aIQ h s a v ∧ c ≠ d
section
variable {m : Mo} {b : Int} {h Q : Nat} {x : Wx} {ts : List K7} {u : K7} {a v c d t : Nat} {mk : Mark} {s1 s2 : jO} {ds : List uS} {ls : List OV}
def Mark.most (m : Mo) (b : Int) (h : Nat) : Mark → Nat
 | .one _ _ => aLq m b h
 | .two _ _ _ _ => aLr m
end
def aEz : MS :=
 (aJ (aO (aE a9 (aE aY (aB 0) (eC (.str ("at" : Str)))) (eC (.int 1))) (eM (aB 0) (eC (.str ("at" : Str)))))
 (aJ (aO (aE aY (aB 0) (eC (.str ("at" : Str)))) (aQ 2))
 (aJ (aO (aE aY (aB 0) (eC (.str ("cells" : Str)))) (aQ 3))
 (aJ (aO (aE a9 (aE aY (aB 0) (eC (.str ("sum" : Str)))) (aB 2)) (aQ 4))
 (aJ (dH (aV (aE oX (aB 3) (dQ aD))) (aJ (aO (bB "list" DY (aB 3) (aA (eC (.int 0)) aD)) (aQ 4))
 (dH (aV (aE geM (aB 4) (aE IU (eC (.int 10)) (eC (.int 18))))) (aJ (cR (bB "list" yX (aB 3) (aA (eC (.int 0)) (aA (aE zD (aB 4) (aB 1)) aD))))
 (aU (aE lH (aB 4) (aB 1)))) aZ)) aZ)
 (aJ (aO (aE lH (aE a9 (aE a9 (aE mulM (aE lH (aB 4) (eC (.int 2147483647))) (eC (.int 48271))) (aE mulM (aE mulM (eC (.int 69621)) (aB 2)) (aB 2))) (eC (.int 7919))) (eC (.int 2147483629))) (aQ 5))
 (aJ (aO (aE lH (aE mulM (aB 5) (aB 5)) (eC (.int 2147483587))) (aQ 5))
 (aU (aE lH (aE zD (aE lH (aE mulM (aB 5) (aE a9 (aB 5) (eC (.int 39373)))) (eC (.int 2147483563))) (eC (.int 64))) (aB 1))))))))))
def aCx : List Str := [("_law_deck_here" : Str), ("_law_bound" : Str), ("_law_at" : Str), ("_law_cells" : Str), ("_law_seed" : Str), ("_law_number" : Str)]
def lG : MF := bF aEz aCx
def v7 (c : Nat) (a sm : Int) : List (L2.Key × D) := [(.inr ("cells" : Str), .ref c), (.inr ("at" : Str), .int a), (.inr ("sum" : Str), .int sm)]
def eD (w : W) (r c b : Nat) : Prop := r ≠ c ∧ ∃ (cells : List Int) (sm : Int) (a : Nat), w[r]? = some (.dK (v7 c a sm)) ∧ w[c]? = some (.lst (cells.map D.int)) ∧ cells.length ≤ 63 ∧ a + b ≤ 2 ^ 60
section
variable {w w' : W} {P : D → W → Prop} {r c b : Nat} {size : Int}
theorem aMB (x0 x1 : D) : begin aCx [x0, x1] = [some x0, some x1, none, none, none, none] := rfl
theorem aKv : T (IU (.int 10) (.int 18) w) P = P (.int (10 ^ 18)) w := by
 have : IU (.int 10) (.int 18) w = .ok (.int (10 ^ 18)) w := by unfold IU; rfl
 rw [this, bZ]
theorem HJ {a c : Int} (h : -(2 ^ 64) < a ∧ a < 2 ^ 64) : LK a c = true := by
 unfold LK
 rw [decide_eq_true h.1, decide_eq_true h.2]
 rfl
theorem aAM {a c : Int} (h : -(2 ^ 64) < c ∧ c < 2 ^ 64) : LK a c = true := by
 unfold LK
 rw [decide_eq_true h.1, decide_eq_true h.2]
 simp
theorem aCf {cell a : Int} {s3 : Option D} (h0 : 0 < size) (ha : 0 ≤ a ∧ a < 2 ^ 61) (hP : ∀ v, 0 ≤ v → v < size → P (.int v) w) :
  T (aJ (aO (aE lH (aE a9 (aE a9 (aE mulM (aE lH (aB 4) (eC (.int 2147483647))) (eC (.int 48271))) (aE mulM (aE mulM (eC (.int 69621)) (aB 2)) (aB 2))) (eC (.int 7919))) (eC (.int 2147483629))) (aQ 5))
 (aJ (aO (aE lH (aE mulM (aB 5) (aB 5)) (eC (.int 2147483587))) (aQ 5))
 (aU (aE lH (aE zD (aE lH (aE mulM (aB 5) (aE a9 (aB 5) (eC (.int 39373)))) (eC (.int 2147483563))) (eC (.int 64))) (aB 1))))
   [some (.ref r), some (.int size), some (.int a), s3, some (.int cell), none] w) fun f w1 => match f with
   | .nx _ => P .non w1
   | .rt d => P d w1
   | _ => False := by
 rw [a7]
 simp only [N1, UR, A2, LQ, zY, af, ae, reduceCtorEq]
 refine ⟨by omega, aAM ⟨by omega, by omega⟩, HJ ⟨by omega, by omega⟩, aAM ⟨by omega, by omega⟩, by omega, ?_⟩
 obtain ⟨n, en⟩ : ∃ n, n = (cell % 2147483647 * 48271 + 69621 * a * a + 7919) % 2147483629 := ⟨_, rfl⟩
 have n0 : 0 ≤ n ∧ n < 2147483629 := by
  rw [en]
  exact ⟨Int.emod_nonneg _ (by omega), Int.emod_lt_of_pos _ (by omega)⟩
 rw [← en, a7]
 simp only [N1, UR, A2, LQ, zY, af, ae, reduceCtorEq]
 obtain ⟨m, em⟩ : ∃ m, m = n * n % 2147483587 := ⟨_, rfl⟩
 have m0 : 0 ≤ m ∧ m < 2147483587 := by
  rw [em]
  exact ⟨Int.emod_nonneg _ (by omega), Int.emod_lt_of_pos _ (by omega)⟩
 rw [← em]
 refine ⟨HJ ⟨by omega, by omega⟩, by omega, ?_⟩
 try simp only [N1, UR, A2, LQ, zY, af, ae, reduceCtorEq]
 refine ⟨HJ ⟨by omega, by omega⟩, by omega, ⟨by omega, by omega⟩, h0, hP _ (Int.emod_nonneg _ (by omega)) (Int.emod_lt_of_pos _ h0)⟩
theorem kY (h : eD w r c (b + 1)) (h0 : 0 < size) (h1 : size < 1073741824) (hP : ∀ v w', 0 ≤ v → v < size → eD w' r c b → Pc.Kept w w' r c → P (.int v) w') : T (lG [.ref r, .int size] w) P := by
 obtain ⟨ne, cells, sm, a, hr, hc, hl, hb⟩ := h
 have lr := (ar.mp hr).1
 have lc := (ar.mp hc).1
 unfold lG aEz
 rw [dM, aMB, a7]
 simp only [aAr hr, zY, af, ae, reduceCtorEq]
 refine ⟨.int a, rfl, ?_⟩
 simp only [A2, zY, af, ae, reduceCtorEq]
 rw [aIn hr]
 have ek : putD (v7 c a sm) (.inr ("at" : Str)) (.int ((a : Int) + 1)) = v7 c ((a + 1 : Nat) : Int) sm := rfl
 rw [ek]
 refine ⟨by rw [sizeLine_eq]; unfold v7; simp, ?_⟩
 obtain ⟨w1, e1⟩ : ∃ w1, w1 = w.set r (.dK (v7 c ((a + 1 : Nat) : Int) sm)) := ⟨_, rfl⟩
 have hr1 : w1[r]? = some (.dK (v7 c ((a + 1 : Nat) : Int) sm)) := by rw [e1]; exact cc lr
 have hc1 : w1[c]? = some (.lst (cells.map D.int)) := by rw [e1, bu ne]; exact hc
 have k1 : Pc.Kept w w1 r c := ⟨by rw [e1, List.length_set], fun i h2 _ => by rw [e1, bu (Ne.symm h2)]⟩
 rw [← e1, a7]
 simp only [aAr hr1, zY, af, ae, reduceCtorEq]
 refine ⟨.int ((a + 1 : Nat) : Int), rfl, ?_⟩
 try simp only [zY, af, ae, reduceCtorEq]
 rw [a7]
 simp only [aAr hr1, zY, af, ae, reduceCtorEq]
 refine ⟨.ref c, rfl, ?_⟩
 try simp only [zY, af, ae, reduceCtorEq]
 rw [a7]
 simp only [aAr hr1, zY, af, ae, reduceCtorEq]
 refine ⟨.int sm, rfl, ?_⟩
 simp only [A2, zY, af, ae, reduceCtorEq]
 rw [a7]
 have fin : ∀ (cell : Int) (w2 : W), eD w2 r c b → Pc.Kept w w2 r c → T (aJ (aO (aE lH (aE a9 (aE a9 (aE mulM (aE lH (aB 4) (eC (.int 2147483647))) (eC (.int 48271))) (aE mulM (aE mulM (eC (.int 69621)) (aB 2)) (aB 2))) (eC (.int 7919))) (eC (.int 2147483629))) (aQ 5))
 (aJ (aO (aE lH (aE mulM (aB 5) (aB 5)) (eC (.int 2147483587))) (aQ 5))
 (aU (aE lH (aE zD (aE lH (aE mulM (aB 5) (aE a9 (aB 5) (eC (.int 39373)))) (eC (.int 2147483563))) (eC (.int 64))) (aB 1))))
   [some (.ref r), some (.int size), some (.int ((a + 1 : Nat) : Int)), some (.ref c), some (.int cell), none] w2) fun f w1 => match f with
   | .nx _ => P .non w1
   | .rt d => P d w1
   | _ => False := fun cell w2 d2 k2 => aCf h0 ⟨by omega, by omega⟩ fun v v0 v1 => hP v w2 v0 v1 d2 k2
 have d1 : eD w1 r c b := ⟨ne, cells, sm, a + 1, hr1, hc1, hl, by omega⟩
 rcases cells with _ | ⟨z, zs⟩
 ·simp only [Pc.ne_nil hc1, bZ, List.isEmpty_nil, cb, zY, af, ae, reduceCtorEq]
  exact fin _ w1 d1 k1
 ·obtain ⟨w2, e2⟩ : ∃ w2, w2 = w1.set c (.lst (zs.map D.int)) := ⟨_, rfl⟩
  have lc1 : c < w1.length := by rw [k1.1]; exact lc
  have hr2 : w2[r]? = some (.dK (v7 c ((a + 1 : Nat) : Int) sm)) := by rw [e2, bu (Ne.symm ne)]; exact hr1
  have hc2 : w2[c]? = some (.lst (zs.map D.int)) := by rw [e2]; exact cc lc1
  have k2 : Pc.Kept w w2 r c := ⟨by rw [e2, List.length_set]; exact k1.1, fun i h2 h3 => by rw [e2, bu (Ne.symm h3)]; exact k1.2 i h2 h3⟩
  have lz : zs.length + 1 ≤ 63 := by simpa using hl
  have d2 : eD w2 r c b := ⟨ne, zs, sm, a + 1, hr2, hc2, by omega, by omega⟩
  have ep : DY (.ref c) [.int 0] w1 = .ok (.int z) w2 := by
   unfold DY
   simp only [hc1]
   rw [if_pos (by omega), e2]
   have es : seqIndex? 0 ((z :: zs).map D.int).length = some 0 := by
    unfold seqIndex?
    simp
   rw [es]
   rfl
  simp only [Pc.ne_nil hc1, bZ, List.isEmpty_cons, ck, zY, af, ae, reduceCtorEq]
  rw [a7]
  simp only [tyL hc1, ep, bZ, zY, af, ae, reduceCtorEq]
  simp only [aKv, aKX, zY, af, ae, reduceCtorEq]
  split
  ·rw [a7]
   simp only [tyL hc2, LQ, zY, af, ae, reduceCtorEq]
   refine ⟨⟨h0, h1⟩, ?_⟩
   obtain ⟨w3, e3⟩ : ∃ w3, w3 = w2.set c (.lst ((z / size :: zs).map D.int)) := ⟨_, rfl⟩
   have lc2 : c < w2.length := by rw [k2.1]; exact lc
   have ei : yX (.ref c) [.int 0, .int (z / size)] w2 = .ok .non w3 := by
    unfold yX
    simp only [hc2]
    rw [if_pos ⟨by rw [sizeLine_eq, av]; omega, by omega, by omega⟩, e3]
    rfl
   have hr3 : w3[r]? = some (.dK (v7 c ((a + 1 : Nat) : Int) sm)) := by rw [e3, bu (Ne.symm ne)]; exact hr2
   have hc3 : w3[c]? = some (.lst ((z / size :: zs).map D.int)) := by rw [e3]; exact cc lc2
   have k3 : Pc.Kept w w3 r c := ⟨by rw [e3, List.length_set]; exact k2.1, fun i h2 h3 => by rw [e3, bu (Ne.symm h3)]; exact k2.2 i h2 h3⟩
   simp only [ei, bZ, N1, zY, af, ae, reduceCtorEq]
   exact ⟨h0, hP _ w3 (Int.emod_nonneg _ (by omega)) (Int.emod_lt_of_pos _ h0) ⟨ne, z / size :: zs, sm, a + 1, hr3, hc3, by simpa using lz, by omega⟩ k3⟩
  ·exact fin _ w2 d2 k2
def aEG : List Str := [("_law_deck_here" : Str), ("_law_some" : Str)]
def aDj : MS := (aU (aE aY (aB 1) (aH lG 2 aM (aA (aB 0) (aA (aP cZ (aA (aB 1) aD)) aD)))))
def KC : MF := bF aDj aEG
theorem aAF {xs : List D} (h : eD w r c (b + 1)) (h0 : xs ≠ []) (h1 : xs.length < 1073741824) (hP : ∀ x w', x ∈ xs → eD w' r c b → Pc.Kept w w' r c → P x w') : T (KC [.ref r, .lst xs] w) P := by
 have bb : begin aEG [.ref r, .lst xs] = [some (.ref r), some (.lst xs)] := rfl
 have l0 : 0 < xs.length := List.length_pos_iff.mpr h0
 unfold KC aDj
 rw [dM, bb]
 simp only [SJ, zY, af, ae, reduceCtorEq]
 refine kY h (by omega) (by omega) fun v w' v0 v1 d' k' => ?_
 obtain ⟨i, x, e1, e2, _⟩ := atI_nat v0 v1
 simp only [aHE, aEt, zY, af, ae, reduceCtorEq]
 exact ⟨x, e2, hP x w' (cq e1) d' k'⟩
def aEO : List Str := [("_law_script" : Str), ("_law_cells" : Str)]
def aE4 : MS :=
 (aJ (aO (aP HV (aA (iU fO (aB 0) bS (bK (eC (.int 63)))) aD)) (aQ 1))
 (aU (U6 (hX (eC (.str ("cells" : Str))) (aB 1) (hX (eC (.str ("at" : Str))) (eC (.int 0)) (hX (eC (.str ("sum" : Str))) (aE a9 (aE lH (aP XN (aA (aB 1) aD)) (eC (.int 2147483629))) (aE mulM (eC (.int 17)) (aP cZ (aA (aB 1) aD)))) aAl))))))
def aAm : MF := bF aE4 aEO
theorem aKC (x0 : D) : begin aEO [x0] = [some x0, none] := rfl
theorem aFM {ns : List Int} (hn : ns.length ≤ 63) : T (aAm [.qK (ns.map D.int)] []) fun d w => d = .ref 1 ∧ w.length = 2 ∧ eD w 1 0 (2 ^ 59) := by
 obtain ⟨ms, e1, e2⟩ := aGs (ns := ns) (lo := none) (hi := some 63)
 have sl : fO (.qK (ns.map D.int)) none (some 63) [] = .ok (.lst (ms.map D.int)) [] := by simp only [fO, e1]
 have ln : HV [.lst (ms.map D.int)] [] = .ok (.ref 0) [.lst (ms.map D.int)] := rfl
 have h0 : ([MO.lst (ms.map D.int)] : W)[0]? = some (.lst (ms.map D.int)) := rfl
 have hl : ms.length ≤ 63 := by omega
 unfold aAm aE4
 rw [dM, aKC, a7]
 simp only [sl, ln, bZ, zY, af, ae, reduceCtorEq]
 have sm : XN [.ref 0] [MO.lst (ms.map D.int)] = .ok (.int ms.sum) [MO.lst (ms.map D.int)] := by
  have : tL (.ref 0) [MO.lst (ms.map D.int)] = some (ms.map D.int) := rfl
  simp only [XN, this, Option.bind_some, Pc.oZ]
 have lm : cZ [.ref 0] [MO.lst (ms.map D.int)] = .ok (.int ms.length) [MO.lst (ms.map D.int)] := by simp [cZ, JM]
 simp only [sm, lm, bZ, N1, UR, A2]
 exact ⟨by omega, HJ ⟨by omega, by omega⟩, _, rfl, by simp, rfl, rfl, by omega, ms, _, 0, rfl, rfl, hl, by omega⟩
end
theorem eD.less {w : W} {r c b b' : Nat} (d : eD w r c b) (h : b' ≤ b) : eD w r c b' := by
 obtain ⟨ne, cells, sm, a, h1, h2, h3, h4⟩ := d
 exact ⟨ne, cells, sm, a, h1, h2, h3, by omega⟩
section
variable {w : W} {P : D → W → Prop} {PF : Fl → W → Prop} {r c b H q : Nat} {us : List (Int × Int × Int)} {s1 s3 s4 s5 s7 s8 s9 s10 s11 s12 : Option D}
theorem JV {o : MO} (d : eD w r c b) (h1 : q ≠ r) (h2 : q ≠ c) : eD (w.set q o) r c b := by
 obtain ⟨ne, cells, sm, a, g1, g2, g3, g4⟩ := d
 exact ⟨ne, cells, sm, a, by rw [bu h1]; exact g1, by rw [bu h2]; exact g2, g3, g4⟩
end
def chB (c : Nat) : Bool := decide (32 ≤ c) && (decide (c < 127) && ((c != 34) && ((c != 39) && (c != 92))))
def JJ (l : Nat) (x : Str) : Bool := x.cps.toList.all chB && decide (x.cps.size ≤ 60 + l)
def U0 (l : Nat) : D → Bool
 | .int i => decide (i.natAbs ≤ 1000000000000000000000000000000000000000 + 1000 * l)
 | .str x => JJ l x
 | _ => false
def HX : Nat → Nat → D → Bool
 | 0, _, _ => false
 | _ + 1, _, .non => true
 | _ + 1, _, .bl _ => true
 | _ + 1, l, .int i => decide (i.natAbs ≤ 1000000000000000000000000000000000000000 + 1000 * l)
 | _ + 1, l, .str x => JJ l x
 | n + 1, l, .tup xs => xs.all (HX n l) && decide (xs.length ≤ 40 + l)
 | n + 1, l, .lst xs => xs.all (HX n l) && decide (xs.length ≤ 40 + l)
 | n + 1, l, .EZ ks vs => (ks.all (U0 l) && vs.all (HX n l)) && (decide (ks.length = vs.length) && decide (ks.length ≤ 15))
 | _ + 1, _, _ => false
mutual
def jA : D → Nat
 | .str x => x.cps.size
 | .tup xs => wtDs xs
 | .lst xs => wtDs xs
 | .vU xs => wtDs xs
 | .qK xs => wtDs xs
 | .EZ ks vs => wtDs ks + wtDs vs
 | _ => 0
def wtDs : List D → Nat
 | [] => 0
 | x :: xs => jA x + 1 + wtDs xs
end
theorem aEx {c : Nat} (h : chB c = true) : c < 127 := by
 simp only [chB, ak, ai] at h
 exact h.2.1
theorem aBl {l : Nat} {x : Str} (h : JJ l x = true) : PyData.strOk x = true := by
 simp only [JJ, ak, au] at h
 unfold PyData.strOk
 rw [Array.all_eq_true_iff_forall_mem]
 intro c hc
 have := aEx (h.1 c (by simpa using hc))
 simp only [ai]
 omega
theorem B1 {l l' : Nat} {x : Str} (h : JJ l x = true) (hl : l ≤ l') : JJ l' x = true := by
 simp only [JJ, ak, ai] at h ⊢
 exact ⟨h.1, by omega⟩
theorem aGY {l l' : Nat} {x : D} (h : U0 l x = true) (hl : l ≤ l') : U0 l' x = true := by
 cases x <;> simp only [U0, dc] at h ⊢
 ·simp only [ai] at h ⊢
  omega
 ·exact B1 h hl
theorem SY : ∀ {n n' l l' : Nat} {d : D}, HX n l d = true → n ≤ n' → l ≤ l' → HX n' l' d = true
 | 0, _, _, _, _, h, _, _ => by simp [HX] at h
 | n + 1, 0, _, _, _, _, hn, _ => by omega
 | n + 1, n' + 1, l, l', d, h, hn, hl => by
  cases d <;> simp only [HX, dc] at h ⊢
  ·simp only [ai] at h ⊢
   omega
  ·exact B1 h hl
  ·simp only [ak, au, ai] at h ⊢
   exact ⟨fun x hx => SY (h.1 x hx) (by omega) hl, by omega⟩
  ·simp only [ak, au, ai] at h ⊢
   exact ⟨fun x hx => SY (h.1 x hx) (by omega) hl, by omega⟩
  ·simp only [ak, au, ai] at h ⊢
   exact ⟨⟨fun x hx => aGY (h.1.1 x hx) hl, fun x hx => SY (h.1.2 x hx) (by omega) hl⟩, h.2⟩
theorem aGz {n l : Nat} {x : D} (h : U0 l x = true) (hl : l ≤ 1000) : oB (n + 1) x = true := by
 cases x <;> simp only [U0, dc] at h
 ·simp only [ai] at h
  simp only [oB, ai]
  omega
 ·exact aBl h
theorem SG : ∀ {n l : Nat} {d : D}, HX n l d = true → l ≤ 1000 → oB (n + 1) d = true
 | 0, _, _, h, _ => by simp [HX] at h
 | n + 1, l, d, h, hl => by
  cases d <;> simp only [HX, oB, dc] at h ⊢
  ·simp only [ai] at h ⊢
   omega
  ·exact aBl h
  ·simp only [ak, au, ai] at h ⊢
   exact ⟨fun x hx => SG (h.1 x hx) hl, by omega⟩
  ·simp only [ak, au, ai] at h ⊢
   exact ⟨fun x hx => SG (h.1 x hx) hl, by omega⟩
  ·simp only [ak, au, ai] at h ⊢
   exact ⟨⟨fun x hx => aGz (h.1.1 x hx) hl, fun x hx => SG (h.1.2 x hx) hl⟩, h.2.2⟩
mutual
def fA : PyData → Bool
 | .none => true
 | .bool _ => true
 | .int i => decide (i.natAbs < 10 ^ 40)
 | .str x => JJ 100 x
 | .list xs => plainVs xs
 | .tuple xs => plainVs xs
 | .dict kvs => plainKv kvs
def plainVs : List PyData → Bool
 | [] => true
 | x :: xs => fA x && plainVs xs
def plainKv : List (PyData × PyData) → Bool
 | [] => true
 | (k, v) :: r => (fA k && fA v) && plainKv r
end
theorem aEZ : ((List.range 127).all fun c => (Builtin.Str.reprChar 34 c).all (fun x => decide (x < 0x110000)) && (Builtin.Str.reprChar 39 c).all (fun x => decide (x < 0x110000))) = true := by decide +kernel
theorem FE {q c : Nat} (hq : q = 34 ∨ q = 39) (hc : c < 127) : ∀ x ∈ Builtin.Str.reprChar q c, x < 0x110000 := by
 have a := aEZ
 rw [au] at a
 have b := a c (List.mem_range.mpr hc)
 simp only [ak, au, ai] at b
 rcases hq with rfl | rfl
 ·exact b.1
 ·exact b.2
theorem VG {x : Str} (h : x.cps.toList.all chB = true) : PyData.strOk (reprText x) = true := by
 have hq : reprQuote x = 34 ∨ reprQuote x = 39 := by
  unfold reprQuote
  split
  ·exact .inl rfl
  ·exact .inr rfl
 have key : ∀ (cs : List Nat) (acc : Array Nat), (∀ c ∈ cs, c < 127) → (∀ c ∈ acc.toList, c < 0x110000) → ∀ c ∈ (cs.foldl (fun out c => out ++ (Builtin.Str.reprChar (reprQuote x) c).toArray) acc).toList, c < 0x110000 := by
  intro cs
  induction cs with
  | nil => intro acc _ h2; exact h2
  | cons c cs ih =>
   intro acc h1 h2
   rw [List.foldl_cons]
   refine ih _ (fun y hy => h1 y (bc _ hy)) fun y hy => ?_
   rw [Array.toList_append] at hy
   rcases bh.mp hy with hy | hy
   ·exact h2 y hy
   ·exact FE hq (h1 c (aw ..)) y (by simpa using hy)
 unfold PyData.strOk
 rw [Array.all_eq_true_iff_forall_mem]
 intro c hc
 unfold reprText at hc
 simp only at hc
 rw [Array.mem_push] at hc
 simp only [ai]
 rcases hc with hc | rfl
 ·rw [← Array.foldl_toList] at hc
  rw [au] at h
  exact key x.cps.toList #[reprQuote x] (fun y hy => aEx (h y hy)) (fun y hy => by
   have : y = reprQuote x := by simpa using hy
   rcases hq with q | q <;> (rw [this, q]; decide)) c (Array.mem_toList_iff.mpr hc)
 ·rcases hq with q | q <;> (rw [q]; decide)
mutual
theorem oI : ∀ p : PyData, fA p = true → PyData.strOk p.shown = true
 | .none, _ => fF _
 | .bool b, _ => by cases b <;> exact fF _
 | .int i, _ => fF _
 | .str x, h => by
  rw [fA] at h
  simp only [JJ, ak] at h
  exact VG h.1
 | .list xs, h => by
  rw [fA] at h
  show PyData.strOk (textFrom 0 "[" (PyData.shownAll xs) ++ "]") = true
  rw [hD, rE _ _ _ (fF _) (plainVs_shown xs h), fF]
  rfl
 | .tuple xs, h => by
  rw [fA] at h
  show PyData.strOk (tupleText (PyData.shownAll xs)) = true
  unfold tupleText
  rw [hD, hD, fF, A5 _ (fF _) _ (plainVs_shown xs h)]
  split <;> rw [fF] <;> rfl
 | .dict kvs, h => by
  rw [fA] at h
  show PyData.strOk (dictText (PyData.shownKv kvs)) = true
  unfold dictText
  rw [hD, hD, fF, fF, A5 _ (fF _) _ (plainKv_shown kvs h)]
  rfl
theorem plainVs_shown : ∀ ps : List PyData, plainVs ps = true → ∀ t ∈ PyData.shownAll ps, PyData.strOk t = true
 | [], _, t, ht => by simp [PyData.shownAll] at ht
 | p :: ps, h, t, ht => by
  simp only [plainVs, ak] at h
  simp only [PyData.shownAll, ay] at ht
  rcases ht with rfl | ht
  ·exact oI p h.1
  ·exact plainVs_shown ps h.2 t ht
theorem plainKv_shown : ∀ ps : List (PyData × PyData), plainKv ps = true → ∀ t ∈ PyData.shownKv ps, PyData.strOk t = true
 | [], _, t, ht => by simp [PyData.shownKv] at ht
 | (k, v) :: ps, h, t, ht => by
  simp only [plainKv, ak] at h
  simp only [PyData.shownKv, ay] at ht
  rcases ht with rfl | ht
  ·rw [hD, hD, oI k h.1.1, oI v h.1.2, fF]
   rfl
  ·exact plainKv_shown ps h.2 t ht
end
mutual
theorem uL : ∀ p : PyData, fA p = true → p.leavesShort 60 = true ∧ p.showable = true
 | .none, _ => by simp [PyData.leavesShort, PyData.showable]
 | .bool b, _ => by simp [PyData.leavesShort, PyData.showable]
 | .int i, h => by
  simp only [fA, ai] at h
  exact ⟨EB h, CC h⟩
 | .str x, h => by
  simp only [fA, JJ, ak, au] at h
  refine ⟨?_, by simp [PyData.showable]⟩
  simp only [PyData.leavesShort, au, ai]
  intro c hc
  have := aEx (h.1 c hc)
  omega
 | .list xs, h => by
  rw [fA] at h
  have := plainVs_all xs h
  simp only [PyData.leavesShort, PyData.showable]
  exact this
 | .tuple xs, h => by
  rw [fA] at h
  have := plainVs_all xs h
  simp only [PyData.leavesShort, PyData.showable]
  exact this
 | .dict kvs, h => by
  rw [fA] at h
  have := plainKv_all kvs h
  simp only [PyData.leavesShort, PyData.showable]
  exact this
theorem plainVs_all : ∀ p : List PyData, plainVs p = true → PyData.leavesShortAll 60 p = true ∧ PyData.showableAll p = true
 | [], _ => by simp [PyData.leavesShortAll, PyData.showableAll]
 | p :: ps, h => by
  simp only [plainVs, ak] at h
  obtain ⟨a1, a2⟩ := uL p h.1
  obtain ⟨b1, b2⟩ := plainVs_all ps h.2
  simp only [PyData.leavesShortAll, PyData.showableAll, a1, a2, b1, b2]
  simp
theorem plainKv_all : ∀ p : List (PyData × PyData), plainKv p = true → PyData.leavesShortKv 60 p = true ∧ PyData.showableKv p = true
 | [], _ => by simp [PyData.leavesShortKv, PyData.showableKv]
 | (k, v) :: ps, h => by
  simp only [plainKv, ak] at h
  obtain ⟨a1, a2⟩ := uL k h.1.1
  obtain ⟨c1, c2⟩ := uL v h.1.2
  obtain ⟨b1, b2⟩ := plainKv_all ps h.2
  simp only [PyData.leavesShortKv, PyData.showableKv, a1, a2, b1, b2, c1, c2]
  simp
end
structure Told (n : Nat) (d : D) (p : PyData) : Prop where
 py : ∀ f, d.G3 f = some p
 plain : fA p = true
 bulk : p.bulk = jA d
 deep : p.depth ≤ n
theorem aC0 {l : Nat} (hl : l ≤ 100) : ∀ {ks : List D}, ks.all (U0 l) = true → ∃ ps, x8 ks = some ps ∧ plainVs ps = true ∧ PyData.bulkAll ps = wtDs ks ∧ ps.length = ks.length ∧ PyData.depthAll ps = 0
 | [], _ => ⟨[], rfl, rfl, rfl, rfl, rfl⟩
 | d :: ds, h => by
  simp only [List.all_cons, ak] at h
  obtain ⟨ps, h1, h2, h3, h4, h5⟩ := aC0 hl h.2
  cases d <;> simp only [U0, dc, false_and] at h
  ·rename_i i
   refine ⟨.int i :: ps, by simp only [x8, h1, Option.map_some], ?_, ?_, by simp [h4], ?_⟩
   ·have := h.1
    simp only [ai] at this
    simp only [plainVs, fA, h2, Bool.and_true, ai]
    omega
   ·rw [PyData.bulkAll, wtDs, h3]
    simp [PyData.bulk, jA]
   ·rw [PyData.depthAll, h5]
    simp [PyData.depth]
  ·rename_i x
   refine ⟨.str x :: ps, by simp only [x8, h1, Option.map_some], ?_, ?_, by simp [h4], ?_⟩
   ·simp only [plainVs, fA, h2, Bool.and_true]
    exact B1 h.1 (by omega)
   ·rw [PyData.bulkAll, wtDs, h3]
    simp [PyData.bulk, jA]
   ·rw [PyData.depthAll, h5]
    simp [PyData.depth]
theorem RQ {n : Nat} : ∀ {xs : List D}, (∀ x ∈ xs, ∃ p, Told n x p) → ∃ ps, (∀ f, D.pysV f xs = some ps) ∧ plainVs ps = true ∧ PyData.bulkAll ps = wtDs xs ∧ ps.length = xs.length ∧ PyData.depthAll ps ≤ n
 | [], _ => ⟨[], fun _ => rfl, rfl, rfl, rfl, Nat.zero_le _⟩
 | x :: xs, h => by
  obtain ⟨p, t⟩ := h x (aw ..)
  obtain ⟨ps, h1, h2, h3, h4, h5⟩ := RQ fun y hy => h y (bc _ hy)
  refine ⟨p :: ps, fun f => ?_, ?_, ?_, by simp [h4], ?_⟩
  ·unfold D.pysV
   rw [t.py f, h1 f]
  ·simp only [plainVs, t.plain, h2, Bool.and_self]
  ·rw [PyData.bulkAll, wtDs, h3, t.bulk]
  ·rw [PyData.depthAll]
   have := t.deep
   omega
theorem aEq : ∀ {ks vs : List PyData}, ks.length = vs.length → plainVs ks = true → plainVs vs = true → plainKv (ks.zip vs) = true ∧ PyData.bulkKv (ks.zip vs) = PyData.bulkAll ks + PyData.bulkAll vs ∧ PyData.depthKv (ks.zip vs) = max (PyData.depthAll ks) (PyData.depthAll vs)
 | [], [], _, _, _ => ⟨rfl, rfl, rfl⟩
 | [], _ :: _, h, _, _ => by simp at h
 | _ :: _, [], h, _, _ => by simp at h
 | k :: ks, v :: vs, h, h1, h2 => by
  simp only [plainVs, ak] at h1 h2
  obtain ⟨a, b, c⟩ := aEq (ks := ks) (vs := vs) (by simpa using h) h1.2 h2.2
  simp only [List.zip_cons_cons, plainKv, PyData.bulkKv, PyData.depthKv, PyData.bulkAll, PyData.depthAll, h1.1, h2.1, a, b, c, Bool.and_self, true_and]
  omega
theorem aBa : ∀ {n l : Nat} {d : D}, HX n l d = true → l ≤ 100 → ∃ p, Told n d p
 | 0, _, _, h, _ => by simp [HX] at h
 | n + 1, l, d, h, hl => by
  cases d <;> simp only [HX, dc] at h
  ·exact ⟨.none, fun _ => rfl, rfl, rfl, by simp [PyData.depth]⟩
  ·exact ⟨.bool _, fun _ => rfl, rfl, rfl, by simp [PyData.depth]⟩
  ·refine ⟨.int _, fun _ => rfl, ?_, rfl, by simp [PyData.depth]⟩
   simp only [ai] at h
   simp only [fA, ai]
   omega
  ·refine ⟨.str _, fun _ => rfl, ?_, rfl, by simp [PyData.depth]⟩
   rw [fA]
   exact B1 h (by omega)
  ·simp only [ak, au, ai] at h
   obtain ⟨ps, h1, h2, h3, h4, h5⟩ := RQ fun x hx => aBa (h.1 x hx) hl
   exact ⟨.tuple ps, fun f => by unfold D.G3; rw [h1 f]; rfl, by rw [fA]; exact h2, by rw [PyData.bulk, h3, jA], by rw [PyData.depth]; omega⟩
  ·simp only [ak, au, ai] at h
   obtain ⟨ps, h1, h2, h3, h4, h5⟩ := RQ fun x hx => aBa (h.1 x hx) hl
   exact ⟨.list ps, fun f => by unfold D.G3; rw [h1 f]; rfl, by rw [fA]; exact h2, by rw [PyData.bulk, h3, jA], by rw [PyData.depth]; omega⟩
  ·rename_i ks vs
   simp only [ak, ai] at h
   obtain ⟨⟨g1, g2⟩, g3, g4⟩ := h
   obtain ⟨kp, a1, a2, a3, a4, a5⟩ := aC0 hl g1
   rw [au] at g2
   obtain ⟨ps, h1, h2, h3, h4, h5⟩ := RQ fun x hx => aBa (g2 x hx) hl
   have el : kp.length = ps.length := by omega
   obtain ⟨z1, z2, z3⟩ := aEq el a2 h2
   refine ⟨.dict (kp.zip ps), fun f => ?_, by rw [fA]; exact z1, by rw [PyData.bulk, z2, a3, h3, jA], by rw [PyData.depth, z3]; omega⟩
   unfold D.G3
   rw [a1, h1 f]
   simp only [el, af]
section
variable {w : W} {P : D → W → Prop} {d : D} {p : PyData} {n l : Nat}
theorem aG4 (t : Told n d p) (hn : n ≤ 40) (hb : jA d ≤ 200000) : T (kD [d] w) P = P (.str p.shown) w := by
 obtain ⟨a1, a2⟩ := uL p t.plain
 have b := PyData.shown_le_bulk 60 (by decide) p a1
 have dd := t.deep
 have z := t.bulk
 have e2 : xK d w = some p.shown := by
  unfold xK
  rw [t.py]
  simp only []
  rw [if_pos]
  refine ⟨a2, by omega, ?_⟩
  have := sizeLine_eq
  have : (60 + 2) * p.bulk ≤ 62 * 200000 := Nat.mul_le_mul_left _ (by omega)
  omega
 have : kD [d] w = .ok (.str p.shown) w := by simp only [kD, e2]
 rw [this, bZ]
theorem aE2 (h : HX n l d = true) (hl : l ≤ 100) (hn : n ≤ 40) (hb : jA d ≤ 200000) : ∃ z, PyData.strOk z = true ∧ ∀ (w : W) (P : D → W → Prop), T (kD [d] w) P = P (.str z) w := by
 obtain ⟨p, t⟩ := aBa h hl
 exact ⟨p.shown, oI p t.plain, fun w P => aG4 t hn hb⟩
end
mutual
theorem aCU {f : Nat → Option PyData} (hf : ∀ i, f i = none) : ∀ (d : D) {q : PyData}, d.e8 f = some q → q.bulk = jA d
 | .non, _, h => by simp only [D.e8, aj] at h; subst h; rfl
 | .bl _, _, h => by simp only [D.e8, aj] at h; subst h; rfl
 | .int _, _, h => by simp only [D.e8, aj] at h; subst h; rfl
 | .str _, _, h => by simp only [D.e8, aj] at h; subst h; rfl
 | .ty _, _, h => by simp [D.e8] at h
 | .con _, _, h => by simp [D.e8] at h
 | .EZ _ _, _, h => by simp [D.e8] at h
 | .ref i, _, h => by
  simp only [D.e8, hf] at h
  cases h
 | .tup xs, _, h => by
  simp only [D.e8, aq] at h
  obtain ⟨ps, h1, rfl⟩ := h
  rw [PyData.bulk, jA, wts_py hf xs h1]
 | .vU xs, _, h => by
  simp only [D.e8, aq] at h
  obtain ⟨ps, h1, rfl⟩ := h
  rw [PyData.bulk, jA, wts_py hf xs h1]
 | .lst xs, _, h => by
  simp only [D.e8, aq] at h
  obtain ⟨ps, h1, rfl⟩ := h
  rw [PyData.bulk, jA, wts_py hf xs h1]
 | .qK xs, _, h => by
  simp only [D.e8, aq] at h
  obtain ⟨ps, h1, rfl⟩ := h
  rw [PyData.bulk, jA, wts_py hf xs h1]
theorem wts_py {f : Nat → Option PyData} (hf : ∀ i, f i = none) : ∀ (ds : List D) {qs : List PyData}, D.pysR f ds = some qs → PyData.bulkAll qs = wtDs ds
 | [], _, h => by simp only [D.pysR, aj] at h; subst h; rfl
 | d :: ds, _, h => by
  simp only [D.pysR] at h
  split at h
  ·rename_i p ps e1 e2
   cases h
   rw [PyData.bulkAll, wtDs, aCU hf d e1, wts_py hf ds e2]
  ·cases h
end
theorem dI.wt {n d : Nat} {x : D} (h : dI n d x) : jA x ≤ n := by
 obtain ⟨q, h1, _, h3, _⟩ := h.ex
 rw [← aCU (fun _ => rfl) x (h1 fun _ => none)]
 exact h3
theorem aJ1 {n l : Nat} {xs : List D} (h : ∀ x ∈ xs, HX n l x = true) (hl : xs.length ≤ 40 + l) : HX (n + 1) l (.tup xs) = true := by
 simp only [HX, ak, au, ai]
 exact ⟨h, hl⟩
theorem aIU {xs : List D} {i : Int} (h0 : 0 ≤ i) (h1 : i < (xs.length : Nat)) : ∃ x, atI xs i = some x ∧ x ∈ xs := by
 obtain ⟨j, rfl⟩ : ∃ j : Nat, i = (j : Int) := ⟨i.toNat, by omega⟩
 have hj : j < xs.length := by omega
 exact ⟨xs[j], aE1 (bo hj), List.getElem_mem hj⟩
section
variable {w : W} {P : D → W → Prop} {n : Nat} {d : D}
theorem aEn {i : Int} (h : i.natAbs < 10 ^ 40) : T (zT [.int i] w) P = P (.str (toString i : String)) w := by
 have l : i.natAbs.log2 < 1920 := by
  have := CC h
  simpa only [PyData.showable, ai] using this
 have : zT [.int i] w = .ok (.str (toString i : String)) w := by
  simp only [zT, if_pos l]
 rw [this, bZ]
end
def wB (i : Int) : Str := (toString i : String)
theorem sU (y : Str) (ps : List Str) : TL.tl (Txt.join y ps) = TL.joinL (TL.tl y) (ps.map TL.tl) := by rw [TL.join_eq, TL.tl_join]
theorem O6 {S : List Nat} {c : Nat} : ∀ {ps : List (List Nat)}, c ∈ TL.joinL S ps → c ∈ S ∨ ∃ p ∈ ps, c ∈ p
 | [], h => nomatch h
 | [p], h => .inr ⟨p, bp.mpr rfl, h⟩
 | p :: q :: r, h => by
  have h : c ∈ p ++ (S ++ TL.joinL S (q :: r)) := h
  rcases bh.mp h with h | h
  ·exact .inr ⟨p, aw .., h⟩
  ·rcases bh.mp h with h | h
   ·exact .inl h
   ·rcases O6 h with h | ⟨z, hz, hc⟩
    ·exact .inl h
    ·exact .inr ⟨z, bc _ hz, hc⟩
theorem pI {y : Str} {ps : List Str} {c : Nat} (h : c ∈ (Txt.join y ps).cps.toList) : c ∈ y.cps.toList ∨ ∃ p ∈ ps, c ∈ p.cps.toList := by
 have h : c ∈ TL.tl (Txt.join y ps) := h
 rw [sU] at h
 rcases O6 h with h | ⟨z, hz, hc⟩
 ·exact .inl h
 ·obtain ⟨p, hp, rfl⟩ := cg.mp hz
  exact .inr ⟨p, hp, hc⟩
theorem U9 : TL.tl (" " : Str) = 32 :: [] := by decide +kernel
section
variable {ws : List Str} {ls : List (List Str)}
theorem aD9 {x : Str} (h : ∀ c ∈ x.cps.toList, c < 127) : PyData.strOk x = true := by
 unfold PyData.strOk
 rw [Array.all_eq_true_iff_forall_mem]
 intro c hc
 have := h c (by simpa using hc)
 simp only [ai]
 omega
end
theorem LH {x : Str} (h : ∀ c ∈ x.cps.toList, c < 127) : PyData.strOk (reprText x) = true := by
 have hq : reprQuote x = 34 ∨ reprQuote x = 39 := by
  unfold reprQuote
  split
  ·exact .inl rfl
  ·exact .inr rfl
 have key : ∀ (cs : List Nat) (acc : Array Nat), (∀ c ∈ cs, c < 127) → (∀ c ∈ acc.toList, c < 0x110000) → ∀ c ∈ (cs.foldl (fun out c => out ++ (Builtin.Str.reprChar (reprQuote x) c).toArray) acc).toList, c < 0x110000 := by
  intro cs
  induction cs with
  | nil => intro acc _ h2; exact h2
  | cons c cs ih =>
   intro acc h1 h2
   rw [List.foldl_cons]
   refine ih _ (fun y hy => h1 y (bc _ hy)) fun y hy => ?_
   rw [Array.toList_append] at hy
   rcases bh.mp hy with hy | hy
   ·exact h2 y hy
   ·exact FE hq (h1 c (aw ..)) y (by simpa using hy)
 unfold PyData.strOk
 rw [Array.all_eq_true_iff_forall_mem]
 intro c hc
 unfold reprText at hc
 simp only at hc
 rw [Array.mem_push] at hc
 simp only [ai]
 rcases hc with hc | rfl
 ·rw [← Array.foldl_toList] at hc
  exact key x.cps.toList #[reprQuote x] h (fun y hy => by
   have : y = reprQuote x := by simpa using hy
   rcases hq with q | q <;> (rw [this, q]; decide)) c (Array.mem_toList_iff.mpr hc)
 ·rcases hq with q | q <;> (rw [q]; decide)
section
variable {w : W} {P : D → W → Prop} {PS : Sg → W → Prop} {n : Nat} {d : D} {σ : Sg}
theorem OT : ∀ ys : List Str, FL (ys.map D.str) = some ys
 | [] => rfl
 | y :: ys => by rw [bt, FL, OT ys]; rfl
theorem aIN {c : Nat} {z : Str} : T (aD2 (.str ⟨#[c]⟩) (.str z) w) P = P (.bl (decide (c ∈ z.cps.toList))) w := by unfold T; rfl
end
end Lw
namespace Lb
open PySem PySem.Spec PyProof.Rows L2 Pc Lw
def aBV (h : Nat) : D → Bool
 | .tup xs => decide (0 < xs.length) && decide (xs.length < h)
 | _ => false
end Lb
namespace Sx
open PySem PySem.Spec PyProof.Rows L2 Pc Lb Lw
structure bE where
 eZ : Addr
 zz : Unit := ()
def cA : List (Str × Option D) := [(("fall" : Str), some (.int 1)), (("stop" : Str), some (.int 1)), (("rise" : Str), some (.int 1)), (("down" : Str), some (.int 1)), (("up" : Str), some (.int 1)), (("rank" : Str), some (.int 3)), (("heal" : Str), some (.int 0)), (("ask" : Str), some (.int 2))]
def fC : List Str := [("_law_act_here" : Str), ("_law_rest" : Str), ("_law_some" : Str), ("_law_one" : Str)]
def gK (k : bE) : MS :=
 (aJ (dH (aV (aE eG (aE aY (aB 0) (eC (.int 0))) (eC (.str ("tear" : Str))))) (aO (a8 (cK (iU fO (aB 0) (bK (eC (.int 1))) bS)) [2] (aQ 2) bA (sQ (aV (aE oX (aB 2) (bH aD))) (bB "str" joinM (eC (.str ("," : Str))) (aA (a8 (cK (aB 2)) [3] (aQ 3) bA (aP zT (aA (aB 3) aD))) aD)) (eC (.str ("-" : Str))))) (aQ 1)) (aO (a8 (cK (iU fO (aB 0) (bK (eC (.int 1))) bS)) [3] (aQ 3) bA (aP zT (aA (aB 3) aD))) (aQ 1)))
 (aU (bB "str" joinM (eC (.str (" " : Str))) (aA (aE a9 (dQ (aA (aE aY (aB 0) (eC (.int 0))) aD)) (aB 1)) aD))))
def dY (k : bE) : MF := bF (gK k) fC
theorem DT (x0 : D) : begin fC [x0] = [some x0, none, none, none] := rfl
def eP : List Str := [("_law_turn_here" : Str), ("_law_text_told" : Str), ("_law_act_here" : Str), ("_law_lot_here" : Str), ("_law_one" : Str)]
def fX (k : bE) : MS :=
 (aJ (aO (sQ (aV (aE oX (aE aY (aB 0) (eC (.int 0))) (bH aD))) (bB "str" joinM (eC (.str (" ; " : Str))) (aA (a8 (cK (aE aY (aB 0) (eC (.int 0)))) [2] (aQ 2) bA (aH (dY k) 1 aM (aA (aB 2) aD))) aD)) (eC (.str ("-" : Str)))) (aQ 1))
 (aJ (dH (aV (aE eG (aE aY (aB 0) (eC (.int 1))) (bH aD))) (aU (aB 1)) aZ)
 (aU (aE a9 (aE a9 (aB 1) (eC (.str (" ! " : Str)))) (bB "str" joinM (eC (.str (" , " : Str))) (aA (a8 (cK (aE aY (aB 0) (eC (.int 1)))) [3] (aQ 3) bA (bB "str" joinM (eC (.str (" " : Str))) (aA (a8 (cK (aB 3)) [4] (aQ 4) bA (aP zT (aA (aB 4) aD))) aD))) aD))))))
def eO (k : bE) : MF := bF (fX k) eP
theorem A6 (x0 : D) : begin eP [x0] = [some x0, none, none, none, none] := rfl
def dX : List Str := [("_law_told" : Str), ("_law_turn_here" : Str)]
def fL (k : bE) : MS :=
 (aU (bB "str" joinM (eC (.str ("\n" : Str))) (aA (a8 (cK (aB 0)) [1] (aQ 1) bA (aH (eO k) 1 aM (aA (aB 1) aD))) aD)))
def cL (k : bE) : MF := bF (fL k) dX
theorem AG (x0 : D) : begin dX [x0] = [some x0, none] := rfl
def gC : List Str := [("thing" : Str)]
def jX (k : bE) : MS :=
 (aU (iZ (aP (gQ g6) (aA (aB 0) (aA (eC (.ty "int")) aD))) (AZ notM (aP (gQ g6) (aA (aB 0) (aA (eC (.ty "bool")) aD))))))
def gB (k : bE) : MF := bF (jX k) gC
theorem FP (x0 : D) : begin gC [x0] = [some x0] := rfl
def fE : List Str := [("thing" : Str), ("least" : Str), ("most" : Str)]
def hV (k : bE) : MS :=
 (aU (iZ (aH (gB k) 1 aM (aA (aB 0) aD)) (eCh UE UE (aB 1) (aB 0) (aB 2))))
def cE (k : bE) : MF := bF (hV k) fE
theorem BE (x0 x1 x2 : D) : begin fE [x0, x1, x2] = [some x0, some x1, some x2] := rfl
def gL : List Str := [("thing" : Str), ("one" : Str)]
def jI (k : bE) : MS :=
 (aU (aP allM (aA (a8 (cK (aB 0)) [1] (aQ 1) bA (aH (cE k) 3 aM (aA (aB 1) (aA (eC (.int 0)) (aA (eC (.int 999)) aD))))) aD)))
def cU (k : bE) : MF := bF (jI k) gL
theorem KS (x0 : D) : begin gL [x0] = [some x0, none] := rfl
def iQ : List Str := [("thing" : Str)]
def lP (k : bE) : MS :=
 (aU (iZ (aP (gQ g6) (aA (aB 0) (aA (eC (.ty "tuple")) aD))) (iZ (aE eG (aP cZ (aA (aB 0) aD)) (eC (.int 4))) (aH (cU k) 1 aM (aA (aB 0) aD)))))
def j8 (k : bE) : MF := bF (lP k) iQ
theorem KJ (x0 : D) : begin iQ [x0] = [some x0] := rfl
def j6 : List Str := [("thing" : Str), ("least" : Str), ("one" : Str), ("other" : Str)]
def mY (k : bE) : MS :=
 (aJ (dH (iB (cS (dS (aP (gQ g6) (aA (aB 0) (aA (eC (.ty "tuple")) aD))))) (iB (aV (aE TV (aP cZ (aA (aB 0) aD)) (aB 1))) (cS (dS (aH (cU k) 1 aM (aA (aB 0) aD)))))) (aU (eC (.bl false))) aZ)
 (aU (aP allM (aA (a8 (dB zsM (aA (iU fO (aB 0) bS (bK (AZ DF (eC (.int 1))))) (aA (iU fO (aB 0) (bK (eC (.int 1))) bS) aD))) [2, 3] (bV 2 (aI (aQ 2) (aI (aQ 3) bO))) bA (aE TV (aB 2) (aB 3))) aD))))
def eL (k : bE) : MF := bF (mY k) j6
theorem S9 (x0 x1 : D) : begin j6 [x0, x1] = [some x0, some x1, none, none] := rfl
def oV : List Str := [("thing" : Str), ("word" : Str), ("rest" : Str)]
def tO (k : bE) : MS :=
 (aJ (dH (iB (cS (dS (aP (gQ g6) (aA (aB 0) (aA (eC (.ty "tuple")) aD))))) (iB (aV (aE eG (aB 0) (bH aD))) (cS (dS (aP (gQ g6) (aA (aE aY (aB 0) (eC (.int 0))) (aA (eC (.ty "str")) aD))))))) (aU (eC (.bl false))) aZ)
 (aJ (aO (aB 0) (zJ 1 (aI (aQ 1) (aI (aQ 2) bO))))
 (aJ (dH (aV (aE eG (aB 1) (eC (.str ("tear" : Str))))) (aU (iZ (aE eG (aP cZ (aA (aB 2) aD)) (eC (.int 2))) (iZ (aH (eL k) 2 aM (aA (aE aY (aB 2) (eC (.int 0))) (aA (eC (.int 1)) aD))) (aH (eL k) 2 aM (aA (aE aY (aB 2) (eC (.int 1))) (aA (eC (.int 0)) aD)))))) aZ)
 (aU (iZ (aE (V5 k.eZ cA) (aB 1) (eC (.con k.eZ))) (iZ (aE eG (aP cZ (aA (aB 2) aD)) (aE (ZL k.eZ cA) (eC (.con k.eZ)) (aB 1))) (aH (cU k) 1 aM (aA (aB 2) aD))))))))
def o7 (k : bE) : MF := bF (tO k) oV
theorem Z9 (x0 : D) : begin oV [x0] = [some x0, none, none] := rfl
def oY : List Str := [("thing" : Str), ("deeds" : Str), ("fates" : Str), ("part" : Str), ("deed" : Str), ("fate" : Str)]
def tJ (k : bE) : MS :=
 (aJ (dH (iB (cS (dS (aP (gQ g6) (aA (aB 0) (aA (eC (.ty "tuple")) aD))))) (iB (aV (aE oX (aP cZ (aA (aB 0) aD)) (eC (.int 2)))) (cS (dS (aP allM (aA (a8 (cK (aB 0)) [3] (aQ 3) bA (aP (gQ g6) (aA (aB 3) (aA (eC (.ty "tuple")) aD)))) aD)))))) (aU (eC (.bl false))) aZ)
 (aJ (aO (aB 0) (bV 2 (aI (aQ 1) (aI (aQ 2) bO))))
 (aU (iZ (aP allM (aA (a8 (cK (aB 1)) [4] (aQ 4) bA (aH (o7 k) 1 aM (aA (aB 4) aD))) aD)) (aP allM (aA (a8 (cK (aB 2)) [5] (aQ 5) bA (aH (j8 k) 1 aM (aA (aB 5) aD))) aD))))))
def o4 (k : bE) : MF := bF (tJ k) oY
theorem YK (x0 : D) : begin oY [x0] = [some x0, none, none, none, none, none] := rfl
def kE : List Str := [("word" : Str), ("sign" : Str)]
def m8 (k : bE) : MS :=
 (aJ (dH (iB (cS (aV (eCh UE UE (eC (.int 1)) (aP cZ (aA (aB 0) aD)) (eC (.int 3))))) (cS (dS (aP allM (aA (a8 (aCe (aB 0)) [1] (aQ 1) bA (aE aD2 (aB 1) (eC (.str ("0123456789" : Str))))) aD))))) (aU (eC .non)) aZ)
 (aU (sQ (aV (aE eG (aP zT (aA (aP tM (aA (aB 0) aD)) aD)) (aB 0))) (aP tM (aA (aB 0) aD)) (eC .non))))
def j7 (k : bE) : MF := bF (m8 k) kE
theorem QK (x0 : D) : begin kE [x0] = [some x0, none] := rfl
def iV : List Str := [("words" : Str), ("found" : Str), ("word" : Str)]
def kU (k : bE) : MS :=
 (aJ (aO (aP cH (aA (a8 (cK (aB 0)) [2] (aQ 2) bA (aH (j7 k) 1 aM (aA (aB 2) aD))) aD)) (aQ 1))
 (aU (sQ (aV (aE L7 (eC .non) (aB 1))) (eC .non) (aB 1))))
def cG (k : bE) : MF := bF (kU k) iV
theorem MX (x0 : D) : begin iV [x0] = [some x0, none, none] := rfl
def jZ : List Str := [("word" : Str)]
def m5 (k : bE) : MS :=
 (aU (sQ (aV (aE eG (aB 0) (eC (.str ("-" : Str))))) (bH aD) (aH (cG k) 1 aM (aA (bB "str" splitM (aB 0) (aA (eC (.str ("," : Str))) aD)) aD))))
def j2 (k : bE) : MF := bF (m5 k) jZ
theorem Q6 (x0 : D) : begin jZ [x0] = [some x0] := rfl
def oW : List Str := [("text" : Str), ("word" : Str), ("words" : Str), ("one" : Str)]
def sV (k : bE) : MS :=
 (aJ (aO (bB "str" splitM (aB 0) (aA (eC (.str (" " : Str))) aD)) (DN 1 (aI (aQ 1) (aI (aQ 2) bO))))
 (aJ (dH (aV (aE eG (aB 1) (eC (.str ("tear" : Str))))) (aU (aE a9 (bH (aA (aB 1) aD)) (aP cH (aA (a8 (cK (aB 2)) [3] (aQ 3) bA (aH (j2 k) 1 aM (aA (aB 3) aD))) aD)))) aZ)
 (aU (sQ (aV (aE DP (aH (cG k) 1 aM (aA (aB 2) aD)) (eC .non))) (aE a9 (bH (aA (aB 1) aD)) (eOr (aH (cG k) 1 aM (aA (aB 2) aD)) (bH aD))) (bH aD)))))
def lK (k : bE) : MF := bF (sV k) oW
theorem ZC (x0 : D) : begin oW [x0] = [some x0, none, none, none] := rfl
def oU : List Str := [("line" : Str), ("ahead" : Str), ("mark" : Str), ("behind" : Str), ("deeds" : Str), ("fates" : Str), ("one" : Str)]
def tV (k : bE) : MS :=
 (aJ (aO (bB "str" FD (aB 0) (aA (eC (.str (" ! " : Str))) aD)) (bV 3 (aI (aQ 1) (aI (aQ 2) (aI (aQ 3) bO)))))
 (aJ (aO (sQ (aV (aE eG (aB 1) (eC (.str ("-" : Str))))) (bH aD) (aP cH (aA (a8 (cK (bB "str" splitM (aB 1) (aA (eC (.str (" ; " : Str))) aD))) [6] (aQ 6) bA (aH (lK k) 1 aM (aA (aB 6) aD))) aD))) (aQ 4))
 (aJ (aO (bH aD) (aQ 5))
 (aJ (dH (aV (aE oX (aB 2) (eC (.str ("" : Str))))) (aO (aP cH (aA (a8 (cK (bB "str" splitM (aB 3) (aA (eC (.str (" , " : Str))) aD))) [6] (aQ 6) bA (aH (cG k) 1 aM (aA (bB "str" splitM (aB 6) (aA (eC (.str (" " : Str))) aD)) aD))) aD)) (aQ 5)) aZ)
 (aU (sQ (dS (aH (o4 k) 1 aM (aA (bH (aA (aB 4) (aA (aB 5) aD))) aD))) (bH (aA (aB 4) (aA (aB 5) aD))) (eC .non)))))))
def lV (k : bE) : MF := bF (tV k) oU
theorem X1 (x0 : D) : begin oU [x0] = [some x0, none, none, none, none, none, none] := rfl
def gF : List Str := [("text" : Str), ("found" : Str), ("at" : Str), ("line" : Str), ("turn" : Str)]
def oF (k : bE) : MS :=
 (aJ (dH (cS (dS (aP (gQ g6) (aA (aB 0) (aA (eC (.ty "str")) aD))))) aG3 aZ)
 (aJ (aO (eNew aD) (aQ 1))
 (aJ (g9 (dB lJ (aA (sQ (aV (aE oX (aB 0) (eC (.str ("" : Str))))) (bB "str" splitM (aB 0) (aA (eC (.str ("\n" : Str))) aD)) (dQ aD)) aD)) (bV 2 (aI (aQ 2) (aI (aQ 3) bO))) (aJ (aO (aH (lV k) 1 aM (aA (aB 3) aD)) (aQ 4))
 (aJ (dH (aV (aE isM (aB 4) (eC .non))) aG3 aZ)
 (cR (bB "list" cJ (aB 1) (aA (aB 4) aD))))))
 (aU (aP cH (aA (aB 1) aD))))))
def oG (k : bE) : MF := bF (oF k) gF
theorem sM (x0 : D) : begin gF [x0] = [some x0, none, none, none, none] := rfl
def gM : List Str := [("_law_deck_here" : Str)]
def jB (k : bE) : MS :=
 (aU (aE aY (dQ (aA (eC (.int 0)) (aA (eC (.int 9)) (aA (eC (.int 10)) (aA (eC (.int 99)) (aA (eC (.int 100)) (aA (eC (.int 999)) (aA (aH lG 2 aM (aA (aB 0) (aA (eC (.int 10)) aD))) (aA (aH lG 2 aM (aA (aB 0) (aA (eC (.int 1000)) aD))) aD))))))))) (aH lG 2 aM (aA (aB 0) (aA (eC (.int 8)) aD)))))
def c8 (k : bE) : MF := bF (jB k) gM
theorem KN (x0 : D) : begin gM [x0] = [some x0] := rfl
def lU : List Str := [("_law_deck_here" : Str), ("_law_fewest" : Str), ("_law_many" : Str), ("_law_k" : Str)]
def pQ (k : bE) : MS :=
 (aJ (aO (aE a9 (aB 1) (aH lG 2 aM (aA (aB 0) (aA (eC (.int 4)) aD)))) (aQ 2))
 (aU (aP cH (aA (AZ wH (a8 (dB iO (aA (aB 2) aD)) [3] (aQ 3) bA (aH (c8 k) 1 aM (aA (aB 0) aD)))) aD))))
def iI (k : bE) : MF := bF (pQ k) lU
theorem XB (x0 x1 : D) : begin lU [x0, x1] = [some x0, some x1, none, none] := rfl
def lR : List Str := [("_law_deck_here" : Str), ("_law_word" : Str), ("_law_many" : Str), ("_law_k" : Str)]
def pS (k : bE) : MS :=
 (aJ (aO (aH KC 2 aM (aA (aB 0) (aA (dQ (aA (eC (.str ("fall" : Str))) (aA (eC (.str ("stop" : Str))) (aA (eC (.str ("rise" : Str))) (aA (eC (.str ("down" : Str))) (aA (eC (.str ("up" : Str))) (aA (eC (.str ("rank" : Str))) (aA (eC (.str ("tear" : Str))) (aA (eC (.str ("tear" : Str))) (aA (eC (.str ("heal" : Str))) (aA (eC (.str ("ask" : Str))) aD))))))))))) aD))) (aQ 1))
 (aJ (aO (bB "dict" getM (U6 (hX (eC (.str ("rank" : Str))) (eC (.int 3)) (hX (eC (.str ("heal" : Str))) (eC (.int 0)) (hX (eC (.str ("ask" : Str))) (eC (.int 2)) aAl)))) (aA (aB 1) (aA (eC (.int 1)) aD))) (aQ 2))
 (aJ (dH (aV (aE eG (aB 1) (eC (.str ("tear" : Str))))) (aU (bH (aA (aB 1) (aA (aH (iI k) 2 aM (aA (aB 0) (aA (eC (.int 1)) aD))) (aA (aH (iI k) 2 aM (aA (aB 0) (aA (eC (.int 0)) aD))) aD))))) aZ)
 (aU (aE a9 (bH (aA (aB 1) aD)) (aP cH (aA (a8 (dB iO (aA (aB 2) aD)) [3] (aQ 3) bA (aH (c8 k) 1 aM (aA (aB 0) aD))) aD)))))))
def lQ (k : bE) : MF := bF (pS k) lR
theorem XG (x0 : D) : begin lR [x0] = [some x0, none, none, none] := rfl
def kB : List Str := [("_law_deck_here" : Str), ("_law_acts" : Str), ("_law_lots" : Str), ("_law_k" : Str), ("_law_j" : Str)]
def mT (k : bE) : MS :=
 (aJ (aO (aP cH (aA (a8 (dB iO (aA (aH lG 2 aM (aA (aB 0) (aA (eC (.int 5)) aD))) aD)) [3] (aQ 3) bA (aH (lQ k) 1 aM (aA (aB 0) aD))) aD)) (aQ 1))
 (aJ (aO (a8 (dB iO (aA (aE aY (dQ (aA (eC (.int 0)) (aA (aH lG 2 aM (aA (aB 0) (aA (eC (.int 5)) aD))) aD))) (aH lG 2 aM (aA (aB 0) (aA (eC (.int 2)) aD)))) aD)) [4] (aQ 4) bA (aP cH (aA (a8 (dB iO (aA (eC (.int 4)) aD)) [3] (aQ 3) bA (aH (c8 k) 1 aM (aA (aB 0) aD))) aD))) (aQ 2))
 (aU (bH (aA (aB 1) (aA (aP cH (aA (aB 2) aD)) aD))))))
def j9 (k : bE) : MF := bF (mT k) kB
theorem SV (x0 : D) : begin kB [x0] = [some x0, none, none, none, none] := rfl
def iP : List Str := [("_law_deck_here" : Str), ("_law_many" : Str), ("_law_k" : Str)]
def kS (k : bE) : MS :=
 (aU (aP cH (aA (a8 (dB iO (aA (aB 1) aD)) [2] (aQ 2) bA (aH (j9 k) 1 aM (aA (aB 0) aD))) aD)))
def fK (k : bE) : MF := bF (kS k) iP
theorem M0 (x0 x1 : D) : begin iP [x0, x1] = [some x0, some x1, none] := rfl
abbrev iR : D → Bool := rB 0 999
def intsOf : List D → List Int
 | [] => []
 | .int i :: r => i :: intsOf r
 | _ :: r => intsOf r
def iX (c : Nat) : D → Bool
 | .tup xs => decide (c ≤ xs.length) && (xs.all iR && decide (intsOf xs = fV (intsOf xs)))
 | _ => false
def tG (m : Nat) : Option (Option D) → Bool
 | some (some (.int i)) => i == (m : Int)
 | _ => false
def dZ : D → Bool
 | .tup (.str z :: rest) => if z = ("tear" : Str) then rest.length == 2 && (iX 1 (rest.getD 0 .non) && iX 0 (rest.getD 1 .non)) else tG rest.length (cA.lookup z) && rest.all iR
 | _ => false
def gY : D → Bool
 | .tup xs => xs.length == 4 && xs.all iR
 | _ => false
def fT : D → Bool
 | .tup [.tup a, .tup f] => a.all dZ && f.all gY
 | _ => false
def uO : D → Bool
 | .tup xs => xs.all fT
 | _ => false
theorem OH : ∀ {xs : List D}, xs.all iR = true → xs = (intsOf xs).map D.int
 | [], _ => rfl
 | x :: xs, h => by
  simp only [List.all_cons, ak] at h
  cases x <;> first | (simp [rB] at h; done) | skip
  rw [intsOf, bt, ← OH h.2]
theorem pO {r : Res D} {v : D} {w : W} (h : T r fun a w' => a = v ∧ w' = w) : r = .ok v w := by
 obtain ⟨a, w', e, rfl, rfl⟩ := h.ex
 exact e
section
variable (k : Sx.bE)
abbrev lz : Lb.bE := ⟨0, 0⟩
theorem aDU : cE k = Lb.cE lz := rfl
variable {n l : Nat} {w w' w0 : W} {P : D → W → Prop} {PF : Fl → W → Prop} {d : D}
theorem aAb {xs : List D} (hd : d = .tup xs ∨ d = .lst xs) (e : ∀ x ∈ xs, oB n x = true) (hl : xs.length ≤ 70000) : cU k [d] w = .ok (.bl (xs.all iR)) w := by
 refine pO ?_
 unfold cU jI
 rw [dM, KS]
 have it : ∀ (PI : lO → W → Prop), T (iterM d w) PI = PI ⟨xs, always⟩ w := fun PI => by
  rcases hd with rfl | rfl
  ·exact nL
  ·exact vM
 simp only [it, zY, af, ae, reduceCtorEq]
 refine ⟨lI _ (by omega), ?_⟩
 refine fD (it := ⟨xs, always⟩) xs (fun x => x) (fun x => .bl (iR x)) (by simp) trivial (fun x hx => ?_) ?_
 ·simp only [cQ, aDU, aE6 0 999 (e x hx), zY, af, ae, reduceCtorEq]
 ·rw [EV xs iR]
  first | exact ⟨rfl, rfl⟩ | rfl
theorem aBo (a c : Int) (w : W) (P : D → W → Prop) : T (TV (.int a) (.int c) w) P = P (.bl (decide (a < c))) w := by unfold T; rfl
theorem UC {c : Nat} (e : oB (n + 1) d = true) : eL k [d, .int (c : Nat)] w = .ok (.bl (iX c d)) w := by
 refine pO ?_
 unfold eL mY
 rw [dM, S9, a7]
 simp only [U1 e, zY, af, ae, reduceCtorEq]
 cases d <;> simp only [sD, iX, zY, af, ae, reduceCtorEq] <;> try exact ⟨rfl, rfl⟩
 rename_i xs
 obtain ⟨e1, e2⟩ := yZ e
 try simp only [aFD, aBo, zY, af, ae, reduceCtorEq]
 by_cases c1 : c ≤ xs.length
 case neg =>
  have i1 : decide (((xs.length : Nat) : Int) < (c : Nat)) = true := by simp; omega
  have j1 : decide (c ≤ xs.length) = false := by simp; omega
  (simp only [i1, j1, Bool.false_and, zY, af, ae, reduceCtorEq]) <;> (first | exact ⟨rfl, rfl⟩ | rfl)
 have i1 : decide (((xs.length : Nat) : Int) < (c : Nat)) = false := by simp; omega
 have j1 : decide (c ≤ xs.length) = true := by simp; omega
 simp only [i1, j1, aAb k (.inl rfl) e1 e2, Bool.true_and, zY, af, ae, reduceCtorEq]
 cases c2 : xs.all iR with
 | false =>
  (simp only [Bool.false_and, zY, af, ae, reduceCtorEq]) <;> (first | exact ⟨rfl, rfl⟩ | rfl)
 | true =>
 have ei := OH c2
 obtain ⟨ns, en⟩ : ∃ ns, ns = intsOf xs := ⟨_, rfl⟩
 rw [← en] at ei ⊢
 have hl : ns.length ≤ 70000 := by rw [ei, av] at e2; exact e2
 subst ei
 simp only [aGJ, aAv, aMe, bZ, zY, af, ae, reduceCtorEq]
 refine ⟨by simp, lI _ (by simp; omega), ?_⟩
 have e5 : (List.zip (ns.map D.int).dropLast (ns.map D.int).tail).map (fun p => D.tup [p.1, p.2]) = (ns.dropLast.zip ns.tail).map fun p => D.tup [.int p.1, .int p.2] := by
  rw [← List.map_dropLast, ← List.map_tail, List.zip_map, List.map_map]
  rfl
 rw [e5]
 refine fD (it := ⟨_, always⟩) (ns.dropLast.zip ns.tail) (fun p => .tup [.int p.1, .int p.2]) (fun p => .bl (decide (p.1 < p.2))) rfl trivial (fun p _ => ?_) ?_
 ·simp only [cQ, aBo, zY, af, ae, reduceCtorEq]
 rw [EV (ns.dropLast.zip ns.tail) fun p => decide (p.1 < p.2), aCL]
 exact ⟨by simp, rfl⟩
theorem aIS (e : oB (n + 1) d = true) : j8 k [d] w = .ok (.bl (gY d)) w := by
 refine pO ?_
 unfold j8 lP
 rw [dM, KJ]
 simp only [U1 e, zY, af, ae, reduceCtorEq]
 cases d <;> simp only [sD, gY, zY, af, ae, reduceCtorEq] <;> try exact ⟨rfl, rfl⟩
 rename_i xs
 obtain ⟨e1, e2⟩ := yZ e
 simp only [aFD, aDD, aAb k (.inl rfl) e1 e2, zY, af, ae, reduceCtorEq]
 by_cases c : xs.length = 4
 ·have i1 : (((xs.length : Nat) : Int) == 4) = true := by simp; omega
  have i2 : (xs.length == 4) = true := by simp; omega
  simp only [i1, i2, Bool.true_and, zY, af, ae, reduceCtorEq]
 ·have i1 : (((xs.length : Nat) : Int) == 4) = false := by simp; omega
  have i2 : (xs.length == 4) = false := by simp; omega
  simp only [i1, i2, Bool.false_and, zY, af, ae, reduceCtorEq]
theorem aGL {z : Str} {o : Option D} (h : cA.lookup z = some o) : ∃ m : Nat, o = some (.int m) := by
 have := lookup_mem h
 simp only [cA, ay, br, df, Prod.mk.injEq] at this
 rcases this with ⟨_, rfl⟩ | ⟨_, rfl⟩ | ⟨_, rfl⟩ | ⟨_, rfl⟩ | ⟨_, rfl⟩ | ⟨_, rfl⟩ | ⟨_, rfl⟩ | ⟨_, rfl⟩
 ·exact ⟨1, rfl⟩
 ·exact ⟨1, rfl⟩
 ·exact ⟨1, rfl⟩
 ·exact ⟨1, rfl⟩
 ·exact ⟨1, rfl⟩
 ·exact ⟨3, rfl⟩
 ·exact ⟨0, rfl⟩
 ·exact ⟨2, rfl⟩
theorem BL : PyData.strOk ("tear" : Str) = true := by decide +kernel
theorem aJC (e : oB (n + 2) d = true) : o7 k [d] w = .ok (.bl (dZ d)) w := by
 refine pO ?_
 unfold o7 tO
 rw [dM, Z9, a7]
 simp only [U1 e, zY, af, ae, reduceCtorEq]
 cases d <;> simp only [sD, zY, af, ae, reduceCtorEq] <;> try rfl
 rename_i xs
 obtain ⟨e1, e2⟩ := yZ e
 cases xs with
 | nil =>
  (simp only [nP, yJ, List.isEmpty_nil, zY, af, ae, reduceCtorEq]) <;> (first | exact ⟨rfl, rfl⟩ | rfl)
 | cons x rest =>
 have ex := e1 x (aw ..)
 have er : ∀ y ∈ rest, oB (n + 1) y = true := fun y hy => e1 y (bc _ hy)
 have lr : rest.length ≤ 70000 := by rw [bg] at e2; omega
 simp only [nP, yJ, List.isEmpty_cons, at0, aDZ ex, zY, af, ae, reduceCtorEq]
 cases x <;> simp only [D9, zY, af, ae, reduceCtorEq] <;> try rfl
 rename_i z
 have sz : PyData.strOk z = true := ex
 rw [a7]
 simp only [aF5, List.take_succ_cons, List.take_zero, List.drop_succ_cons, dk, bf, bz, zY, af, ae, reduceCtorEq]
 refine ⟨⟨by omega, lI _ (by omega)⟩, ?_⟩
 rw [a7]
 simp only [nP, cV sz BL, zY, af, ae, reduceCtorEq]
 by_cases ct : z = ("tear" : Str)
 ·subst ct
  simp only [decide_true, SJ, k7, zY, af, ae, reduceCtorEq]
  by_cases c2 : rest.length = 2
  case neg =>
   have i1 : (((rest.length : Nat) : Int) == 2) = false := by simp; omega
   have i2 : (rest.length == 2) = false := by simp; omega
   (simp only [k7, i1, dZ, af, i2, Bool.false_and, zY, af, ae, reduceCtorEq]) <;> (first | exact ⟨rfl, rfl⟩ | rfl)
  obtain ⟨a, b, rfl⟩ : ∃ a b, rest = [a, b] := by
   match rest, c2 with
   | [a, b], _ => exact ⟨a, b, rfl⟩
  have ra : ∀ w : W, eL k [a, .int 1] w = .ok (.bl (iX 1 a)) w := fun w => UC k (c := 1) (er a (by simp))
  have rb : ∀ w : W, eL k [b, .int 0] w = .ok (.bl (iX 0 b)) w := fun w => UC k (c := 0) (er b (by simp))
  have g0 : atI [a, b] 0 = some a := rfl
  have g1 : atI [a, b] 1 = some b := rfl
  have ev : dZ (.tup (.str ("tear" : Str) :: [a, b])) = (iX 1 a && iX 0 b) := by
   simp only [dZ, af]
   rfl
  have i1 : ((((0 + 1 + 1 : Nat)) : Int) == 2) = true := rfl
  simp only [k7, beq_self_eq_true, i1, g0, g1, ra, rb, ev, zY, af, ae, reduceCtorEq]
  cases iX 1 a <;> simp
 ·have ev : dZ (.tup (.str z :: rest)) = (tG rest.length (cA.lookup z) && rest.all iR) := by simp only [dZ, if_neg ct]
  have nn : ∀ w : W, cU k [.lst rest] w = .ok (.bl (rest.all iR)) w := fun w => aAb k (.inr rfl) er lr
  simp only [de ct, zY, af, ae, reduceCtorEq]
  cases hz : cA.lookup z with
  | none =>
   have ki : ∀ (w : W) (P : D → W → Prop), T (V5 k.eZ cA (.str z) (.con k.eZ) w) P = P (.bl false) w := fun w P => by simp only [V5, af, hz, bZ]
   (simp only [ki, ev, hz, tG, Bool.false_and, zY, af, ae, reduceCtorEq]) <;> (first | exact ⟨rfl, rfl⟩ | rfl)
  | some o =>
   obtain ⟨m, rfl⟩ := aGL hz
   have ki := fun (w : W) (P : D → W → Prop) => aLw (w := w) (P := P) (a := k.eZ) hz
   have kx := fun (w : W) (P : D → W → Prop) => aKr (w := w) (P := P) (a := k.eZ) hz
   simp only [ki, kx, Option.isSome_some, SJ, k7, nn, ev, hz, tG, zY, af, ae, reduceCtorEq]
   by_cases c : rest.length = m
   ·subst c
    simp
   ·have i1 : (((rest.length : Nat) : Int) == (m : Nat)) = false := by simp; omega
    have i2 : (((m : Nat) : Int) == (rest.length : Nat)) = false := by simp; omega
    (simp only [i1, i2, Bool.false_and, zY, af, ae, reduceCtorEq]) <;> (first | exact ⟨rfl, rfl⟩ | rfl)
theorem HY (h : ∀ a f, d ≠ .tup [.tup a, .tup f]) : fT d = false := by
 unfold fT
 split
 ·exact absurd rfl (h _ _)
 ·rfl
theorem aJw (e : oB (n + 4) d = true) : o4 k [d] w = .ok (.bl (fT d)) w := by
 refine pO ?_
 unfold o4 tJ
 rw [dM, YK, a7]
 simp only [U1 e, zY, af, ae, reduceCtorEq]
 have no : (∀ a f, d ≠ .tup [.tup a, .tup f]) → D.bl false = .bl (fT d) ∧ w = w := fun h => ⟨by rw [HY h], rfl⟩
 cases d <;> simp only [sD, zY, af, ae, reduceCtorEq] <;> try rfl
 rename_i ps
 obtain ⟨p1, p2⟩ := yZ e
 try simp only [aFD, aDw, nL, zY, af, ae, reduceCtorEq]
 by_cases c : ps.length = 2
 case neg =>
  have i1 : (!(((ps.length : Nat) : Int) == 2)) = true := by
   have : ¬ ((ps.length : Nat) : Int) = 2 := by omega
   simpa using this
  simp only [i1, zY, af, ae, reduceCtorEq]
  rw [HY (by intro a f h; cases h; exact c rfl)]
 obtain ⟨a, f, rfl⟩ : ∃ a f, ps = [a, f] := by
  match ps, c with
  | [a, f], _ => exact ⟨a, f, rfl⟩
 have oa := p1 a (by simp)
 have of := p1 f (by simp)
 have i1 : (!((((0 + 1 + 1 : Nat)) : Int) == 2)) = false := rfl
 simp only [i1, zY, af, ae, reduceCtorEq]
 try refine ⟨lI _ (by simp), ?_⟩
 refine fD (it := ⟨[a, f], always⟩) [a, f] (fun x => x) (fun x => .bl (sD x)) rfl trivial (fun x hx => ?_) ?_
 ·simp only [cQ, U1 (p1 x hx), zY, af, ae, reduceCtorEq]
 rw [EV [a, f] sD]
 have tup2 : (∃ as fs, a = .tup as ∧ f = .tup fs) ∨ [a, f].all sD = false := by cases a <;> cases f <;> first | exact .inl ⟨_, _, rfl, rfl⟩ | exact .inr rfl
 rcases tup2 with ⟨as, fs, rfl, rfl⟩ | hf
 case inr =>
  have tn : fT (.tup [a, f]) = false := HY (by intro a' f' h; cases h; simp [sD] at hf)
  simp only [hf, tn, zY, af, ae, reduceCtorEq]
 obtain ⟨oa1, oa2⟩ := yZ oa
 obtain ⟨of1, of2⟩ := yZ of
 simp only [List.all_cons, List.all_nil, sD, Bool.and_self, zY, af, ae, reduceCtorEq]
 rw [a7]
 try simp only [nL, zY, af, ae, reduceCtorEq]
 refine ⟨lI _ (by omega), ?_⟩
 refine fD (it := ⟨as, always⟩) as (fun x => x) (fun x => .bl (dZ x)) (by simp) trivial (fun x hx => ?_) ?_
 ·simp only [cQ, aJC k (oa1 x hx), zY, af, ae, reduceCtorEq]
 rw [EV as dZ]
 cases ca : as.all dZ with
 | false =>
  try simp only [zY, af, ae, reduceCtorEq]
  first | (simp only [fT, ca, Bool.false_and]; done) | exact ⟨by simp only [fT, ca, Bool.false_and], rfl⟩
 | true =>
 try simp only [nL, zY, af, ae, reduceCtorEq]
 refine ⟨lI _ (by omega), ?_⟩
 refine fD (it := ⟨fs, always⟩) fs (fun x => x) (fun x => .bl (gY x)) (by simp) trivial (fun x hx => ?_) ?_
 ·simp only [cQ, aIS k (n := n + 1) (of1 x hx), zY, af, ae, reduceCtorEq]
 rw [EV fs gY]
 first | (simp only [fT, ca, Bool.true_and, zY, af, ae, reduceCtorEq]; done) | exact ⟨by simp only [fT, ca, Bool.true_and], rfl⟩
end
def aMH : D → Bool
 | .int _ => true
 | _ => false
def cI (xs : List D) : Nat := xs.countP aMH
def fiB : Nat → Nat → D → Bool
 | 0, _, _ => false
 | n + 1, l, .tup xs => xs.all (fiB n l) && decide (cI xs + 40 ≤ l)
 | n + 1, l, .lst xs => xs.all (fiB n l)
 | n + 1, l, .EZ _ vs => vs.all (fiB n l)
 | _ + 1, _, _ => true
theorem RN : ∀ {n n' l l' : Nat} {d : D}, fiB n l d = true → n ≤ n' → l ≤ l' → fiB n' l' d = true
 | 0, _, _, _, _, h, _, _ => by simp [fiB] at h
 | n + 1, 0, _, _, _, _, hn, _ => by omega
 | n + 1, n' + 1, l, l', d, h, hn, hl => by
  cases d <;> simp only [fiB] at h ⊢
  ·simp only [ak, au, ai] at h ⊢
   exact ⟨fun x hx => RN (h.1 x hx) (by omega) hl, by omega⟩
  ·simp only [au] at h ⊢
   exact fun x hx => RN (h x hx) (by omega) hl
  ·simp only [au] at h ⊢
   exact fun x hx => RN (h x hx) (by omega) hl
theorem aJL {n l : Nat} {xs : List D} (h : ∀ x ∈ xs, fiB n l x = true) (hl : cI xs + 40 ≤ l) : fiB (n + 1) l (.tup xs) = true := by
 simp only [fiB, ak, au, ai]
 exact ⟨h, hl⟩
def Gr (w w' : W) : Prop := ∃ x, w' = w ++ x
theorem Gr.refl {w : W} : Gr w w := ⟨[], (du w).symm⟩
theorem Gr.trans {a b c : W} (h : Gr a b) (g : Gr b c) : Gr a c := by
 obtain ⟨x, rfl⟩ := h
 obtain ⟨y, rfl⟩ := g
 exact ⟨x ++ y, by rw [cz]⟩
theorem Gr.one {w : W} {o : MO} : Gr w (w ++ [o]) := ⟨[o], rfl⟩
section
variable (k : Sx.bE)
variable {n l : Nat} {w w' w0 : W} {P : D → W → Prop} {PF : Fl → W → Prop} {d : D}
def D3 (u0 w : W) (b : Nat) : Prop := eD w 1 0 b ∧ vR u0 w 1 0
variable {u0 : W}
theorem D3.less {b b' : Nat} (h : D3 u0 w b) (hb : b' ≤ b) : D3 u0 w b' := ⟨h.1.less hb, h.2⟩
theorem aBd {b : Nat} (h : eD w 1 0 b) : 2 ≤ w.length := by
 obtain ⟨_, cells, sm, a, h1, h2, _⟩ := h
 have := (ar.mp h1).1
 omega
theorem HA {b : Nat} (h : eD w 1 0 b) (g : Gr w w') : eD w' 1 0 b := by
 have l := aBd h
 obtain ⟨x, rfl⟩ := g
 obtain ⟨ne, cells, sm, a, h1, h2, h3⟩ := h
 exact ⟨ne, cells, sm, a, by rw [bj (by omega)]; exact h1, by rw [bj (by omega)]; exact h2, h3⟩
theorem JV {b q : Nat} {o : MO} (h : eD w 1 0 b) (hq : 2 ≤ q) : eD (w.set q o) 1 0 b := by
 obtain ⟨ne, cells, sm, a, h1, h2, h3⟩ := h
 exact ⟨ne, cells, sm, a, by rw [bu (by omega)]; exact h1, by rw [bu (by omega)]; exact h2, h3⟩
theorem D3.gr {b : Nat} (h : D3 u0 w b) (g : Gr w w') : D3 u0 w' b := by
 refine ⟨HA h.1 g, h.2.trans ?_⟩
 obtain ⟨x, rfl⟩ := g
 exact vR.app
theorem uF {b : Nat} {size : Int} (h : D3 u0 w (b + 1)) (h0 : 0 < size) (h1 : size < 1073741824) (hP : ∀ v w', 0 ≤ v → v < size → D3 u0 w' b → Pc.Kept w w' 1 0 → P (.int v) w') : T (lG [.ref 1, .int size] w) P :=
 kY h.1 h0 h1 fun v w' a0 a1 d k => hP v w' a0 a1 ⟨d, h.2.trans (Pc.Kept.grow k)⟩ k
theorem aFm {b : Nat} {xs : List D} (h : D3 u0 w (b + 1)) (h0 : xs ≠ []) (h1 : xs.length < 1073741824) (hP : ∀ x w', x ∈ xs → D3 u0 w' b → Pc.Kept w w' 1 0 → P x w') : T (KC [.ref 1, .lst xs] w) P :=
 aAF h.1 h0 h1 fun x w' a0 d k => hP x w' a0 ⟨d, h.2.trans (Pc.Kept.grow k)⟩ k
theorem UK {xs : List D} {i : Int} {Q : D → Prop} (h0 : 0 ≤ i) (h1 : i < (xs.length : Nat)) (h : ∀ x ∈ xs, Q x) : ∃ x, atI xs i = some x ∧ Q x := by
 obtain ⟨x, hx, hm⟩ := aIU h0 h1
 exact ⟨x, hx, h x hm⟩
theorem uR {it : lO} {vs : List Nat} {g : MG} {t : MT} {e : ME} {σ : Sg} {P : List D → W → Prop} {b : Nat} (c : Nat) (F : D → Prop) (hok : ∀ w, it.ok w) (hd : D3 u0 w (b + c * it.xs.length))
  (step : ∀ x w' b', D3 u0 w' (b' + c) → T (g x (cQ σ vs) w') fun σ1 w1 => T (t σ1 w1) fun tt w2 => tt = true ∧ T (e σ1 w2) fun y w3 => F y ∧ D3 u0 w3 b')
  (fin : ∀ ys w', ys.length = it.xs.length → (∀ y ∈ ys, F y) → D3 u0 w' b → P ys w') : T (jD it vs g t e it.xs σ w) P := by
 refine B6 (fun j acc w' => acc.length = j ∧ (∀ y ∈ acc, F y) ∧ D3 u0 w' (b + c * (it.xs.length - j))) (fun _ _ w' _ => hok w') ⟨rfl, by simp, hd⟩ (fun j x acc w' hx ⟨h1, h2, h3⟩ => ?_) fun acc w' ⟨h1, h2, h3⟩ => ?_
 ·have hj := (ar.mp hx).1
  have e1 : b + c * (it.xs.length - j) = b + c * (it.xs.length - (j + 1)) + c := by
   have : it.xs.length - j = (it.xs.length - (j + 1)) + 1 := by omega
   rw [this, Nat.mul_succ]
   omega
  rw [e1] at h3
  refine (step x w' _ h3).mono fun σ1 w1 _ q => q.mono fun tt w2 _ q => ?_
  obtain ⟨rfl, q⟩ := q
  rw [if_pos rfl]
  refine q.mono fun y w3 _ ⟨e2, e3⟩ => ⟨by rw [bw, h1]; rfl, fun z hz => ?_, e3⟩
  rcases bh.mp hz with hz | hz
  ·exact h2 z hz
  ·rw [bp.mp hz]
   exact e2
 ·refine fin acc w' h1 h2 ?_
  rw [Nat.sub_self, Nat.mul_zero, Nat.add_zero] at h3
  exact h3
theorem L0 {b : Nat} (hd : D3 u0 w (b + 3)) (hP : ∀ v w', 0 ≤ v → v ≤ 999 → D3 u0 w' b → P (.int v) w') : T (c8 k [.ref 1] w) P := by
 unfold c8 jB
 rw [dM, KN]
 simp only [zY, af, ae, reduceCtorEq]
 refine uF (b := b + 2) hd (by omega) (by omega) fun x w1 x0 x1 d1 _ => ?_
 try simp only [zY, af, ae, reduceCtorEq]
 refine uF (b := b + 1) d1 (by omega) (by omega) fun y w2 y0 y1 d2 _ => ?_
 try simp only [zY, af, ae, reduceCtorEq]
 refine uF (b := b) d2 (by omega) (by omega) fun i w3 i0 i1 d3 _ => ?_
 try simp only [zY, af, ae, reduceCtorEq]
 refine UK i0 ?_ fun z hz => ?_
 ·simp only [bg, cw]
  omega
 simp only [ay, br, df] at hz
 rcases hz with rfl | rfl | rfl | rfl | rfl | rfl | rfl | rfl <;> exact hP _ w3 (by omega) (by omega) d3
def Pt (n c : Nat) (y : D) : Prop := (HX n 80 y = true ∧ fiB n 80 y = true) ∧ jA y ≤ c
def aDS (y : D) : Prop := ∃ v : Int, y = .int v ∧ 0 ≤ v ∧ v ≤ 999
theorem aFC {ys : List D} (h : ∀ y ∈ ys, aDS y) : ∃ ns : List Int, ys = ns.map D.int ∧ ∀ v ∈ ns, 0 ≤ v ∧ v ≤ 999 := by
 induction ys with
 | nil => exact ⟨[], rfl, by simp⟩
 | cons y ys ih =>
  obtain ⟨v, rfl, v0, v1⟩ := h y (aw ..)
  obtain ⟨ns, rfl, hn⟩ := ih fun z hz => h z (bc _ hz)
  refine ⟨v :: ns, rfl, fun u hu => ?_⟩
  rcases ay.mp hu with rfl | hu
  ·exact ⟨v0, v1⟩
  ·exact hn u hu
theorem HW {y : D} (h : aDS y) : Pt 1 0 y ∧ iR y = true := by
 obtain ⟨v, rfl, v0, v1⟩ := h
 refine ⟨⟨⟨?_, rfl⟩, az _⟩, ?_⟩
 ·simp only [HX, ai]
  omega
 ·simp only [rB, ak, ai]
  exact ⟨v0, v1⟩
theorem YC {c : Nat} : ∀ {ys : List D}, (∀ y ∈ ys, jA y ≤ c) → wtDs ys ≤ ys.length * (c + 1)
 | [], _ => by simp [wtDs]
 | y :: ys, h => by
  have a := h y (aw ..)
  have b := YC (c := c) fun z hz => h z (bc _ hz)
  rw [wtDs, bg, Nat.succ_mul]
  omega
theorem OW {xs : List D} : cI xs ≤ xs.length := List.countP_le_length
theorem EA {n c : Nat} {ys : List D} (h : ∀ y ∈ ys, Pt n c y) (hl : ys.length ≤ 120) (hc : cI ys ≤ 40) : Pt (n + 1) (ys.length * (c + 1)) (.tup ys) :=
 ⟨⟨aJ1 (fun y hy => (h y hy).1.1) (by omega), aJL (fun y hy => (h y hy).1.2) (by omega)⟩, YC fun y hy => (h y hy).2⟩
theorem Pt.up {n n' c c' : Nat} {y : D} (h : Pt n c y) (hn : n ≤ n') (hc : c ≤ c') : Pt n' c' y := ⟨⟨SY h.1.1 hn (az _), RN h.1.2 hn (az _)⟩, by have := h.2; omega⟩
theorem ints_map : ∀ {ns : List Int}, intsOf (ns.map D.int) = ns
 | [] => rfl
 | n :: ns => by rw [bt, intsOf, ints_map]
theorem UP {ns : List Int} : fV ns = fV (fV ns) := yV kA kA fun k => by simp only [lS]
theorem aHw {b c : Nat} (hc : c ≤ 1) (hd : D3 u0 w (b + 13)) (hP : ∀ y w', iX c y = true → Pt 2 4 y → D3 u0 w' b → P y w') : T (iI k [.ref 1, .int (c : Nat)] w) P := by
 unfold iI pQ
 rw [dM, XB, a7]
 simp only [zY, af, ae, reduceCtorEq]
 refine uF (b := b + 12) hd (by omega) (by omega) fun v w1 v0 v1 d1 _ => ?_
 obtain ⟨v, rfl⟩ : ∃ n : Nat, v = (n : Int) := ⟨v.toNat, by omega⟩
 have ev : ((c : Nat) : Int) + (v : Int) = ((c + v : Nat) : Int) := by omega
 simp only [A2, ev, zY, af, ae, reduceCtorEq]
 rw [wX (by omega) (by omega)]
 have lr : (fW 0 ((c + v : Nat) : Int).toNat).xs.length = c + v := by rw [j5]; omega
 refine ⟨lI _ (by rw [lr]; omega), ?_⟩
 refine uR (it := fW 0 ((c + v : Nat) : Int).toNat) (b := b) 3 aDS (fun _ => trivial) (d1.less (by rw [lr]; omega)) (fun x w' b' d' => ?_) fun ys w' ly hy d' => ?_
 ·try simp only [cQ, zY, af, ae, reduceCtorEq]
  refine L0 k d' fun u w2 u0 u1 d2 => ?_
  try simp only [zY, af, ae, reduceCtorEq]
  exact ⟨⟨u, rfl, u0, u1⟩, d2⟩
 rw [lr] at ly
 obtain ⟨ns, rfl, hn⟩ := aFC hy
 rw [av] at ly
 have hr : ∀ u ∈ fV ns, 0 ≤ u ∧ u ≤ 999 := fun u hu => hn u (lS.mp hu)
 have hl := NZ (xs := ns)
 have l2 : wH (.lst (ns.map D.int)) w' = .ok (.lst ((fV ns).map D.int)) w' := by
  simp only [wH, D.items, Option.bind_some, Pc.oZ, show ns.length < 64 by omega, af]
 simp only [l2, vT, zY, af, ae, reduceCtorEq]
 have np : ∀ y ∈ (fV ns).map D.int, Pt 1 0 y ∧ iR y = true := fun y hy => by
  obtain ⟨u, hu, rfl⟩ := cg.mp hy
  exact HW ⟨u, rfl, hr u hu⟩
 refine hP _ w' ?_ ((EA (fun y hy => (np y hy).1) (by rw [av]; omega) (bq OW (by rw [av]; omega))).up (az _) (by rw [av]; omega)) d'
 simp only [iX, ak, ai, au, ints_map, av]
 refine ⟨?_, fun y hy => (np y hy).2, UP⟩
 rcases Nat.eq_zero_or_pos c with h0 | h0
 ·omega
 ·have : ns ≠ [] := fun e => by rw [e, cw] at ly; omega
  obtain ⟨u, us, rfl⟩ := di this
  have := List.length_pos_of_mem (lS.mpr (aw (a := u) (l := us)))
  omega
def kv3 : List (Key × D) := [(.inr ("rank" : Str), .int 3), (.inr ("heal" : Str), .int 0), (.inr ("ask" : Str), .int 2)]
theorem ZQ {x : D} (h : x ∈ [D.str ("fall" : Str), .str ("stop" : Str), .str ("rise" : Str), .str ("down" : Str), .str ("up" : Str), .str ("rank" : Str), .str ("tear" : Str), .str ("tear" : Str), .str ("heal" : Str), .str ("ask" : Str)]) :
  ∃ (z : Str) (m : Nat), x = .str z ∧ m ≤ 3 ∧ (jM kv3 (.inr z)).getD (.int 1) = .int m ∧ (z ≠ ("tear" : Str) → tG m (cA.lookup z) = true) ∧ (PyData.strOk z = true ∧ JJ 0 z = true) ∧ z.cps.size ≤ 4 := by
 simp only [ay, br, df] at h
 rcases h with rfl | rfl | rfl | rfl | rfl | rfl | rfl | rfl | rfl | rfl
 ·exact ⟨_, 1, rfl, by omega, rfl, fun _ => by decide +kernel, by decide +kernel, by decide +kernel⟩
 ·exact ⟨_, 1, rfl, by omega, rfl, fun _ => by decide +kernel, by decide +kernel, by decide +kernel⟩
 ·exact ⟨_, 1, rfl, by omega, rfl, fun _ => by decide +kernel, by decide +kernel, by decide +kernel⟩
 ·exact ⟨_, 1, rfl, by omega, rfl, fun _ => by decide +kernel, by decide +kernel, by decide +kernel⟩
 ·exact ⟨_, 1, rfl, by omega, rfl, fun _ => by decide +kernel, by decide +kernel, by decide +kernel⟩
 ·exact ⟨_, 3, rfl, by omega, rfl, fun _ => by decide +kernel, by decide +kernel, by decide +kernel⟩
 ·exact ⟨_, 1, rfl, by omega, rfl, fun h => absurd rfl h, by decide +kernel, by decide +kernel⟩
 ·exact ⟨_, 1, rfl, by omega, rfl, fun h => absurd rfl h, by decide +kernel, by decide +kernel⟩
 ·exact ⟨_, 0, rfl, by omega, rfl, fun _ => by decide +kernel, by decide +kernel, by decide +kernel⟩
 ·exact ⟨_, 2, rfl, by omega, rfl, fun _ => by decide +kernel, by decide +kernel, by decide +kernel⟩
theorem aKY {b : Nat} (hd : D3 u0 w (b + 30)) (hP : ∀ y w', dZ y = true → Pt 3 20 y → D3 u0 w' b → P y w') : T (lQ k [.ref 1] w) P := by
 unfold lQ pS
 rw [dM, XG, a7]
 simp only [zY, af, ae, reduceCtorEq]
 refine aFm (b := b + 29) hd (by simp) (by simp) fun x w1 hx d1 _ => ?_
 obtain ⟨z, m, rfl, m3, hm, hs, ⟨sz, s0⟩, z4⟩ := ZQ hx
 clear hx
 try simp only [zY, af, ae, reduceCtorEq]
 rw [a7]
 simp only [aCN, SD, ZI, zY, af, ae, reduceCtorEq]
 refine ⟨kv3, rfl, by decide, ?_⟩
 obtain ⟨w2, e2⟩ : ∃ w2, w2 = w1 ++ [MO.dK kv3] := ⟨_, rfl⟩
 have hq : w2[w1.length]? = some (.dK kv3) := by rw [e2]; exact AQ
 have d2 : D3 u0 w2 (b + 29) := D3.gr d1 ⟨_, e2⟩
 have e3 : w1 ++ [MO.dK (AM [] kv3)] = w2 := by rw [e2]; rfl
 rw [e3]
 have tyk : tyD (.ref w1.length) w2 = some "dict" := by simp only [tyD, hq]
 have gm : getM (.ref w1.length) [.str z, .int 1] w2 = .ok (.int m) w2 := by
  have : qU (.dK kv3) (.str z) = some (jM kv3 (.inr z)) := rfl
  simp only [getM, hq, this, hm]
 simp only [tyk, gm, zY, af, ae, reduceCtorEq]
 rw [a7]
 simp only [nP, cV sz BL, aj, bx, zY, af, ae, reduceCtorEq]
 have wz : Pt 1 4 (.str z) := ⟨⟨by simp only [HX]; exact B1 s0 (by omega), rfl⟩, z4⟩
 by_cases ct : z = ("tear" : Str)
 ·subst ct
  simp only [decide_true, zY, af, ae, reduceCtorEq]
  have n1 : (1 : Int) = ((1 : Nat) : Int) := rfl
  have n0 : (0 : Int) = ((0 : Nat) : Int) := rfl
  rw [n1]
  refine aHw k (c := 1) (b := b + 16) (by omega) d2 fun y1 w3 g1 p1 d3 => ?_
  try simp only [zY, af, ae, reduceCtorEq]
  rw [n0]
  refine aHw k (c := 0) (b := b + 3) (by omega) d3 fun y0 w4 g0 p0 d4 => ?_
  try simp only [zY, af, ae, reduceCtorEq]
  refine hP _ w4 ?_ ?_ (d4.less (by omega))
  ·simp only [dZ, af, ak]
   exact ⟨rfl, g1, g0⟩
  ·refine (EA (n := 2) (c := 4) (fun y hy => ?_) (by simp) (bq OW (by simp))).up (by omega) (by simp)
   simp only [ay, br, df] at hy
   rcases hy with rfl | rfl | rfl
   ·exact wz.up (by omega) (by omega)
   ·exact p1
   ·exact p0
 ·simp only [de ct, zY, af, ae, reduceCtorEq]
  rw [wX (by omega) (by omega)]
  have lr : (fW 0 ((m : Nat) : Int).toNat).xs.length = m := by rw [j5]; omega
  refine ⟨lI _ (by rw [lr]; omega), ?_⟩
  refine uR (it := fW 0 ((m : Nat) : Int).toNat) (b := b) 3 aDS (fun _ => trivial) (d2.less (by rw [lr]; omega)) (fun x w' b' d' => ?_) fun ys w' ly hy d' => ?_
  ·try simp only [cQ, zY, af, ae, reduceCtorEq]
   refine L0 k d' fun u w2 u0 u1 d2 => ?_
   try simp only [zY, af, ae, reduceCtorEq]
   exact ⟨⟨u, rfl, u0, u1⟩, d2⟩
  rw [lr] at ly
  simp only [vT, DR, zY, af, ae, reduceCtorEq]
  refine ⟨by rw [sizeLine_eq]; omega, ?_⟩
  refine hP _ w' ?_ ?_ d'
  ·have : dZ (.tup ([.str z] ++ ys)) = (tG ys.length (cA.lookup z) && ys.all iR) := by
    rw [List.singleton_append]
    simp only [dZ, if_neg ct]
   rw [this, ly, hs ct, Bool.true_and, au]
   exact fun y hy' => (HW (hy y hy')).2
  ·refine (EA (n := 2) (c := 4) (fun y hy' => ?_) (by rw [bw, dj]; omega) (bq OW (by rw [bw, dj]; omega))).up (by omega) (by rw [bw, dj]; omega)
   rcases bh.mp hy' with h1 | h1
   ·rw [bp.mp h1]
    exact wz.up (by omega) (by omega)
   ·exact (HW (hy y h1)).1.up (by omega) (by omega)
theorem aAN {y : D} (h : dZ y = true) : ∃ ys, y = .tup ys := by
 cases y <;> first | exact ⟨_, rfl⟩ | (simp [dZ] at h; done)
end
def okW (l : List Nat) : Bool := match intText? ⟨l.toArray⟩ with
 | some n => decide (0 ≤ n) && decide (n ≤ 999)
 | none => false
theorem aJh : ((List.range 10).all fun a => okW [48 + a] && (List.range 10).all fun b => okW [48 + a, 48 + b] && (List.range 10).all fun c => okW [48 + a, 48 + b, 48 + c]) = true := by decide +kernel
def u5 (c : Nat) : Bool := decide (48 ≤ c) && decide (c ≤ 57)
theorem aKl : ((List.range 1000).all fun n => (wB (n : Int)).cps.toList.all u5 && (decide (1 ≤ (wB (n : Int)).length) && (decide ((wB (n : Int)).length ≤ 3) && (intText? (wB (n : Int)) == some (n : Int))))) = true := by decide +kernel
structure aMW (i : Int) : Prop where
 aBY : ∀ c ∈ (wB i).cps.toList, 48 ≤ c ∧ c ≤ 57
 one : 1 ≤ (wB i).length
 three : (wB i).length ≤ 3
 back : intText? (wB i) = some i
theorem aFx {i : Int} (h0 : 0 ≤ i) (h1 : i ≤ 999) : aMW i := by
 obtain ⟨n, rfl⟩ : ∃ n : Nat, i = (n : Int) := ⟨i.toNat, by omega⟩
 have a := aKl
 rw [au] at a
 have b := a n (List.mem_range.mpr (by omega))
 simp only [ak, ai, beq_iff_eq, au, u5] at b
 exact ⟨b.1, b.2.1, b.2.2.1, b.2.2.2⟩
theorem aJQ : ("0123456789" : Str).cps.toList = [48, 49, 50, 51, 52, 53, 54, 55, 56, 57] := by decide +kernel
theorem aAA {c : Nat} : decide (c ∈ ("0123456789" : Str).cps.toList) = u5 c := by
 rw [aJQ, u5]
 simp only [ay, br, df]
 rw [← Bool.decide_and]
 congr 1
 apply propext
 omega
theorem JK {x : Str} (h1 : 1 ≤ x.length) (h3 : x.length ≤ 3) (hd : x.cps.toList.all u5 = true) : ∃ n : Int, intText? x = some n ∧ 0 ≤ n ∧ n ≤ 999 := by
 have key : okW x.cps.toList = true := by
  have a := aJh
  simp only [au, ak, List.mem_range] at a
  have lx : x.length = x.cps.toList.length := by simp [Str.length]
  simp only [au, u5, ak, ai] at hd
  have e : ∀ c ∈ x.cps.toList, ∃ d, c = 48 + d ∧ d < 10 := fun c hc => ⟨c - 48, by have := hd c hc; omega, by have := hd c hc; omega⟩
  match hx : x.cps.toList with
  | [] =>
   rw [hx, cw] at lx
   omega
  | [p] =>
   obtain ⟨d, rfl, h⟩ := e p (by rw [hx]; simp)
   exact (a d h).1
  | [p, q] =>
   obtain ⟨d, rfl, h⟩ := e p (by rw [hx]; simp)
   obtain ⟨f, rfl, g⟩ := e q (by rw [hx]; simp)
   exact ((a d h).2 f g).1
  | [p, q, r] =>
   obtain ⟨d, rfl, h⟩ := e p (by rw [hx]; simp)
   obtain ⟨f, rfl, g⟩ := e q (by rw [hx]; simp)
   obtain ⟨j, rfl, i⟩ := e r (by rw [hx]; simp)
   exact ((a d h).2 f g).2 j i
  | p :: q :: r :: s :: t =>
   rw [hx] at lx
   simp only [bg] at lx
   omega
 have ex : (⟨x.cps.toList.toArray⟩ : Str) = x := by
  cases x
  simp
 unfold okW at key
 rw [ex] at key
 split at key
 ·rename_i n e
  simp only [ak, ai] at key
  exact ⟨n, e, key.1, key.2⟩
 ·cases key
def iT (x : Str) : Option Int := if 1 ≤ x.length ∧ x.length ≤ 3 ∧ x.cps.toList.all u5 = true then (match intText? x with
 | some n => if wB n = x then some n else none
 | none => none) else none
theorem aAy {x : Str} {i : Int} (h : iT x = some i) : 0 ≤ i ∧ i ≤ 999 := by
 unfold iT at h
 split at h
 ·rename_i c
  obtain ⟨n, e, n0, n1⟩ := JK c.1 c.2.1 c.2.2
  rw [e] at h
  simp only at h
  split at h
  ·cases h
   exact ⟨n0, n1⟩
  ·cases h
 ·cases h
def sN : D → Str
 | .int i => wB i
 | _ => ""
def DH : D → Str
 | .tup xs => if xs = [] then "-" else Txt.join "," (xs.map sN)
 | _ => ""
def NG : D → Str
 | .tup (.str z :: rest) => Txt.join " " (z :: rest.map (if z = ("tear" : Str) then DH else sN))
 | _ => ""
def pJ : D → Str
 | .tup xs => Txt.join " " (xs.map sN)
 | _ => ""
def pU (a : List D) : Str := if a = [] then "-" else Txt.join " ; " (a.map NG)
def q9 : D → Str
 | .tup [.tup a, .tup f] => if f = [] then pU a else pU a ++ " ! " ++ Txt.join " , " (f.map pJ)
 | _ => ""
def AK : D → Str
 | .tup ts => Txt.join "\n" (ts.map q9)
 | _ => ""
theorem O8 (y : Str) : ∀ ps : List Str, (TL.joinL (TL.tl y) (ps.map TL.tl)).length ≤ (ps.map fun p => p.length + y.length).sum
 | [] => az 0
 | [p] => by
  show (TL.tl p).length ≤ (p.length + y.length) + 0
  rw [← TL.len_tl]
  omega
 | p :: q :: r => by
  have ih := O8 y (q :: r)
  show (TL.tl p ++ (TL.tl y ++ TL.joinL (TL.tl y) ((q :: r).map TL.tl))).length ≤ (p.length + y.length) + ((q :: r).map fun p => p.length + y.length).sum
  rw [bw, bw, ← TL.len_tl, ← TL.len_tl]
  omega
theorem LX (y : Str) (ps : List Str) : (Txt.join y ps).length ≤ (ps.map fun p => p.length + y.length).sum := by
 rw [TL.len_tl, sU]
 exact O8 y ps
theorem xB {f : D → Str} {c : Nat} : ∀ {xs : List D}, (∀ x ∈ xs, (f x).length + c ≤ 4 * (jA x + 1)) → ((xs.map f).map fun p => p.length + c).sum ≤ 4 * wtDs xs
 | [], _ => Nat.zero_le _
 | x :: xs, h => by
  have a := h x (aw ..)
  have b := xB (f := f) (c := c) fun z hz => h z (bc x hz)
  rw [bt, bt, List.sum_cons, wtDs]
  omega
theorem CA {f : D → Str} {y : Str} {xs : List D} (h : ∀ x ∈ xs, (f x).length + y.length ≤ 4 * (jA x + 1)) : (Txt.join y (xs.map f)).length ≤ 4 * wtDs xs := bq (LX y _) (xB h)
theorem QX {d : D} (h : iR d = true) : ∃ i : Int, d = .int i ∧ 0 ≤ i ∧ i ≤ 999 := by
 cases d <;> first | (simp [rB] at h; done) | skip
 simp only [rB, ak, ai] at h
 exact ⟨_, rfl, h.1, h.2⟩
theorem G5 {d : D} (h : iR d = true) : (sN d).length ≤ 3 ∧ 1 ≤ (sN d).length := by
 obtain ⟨i, rfl, h0, h1⟩ := QX h
 exact ⟨(aFx h0 h1).three, (aFx h0 h1).one⟩
theorem P0 {d : D} (h : iR d = true) : ∀ c ∈ (sN d).cps.toList, 48 ≤ c ∧ c ≤ 57 := by
 obtain ⟨i, rfl, h0, h1⟩ := QX h
 exact (aFx h0 h1).aBY
theorem DZ {c : Nat} {d : D} (h : iX c d = true) : ∃ xs, d = .tup xs ∧ c ≤ xs.length ∧ (∀ x ∈ xs, iR x = true) ∧ iX 0 d = true := by
 cases d <;> first | (simp [iX] at h; done) | skip
 rename_i xs
 simp only [iX, ak, ai, au] at h
 exact ⟨xs, rfl, h.1, h.2.1, by
  simp only [iX, ak, ai, au]
  exact ⟨Nat.zero_le _, h.2⟩⟩
theorem dR {z : Str} {n : Nat} (h : z.cps.toList.length = n) : z.length = n := by
 rw [← h]
 simp [Str.length]
theorem y3 : ("-" : Str).cps.toList = [45] := by decide +kernel
theorem JZ : ("," : Str).cps.toList = [44] := by decide +kernel
theorem JU : (" ; " : Str).cps.toList = [32, 59, 32] := by decide +kernel
theorem Q8 : (" ! " : Str).cps.toList = [32, 33, 32] := by decide +kernel
theorem H8 : (" , " : Str).cps.toList = [32, 44, 32] := by decide +kernel
theorem vY : (" " : Str).cps.toList = [32] := by decide +kernel
theorem ES : ("\n" : Str).cps.toList = [10] := by decide +kernel
theorem aDK {c0 : Nat} {d : D} (h : iX c0 d = true) : ∀ c ∈ (DH d).cps.toList, (48 ≤ c ∧ c ≤ 57) ∨ c = 44 ∨ c = 45 := by
 obtain ⟨xs, rfl, _, hn, _⟩ := DZ h
 intro c hc
 unfold DH at hc
 simp only at hc
 split at hc
 ·rw [y3] at hc
  exact .inr (.inr (bp.mp hc))
 ·rcases pI hc with hc | ⟨p, hp, hc⟩
  ·rw [JZ] at hc
   exact .inr (.inl (bp.mp hc))
  ·obtain ⟨x, hx, rfl⟩ := cg.mp hp
   exact .inl (P0 (hn x hx) c hc)
theorem aAD {c0 : Nat} {d : D} (h : iX c0 d = true) : (DH d).length + 1 ≤ 4 * (jA d + 1) := by
 obtain ⟨xs, rfl, _, hn, _⟩ := DZ h
 unfold DH
 simp only
 split
 ·rename_i e
  rw [dR (congrArg List.length y3)]
  simp only [bg, cw]
  omega
 ·have := CA (f := sN) (y := ("," : Str)) (xs := xs) fun x hx => by
   have := (G5 (hn x hx)).1
   rw [dR (z := ("," : Str)) (congrArg List.length JZ)]
   simp only [bg, cw]
   omega
  simp only [jA]
  omega
def pE : List Str := ["fall", "stop", "rise", "down", "up", "rank", "heal", "ask"]
theorem aDy : ("tear" :: pE : List Str).all (fun z => PyData.strOk z && (z.cps.toList.all (fun c => decide (97 ≤ c) && decide (c ≤ 122)) && (decide (1 ≤ z.length) && decide (z.length ≤ 4)))) = true := by decide +kernel
theorem aJU {d : D} (h : dZ d = true) : ∃ z rest, d = .tup (.str z :: rest) ∧ ((z = ("tear" : Str) ∧ ∃ a b, rest = [a, b] ∧ iX 1 a = true ∧ iX 0 b = true) ∨ (z ≠ ("tear" : Str) ∧ tG rest.length (cA.lookup z) = true ∧ ∀ x ∈ rest, iR x = true)) := by
 cases d <;> first | (simp [dZ] at h; done) | skip
 rename_i xs
 cases xs with
 | nil => simp [dZ] at h
 | cons x rest =>
  cases x <;> first | (simp [dZ] at h; done) | skip
  rename_i z
  refine ⟨z, rest, rfl, ?_⟩
  simp only [dZ] at h
  by_cases e : z = ("tear" : Str)
  ·rw [if_pos e] at h
   simp only [ak, beq_iff_eq] at h
   match rest, h with
   | [a, b], h => exact .inl ⟨e, a, b, rfl, h.2.1, h.2.2⟩
  ·rw [if_neg e] at h
   simp only [ak, au] at h
   exact .inr ⟨e, h.1, h.2⟩
theorem aCh {z : Str} {m : Nat} (h : tG m (cA.lookup z) = true) : z ∈ pE ∧ m ≤ 3 := by
 cases hz : cA.lookup z with
 | none => rw [hz] at h; cases h
 | some o =>
  rw [hz] at h
  have := lookup_mem hz
  simp only [cA, ay, br, df, Prod.mk.injEq] at this
  have key : ∀ c : Nat, c ≤ 3 → o = some (.int (c : Int)) → m ≤ 3 := fun c hc e => by
   rw [e] at h
   have : ((c : Int) == (m : Int)) = true := h
   simp only [beq_iff_eq] at this
   omega
  rcases this with ⟨rfl, e⟩ | ⟨rfl, e⟩ | ⟨rfl, e⟩ | ⟨rfl, e⟩ | ⟨rfl, e⟩ | ⟨rfl, e⟩ | ⟨rfl, e⟩ | ⟨rfl, e⟩
  ·exact ⟨by simp [pE], key 1 (by omega) e⟩
  ·exact ⟨by simp [pE], key 1 (by omega) e⟩
  ·exact ⟨by simp [pE], key 1 (by omega) e⟩
  ·exact ⟨by simp [pE], key 1 (by omega) e⟩
  ·exact ⟨by simp [pE], key 1 (by omega) e⟩
  ·exact ⟨by simp [pE], key 3 (by omega) e⟩
  ·exact ⟨by simp [pE], key 0 (by omega) e⟩
  ·exact ⟨by simp [pE], key 2 (by omega) e⟩
structure XT (z : Str) : Prop where
 ok : PyData.strOk z = true
 ch : ∀ c ∈ z.cps.toList, 97 ≤ c ∧ c ≤ 122
 one : 1 ≤ z.length
 four : z.length ≤ 4
theorem V9 {z : Str} (h : z ∈ ("tear" :: pE : List Str)) : XT z := by
 have a := aDy
 rw [au] at a
 have b := a z h
 simp only [ak, ai, au] at b
 exact ⟨b.1, b.2.1, b.2.2.1, b.2.2.2⟩
theorem sX {d : D} (h : dZ d = true) : ∃ z rest, d = .tup (.str z :: rest) ∧ XT z ∧ ∃ f : D → Str, NG d = Txt.join " " (z :: rest.map f) ∧ ((z = ("tear" : Str) ∧ f = DH ∧ ∃ a b, rest = [a, b] ∧ iX 1 a = true ∧ iX 0 b = true) ∨ (z ≠ ("tear" : Str) ∧ f = sN ∧ tG rest.length (cA.lookup z) = true ∧ ∀ x ∈ rest, iR x = true)) := by
 obtain ⟨z, rest, ed, hh⟩ := aJU h
 clear h
 refine ⟨z, rest, ed, ?_, (if z = ("tear" : Str) then DH else sN), by rw [ed]; rfl, ?_⟩
 ·rcases hh with ⟨e, _⟩ | ⟨_, hs, _⟩
  ·exact V9 (by rw [e]; exact aw ..)
  ·exact V9 (bc _ (aCh hs).1)
 ·rcases hh with ⟨e, h⟩ | ⟨h1, h2⟩
  ·exact .inl ⟨e, if_pos e, h⟩
  ·exact .inr ⟨h1, if_neg h1, h2⟩
theorem SQ {z : Str} {rest : List D} {f : D → Str} (h : (z = ("tear" : Str) ∧ f = DH ∧ ∃ a b, rest = [a, b] ∧ iX 1 a = true ∧ iX 0 b = true) ∨ (z ≠ ("tear" : Str) ∧ f = sN ∧ tG rest.length (cA.lookup z) = true ∧ ∀ x ∈ rest, iR x = true)) :
  ∀ x ∈ rest, (∀ c ∈ (f x).cps.toList, (48 ≤ c ∧ c ≤ 57) ∨ c = 44 ∨ c = 45) ∧ (f x).length + 1 ≤ 4 * (jA x + 1) := fun x hx => by
 rcases h with ⟨_, rfl, a, b, rfl, h1, h2⟩ | ⟨_, rfl, _, hn⟩
 ·simp only [ay, br, df] at hx
  rcases hx with rfl | rfl
  ·exact ⟨aDK h1, aAD h1⟩
  ·exact ⟨aDK h2, aAD h2⟩
 ·exact ⟨fun c hc => .inl (P0 (hn x hx) c hc), by have := (G5 (hn x hx)).1; omega⟩
theorem aJa {d : D} (h : dZ d = true) : ∀ c ∈ (NG d).cps.toList, (48 ≤ c ∧ c ≤ 57) ∨ c = 44 ∨ c = 45 ∨ (97 ≤ c ∧ c ≤ 122) ∨ c = 32 := by
 obtain ⟨z, rest, rfl, hz, f, e, hf⟩ := sX h
 have hp := SQ hf
 rw [e]
 intro c hc
 rcases pI hc with hc | ⟨p, hp', hc⟩
 ·rw [vY] at hc
  exact .inr (.inr (.inr (.inr (bp.mp hc))))
 ·rcases ay.mp hp' with ep | hp'
  ·rw [ep] at hc
   exact .inr (.inr (.inr (.inl (hz.ch c hc))))
  ·obtain ⟨x, hx, rfl⟩ := cg.mp hp'
   rcases (hp x hx).1 c hc with h | h | h
   ·exact .inl h
   ·exact .inr (.inl h)
   ·exact .inr (.inr (.inl h))
theorem aAC {d : D} (h : dZ d = true) : (NG d).length ≤ 4 * jA d := by
 obtain ⟨z, rest, rfl, hz, f, e, hf⟩ := sX h
 have hp := SQ hf
 rw [e]
 refine bq (LX _ _) ?_
 have l1 : (" " : Str).length = 1 := dR (congrArg List.length vY)
 have s := xB (f := f) (c := 1) (xs := rest) fun x hx => (hp x hx).2
 rw [l1, bt, List.sum_cons]
 have z4 := hz.four
 have wz : jA (.str z) = z.length := rfl
 simp only [jA, wtDs] at *
 omega
theorem HL {d : D} (h : gY d = true) : ∃ xs, d = .tup xs ∧ xs.length = 4 ∧ ∀ x ∈ xs, iR x = true := by
 cases d <;> first | (simp [gY] at h; done) | skip
 rename_i xs
 simp only [gY, ak, beq_iff_eq, au] at h
 exact ⟨xs, rfl, h.1, h.2⟩
theorem aAK {d : D} (h : gY d = true) : ∀ c ∈ (pJ d).cps.toList, (48 ≤ c ∧ c ≤ 57) ∨ c = 32 := by
 obtain ⟨xs, rfl, _, hn⟩ := HL h
 intro c hc
 rcases pI (y := (" " : Str)) hc with hc | ⟨p, hp, hc⟩
 ·rw [vY] at hc
  exact .inr (bp.mp hc)
 ·obtain ⟨x, hx, rfl⟩ := cg.mp hp
  exact .inl (P0 (hn x hx) c hc)
theorem V1 {d : D} (h : gY d = true) : (pJ d).length ≤ 4 * jA d := by
 obtain ⟨xs, rfl, _, hn⟩ := HL h
 have := CA (f := sN) (y := (" " : Str)) (xs := xs) fun x hx => by
  have := (G5 (hn x hx)).1
  rw [dR (z := (" " : Str)) (congrArg List.length vY)]
  simp only [bg, cw]
  omega
 exact this
theorem BU {d : D} (h : fT d = true) : ∃ a f, d = .tup [.tup a, .tup f] ∧ (∀ x ∈ a, dZ x = true) ∧ ∀ x ∈ f, gY x = true := by
 unfold fT at h
 split at h
 ·rename_i a f
  simp only [ak, au] at h
  exact ⟨a, f, rfl, h.1, h.2⟩
 ·cases h
theorem aA2 {a : List D} (h : ∀ x ∈ a, dZ x = true) : ∀ c ∈ (pU a).cps.toList, (48 ≤ c ∧ c ≤ 57) ∨ c = 44 ∨ c = 45 ∨ (97 ≤ c ∧ c ≤ 122) ∨ c = 32 ∨ c = 59 := by
 intro c hc
 unfold pU at hc
 split at hc
 ·rw [y3] at hc
  exact .inr (.inr (.inl (bp.mp hc)))
 ·rcases pI hc with hc | ⟨p, hp, hc⟩
  ·rw [JU] at hc
   simp only [ay, br, df] at hc
   omega
  ·obtain ⟨x, hx, rfl⟩ := cg.mp hp
   have := aJa (h x hx) c hc
   omega
theorem WN {a : List D} (h : ∀ x ∈ a, dZ x = true) : (pU a).length ≤ 4 * wtDs a + 1 := by
 unfold pU
 split
 ·rw [dR (congrArg List.length y3)]
  simp
 ·have := CA (f := NG) (y := (" ; " : Str)) (xs := a) fun x hx => by
   have := aAC (h x hx)
   rw [dR (z := (" ; " : Str)) (congrArg List.length JU)]
   simp only [bg, cw]
   omega
  omega
theorem OA {a : List D} (h : ∀ x ∈ a, gY x = true) : (Txt.join " , " (a.map pJ)).length ≤ 4 * wtDs a :=
 CA fun x hx => by
  have := V1 (h x hx)
  rw [dR (z := (" , " : Str)) (congrArg List.length H8)]
  simp only [bg, cw]
  omega
theorem aD6 {a : List D} (h : ∀ x ∈ a, gY x = true) : ∀ c ∈ (Txt.join " , " (a.map pJ)).cps.toList, (48 ≤ c ∧ c ≤ 57) ∨ c = 32 ∨ c = 44 := by
 intro c hc
 rcases pI hc with hc | ⟨p, hp, hc⟩
 ·rw [H8] at hc
  simp only [ay, br, df] at hc
  omega
 ·obtain ⟨x, hx, rfl⟩ := cg.mp hp
  have := aAK (h x hx) c hc
  omega
theorem aAX {x y : Str} {c : Nat} (h : c ∈ (x ++ y).cps.toList) : c ∈ x.cps.toList ∨ c ∈ y.cps.toList := by
 have : c ∈ TL.tl (x ++ y) := h
 rw [TL.tl_append] at this
 exact bh.mp this
theorem HG {x y : Str} : (x ++ y).length = x.length + y.length := by
 rw [TL.len_tl, TL.tl_append, bw, ← TL.len_tl, ← TL.len_tl]
theorem aFS {d : D} (h : fT d = true) : ∀ c ∈ (q9 d).cps.toList, 32 ≤ c ∧ c < 127 := by
 obtain ⟨a, f, rfl, ha, hf⟩ := BU h
 intro c hc
 unfold q9 at hc
 simp only at hc
 split at hc
 ·have := aA2 ha c hc
  omega
 ·rcases aAX hc with hc | hc
  ·rcases aAX hc with hc | hc
   ·have := aA2 ha c hc
    omega
   ·rw [Q8] at hc
    simp only [ay, br, df] at hc
    omega
  ·have := aD6 hf c hc
   omega
theorem UM {d : D} (h : fT d = true) : (q9 d).length ≤ 4 * jA d := by
 obtain ⟨a, f, rfl, ha, hf⟩ := BU h
 have la := WN ha
 have lf := OA hf
 have l3 : (" ! " : Str).length = 3 := dR (congrArg List.length Q8)
 unfold q9
 simp only
 split
 ·simp only [jA, wtDs]
  omega
 ·rw [HG, HG]
  simp only [jA, wtDs]
  omega
theorem KO {d : D} (h : uO d = true) : ∃ ts, d = .tup ts ∧ ∀ x ∈ ts, fT x = true := by
 cases d <;> first | (simp [uO] at h; done) | skip
 rename_i ts
 simp only [uO, au] at h
 exact ⟨ts, rfl, h⟩
theorem aBL {d : D} (h : uO d = true) : (AK d).length ≤ 4 * jA d := by
 obtain ⟨ts, rfl, ht⟩ := KO h
 exact CA (f := q9) (y := ("\n" : Str)) (xs := ts) fun x hx => by
  have := UM (ht x hx)
  rw [dR (z := ("\n" : Str)) (congrArg List.length ES)]
  simp only [bg, cw]
  omega
theorem aEJ {d : D} (h : uO d = true) : ∀ c ∈ (AK d).cps.toList, c < 127 := by
 obtain ⟨ts, rfl, ht⟩ := KO h
 intro c hc
 rcases pI (y := ("\n" : Str)) hc with hc | ⟨p, hp, hc⟩
 ·rw [ES] at hc
  simp only [ay, br, df] at hc
  omega
 ·obtain ⟨x, hx, rfl⟩ := cg.mp hp
  exact (aFS (ht x hx) c hc).2
section
variable (k : Sx.bE)
variable {n l : Nat} {w w' w0 : W} {P : D → W → Prop} {PF : Fl → W → Prop} {d : D}
theorem N7 {c : Nat} : ∀ ys : List Str, (ys.map fun p => p.length + c).sum = (ys.map (·.length)).sum + ys.length * c
 | [] => by simp
 | y :: ys => by
  rw [bt, List.sum_cons, bt, List.sum_cons, N7 ys, bg, Nat.succ_mul]
  omega
theorem q7 {a : Str} {ys : List Str} (h : (ys.map fun p => p.length + a.length).sum ≤ 16777216) : T (joinM (.str a) [.lst (ys.map D.str)] w) P = P (.str (Txt.join a ys)) w := by
 rw [N7] at h
 have e : (D.items w (.lst (ys.map D.str))).bind FL = some ys := by simp only [D.items, Option.bind_some, OT]
 have : joinM (.str a) [.lst (ys.map D.str)] w = .ok (.str (Txt.join a ys)) w := by
  simp only [joinM, e, if_pos h]
 rw [this, bZ]
theorem aG2 {xs : List D} (h : ∀ x ∈ xs, iR x = true) : xs.map (fun x => D.str (sN x)) = (xs.map sN).map D.str := by rw [List.map_map]; rfl
theorem P9 {x : D} (h : iR x = true) : T (zT [x] w) P = P (.str (sN x)) w := by
 obtain ⟨i, rfl, h0, h1⟩ := QX h
 exact aEn (by omega)
theorem Y4 {xs : List D} {vs : List Nat} {g : MG} {e : ME} {σ : Sg} {PL : List D → W → Prop} {it : lO} (hx : it.xs = xs) (hok : it.ok w) (hn : ∀ x ∈ xs, iR x = true) (hg : ∀ x ∈ xs, T (g x (cQ σ vs) w) fun σ1 w1 => T (bA σ1 w1) fun b w2 => b = true ∧ T (e σ1 w2) fun z w3 => z = .str (sN x) ∧ w3 = w) (hP : PL ((xs.map sN).map D.str) w) : T (jD it vs g bA e it.xs σ w) PL := by
 refine fD xs (fun x => x) (fun x => .str (sN x)) (by rw [hx, List.map_id']) hok hg ?_
 rw [aG2 hn]
 exact hP
end
section
variable (k : Sx.bE)
variable {n l : Nat} {w w' w0 : W} {P : D → W → Prop} {PF : Fl → W → Prop} {d : D}
theorem DM {x : Str} : tyD (.str x) w = some "str" := rfl
theorem T5 {xs : List D} {c : Nat} (h : ∀ x ∈ xs, iR x = true) (hc : c ≤ 1) : ((xs.map sN).map fun p => p.length + c).sum ≤ 4 * wtDs xs := xB fun x hx => by
 have := (G5 (h x hx)).1
 omega
theorem qY {a b : Str} (h : a.length + b.length ≤ 16777216) : T (a9 (.str a) (.str b) w) P = P (.str (a ++ b)) w := by
 have : a9 (.str a) (.str b) w = .ok (.str (a ++ b)) w := by
  simp only [a9, if_pos (show a.length + b.length ≤ sizeLine by rw [sizeLine_eq]; omega)]
 rw [this, bZ]
theorem aCW {z : Str} {rest : List D} {f : D → Str} (hz : z.length ≤ 4) (h : ∀ x ∈ rest, (f x).length + 1 ≤ 4 * (jA x + 1)) : ((z :: rest.map f).map fun p => p.length + (" " : Str).length).sum ≤ 4 * wtDs rest + 5 := by
 have l1 : (" " : Str).length = 1 := dR (congrArg List.length vY)
 have := xB (c := 1) h
 rw [l1, bt, List.sum_cons]
 omega
theorem tZ : ∀ {xs : List D}, xs.length ≤ wtDs xs
 | [] => Nat.zero_le _
 | x :: xs => by
  have := tZ (xs := xs)
  rw [wtDs, bg]
  omega
theorem yW : ∀ {xs : List D} {x : D}, x ∈ xs → jA x + 1 ≤ wtDs xs
 | y :: xs, x, h => by
  rw [wtDs]
  rcases ay.mp h with rfl | h
  ·omega
  ·have := yW h
   omega
theorem HP {f : D → Str} {xs : List D} : xs.map (fun x => D.str (f x)) = (xs.map f).map D.str := by rw [List.map_map]; rfl
theorem aID {xs : List D} : DX (.tup xs) (.tup []) w = some (decide (xs = [])) := by
 rw [yJ]
 cases xs <;> simp
theorem aC5 {a : List D} (h : ∀ x ∈ a, dZ x = true) : ((a.map NG).map fun p => p.length + (" ; " : Str).length).sum ≤ 4 * wtDs a := by
 refine xB fun x hx => ?_
 have := aAC (h x hx)
 rw [dR (z := (" ; " : Str)) (congrArg List.length JU)]
 simp only [bg, cw]
 omega
theorem aBB {a : List D} (h : ∀ x ∈ a, gY x = true) : ((a.map pJ).map fun p => p.length + (" , " : Str).length).sum ≤ 4 * wtDs a := by
 refine xB fun x hx => ?_
 have := V1 (h x hx)
 rw [dR (z := (" , " : Str)) (congrArg List.length H8)]
 simp only [bg, cw]
 omega
theorem aCi {a : List D} (h : ∀ x ∈ a, fT x = true) : ((a.map q9).map fun p => p.length + ("\n" : Str).length).sum ≤ 4 * wtDs a := by
 refine xB fun x hx => ?_
 have := UM (h x hx)
 rw [dR (z := ("\n" : Str)) (congrArg List.length ES)]
 simp only [bg, cw]
 omega
theorem aFp {x : D} {vs : List Nat} {g : MG} {e : ME} {σ : Sg} (h : gY x = true) (hl : jA x ≤ 150000) {PP : D → W → Prop} (hg : ∀ y, iR y = true → T (g y (cQ σ vs) w) fun σ1 w1 => T (bA σ1 w1) fun b w2 => b = true ∧ T (e σ1 w2) fun z w3 => z = .str (sN y) ∧ w3 = w) (hP : PP (.str (pJ x)) w) :
  T (iterM x w) fun it w1 => it.xs.length ≤ sizeLine ∧ T (jD it vs g bA e it.xs σ w1) fun ys w2 => T (joinM (.str " ") [.lst ys] w2) PP := by
 obtain ⟨xs, rfl, l4, hn⟩ := HL h
 rw [nL]
 refine ⟨lI xs.length (by omega), ?_⟩
 refine Y4 (it := ⟨xs, always⟩) rfl trivial hn (fun y hy => hg y (hn y hy)) ?_
 have hw : wtDs xs ≤ 150000 := hl
 rw [q7 (bq (T5 (c := (" " : Str).length) hn (by rw [dR (congrArg List.length vY)]; simp)) (by omega))]
 exact hP
theorem aAk (h : dZ d = true) (hl : jA d ≤ 150000) : dY k [d] w = .ok (.str (NG d)) w := by
 obtain ⟨z, rest, rfl, hz, f, e, hf⟩ := sX h
 have hp := SQ hf
 have hr : wtDs rest ≤ 150000 := by simp only [jA, wtDs] at hl; omega
 have lr := tZ (xs := rest)
 have wl := fun x (hx : x ∈ rest) => yW hx
 rw [e]
 refine pO ?_
 unfold dY gK
 rw [dM, DT, a7]
 simp only [at0, nP, cV hz.ok BL, aj, bx, zY, af, ae, reduceCtorEq]
 have fin : ∀ PP : D → W → Prop, PP (.str (Txt.join " " (z :: rest.map f))) w → T (joinM (.str " ") [.lst (.str z :: (rest.map f).map D.str)] w) PP := fun PP hPP => by
  rw [show D.lst (.str z :: (rest.map f).map D.str) = .lst ((z :: rest.map f).map D.str) from rfl, q7 (bq (aCW hz.four fun x hx => (hp x hx).2) (by omega))]
  exact hPP
 have cut : fO (.tup (.str z :: rest)) (some 1) none w = .ok (.tup rest) w := by
  have := aAv (w := w) (xs := D.str z :: rest)
  simpa using this
 rcases hf with ⟨rfl, rfl, hab⟩ | ⟨hz2, rfl, _, hn⟩
 ·simp only [decide_true, cut, bZ, DM, nL, zY, af, ae, reduceCtorEq]
  refine ⟨lI _ (by omega), ?_⟩
  have hlot : ∀ x ∈ rest, ∃ c, iX c x = true := fun x hx => by
   obtain ⟨a, b, rfl, h1, h2⟩ := hab
   simp only [ay, br, df] at hx
   rcases hx with rfl | rfl
   ·exact ⟨1, h1⟩
   ·exact ⟨0, h2⟩
  refine fD (it := ⟨rest, always⟩) rest (fun x => x) (fun x => .str (DH x)) (by simp) trivial (fun x hx => ?_) ?_
  ·obtain ⟨c, hc⟩ := hlot x hx
   have := wl x hx
   obtain ⟨xs, rfl, _, hn, _⟩ := DZ hc
   have hw : wtDs xs ≤ 150000 := by simp only [jA] at this; omega
   have lx := tZ (xs := xs)
   simp only [cQ, LF, aID, aj, bx, zY, af, ae, reduceCtorEq]
   by_cases cx : xs = []
   ·subst cx
    simp only [decide_true, cb, DH, af, zY, af, ae, reduceCtorEq]
   ·simp only [de cx, ck, DM, nL, zY, af, ae, reduceCtorEq]
    refine ⟨lI _ (by omega), ?_⟩
    refine Y4 (it := ⟨xs, always⟩) rfl trivial hn (fun y hy => ?_) ?_
    ·simp only [cQ, P9 (hn y hy), zY, af, ae, reduceCtorEq]
    ·rw [q7 (bq (T5 (c := ("," : Str).length) hn (by rw [dR (congrArg List.length JZ)]; simp)) (by omega))]
     try simp only [DH, if_neg cx]
     first | exact ⟨rfl, rfl⟩ | exact ⟨trivial, trivial⟩ | trivial
  ·rw [HP]
   try simp only [at0, DM, zY, af, ae, reduceCtorEq]
   exact ⟨lI _ (by simp; omega), fin _ ⟨rfl, rfl⟩⟩
 ·simp only [de hz2, cut, bZ, DM, nL, zY, af, ae, reduceCtorEq]
  refine ⟨lI _ (by omega), ?_⟩
  refine Y4 (it := ⟨rest, always⟩) rfl trivial hn (fun y hy => ?_) ?_
  ·simp only [cQ, P9 (hn y hy), zY, af, ae, reduceCtorEq]
  ·simp only [at0, DM, zY, af, ae, reduceCtorEq]
   exact ⟨lI _ (by simp; omega), fin _ ⟨rfl, rfl⟩⟩
theorem VO (h : fT d = true) (hl : jA d ≤ 150000) : eO k [d] w = .ok (.str (q9 d)) w := by
 obtain ⟨a, f, rfl, ha, hf⟩ := BU h
 simp only [jA, wtDs] at hl
 have la := tZ (xs := a)
 have lf := tZ (xs := f)
 have sa := aC5 ha
 have sf := aBB hf
 have xa := WN ha
 have xf := OA hf
 have a1 : ∀ P : D → W → Prop, T (aY (.tup [D.tup a, .tup f]) (.int 1) w) P = P (.tup f) w := fun P => by rw [show aY (.tup [D.tup a, .tup f]) (.int 1) w = .ok (.tup f) w from rfl, bZ]
 have aa : ∀ PP : D → W → Prop, PP (.str (pU a)) w → T (sQ (aV (aE oX (aE aY (aB 0) (eC (.int 0))) (bH aD))) (bB "str" joinM (eC (.str (" ; " : Str))) (aA (a8 (cK (aE aY (aB 0) (eC (.int 0)))) [2] (aQ 2) bA (aH (dY k) 1 aM (aA (aB 2) aD))) aD)) (eC (.str ("-" : Str))) [some (.tup [.tup a, .tup f]), none, none, none, none] w) PP := fun PP hPP => by
  simp only [at0, LF, aID, aj, bx, zY, af, ae, reduceCtorEq]
  by_cases ca : a = []
  ·subst ca
   simp only [decide_true, cb, zY, af, ae, reduceCtorEq]
   exact hPP
  ·simp only [de ca, ck, DM, at0, nL, zY, af, ae, reduceCtorEq]
   refine ⟨lI _ (by omega), ?_⟩
   refine fD (it := ⟨a, always⟩) a (fun x => x) (fun x => .str (NG x)) (by simp) trivial (fun x hx => ?_) ?_
   ·have := yW hx
    simp only [cQ, aAk k (ha x hx) (by omega), zY, af, ae, reduceCtorEq]
   rw [HP, q7 (by omega)]
   have : pU a = Txt.join " ; " (a.map NG) := by unfold pU; rw [if_neg ca]
   rw [← this]
   exact hPP
 refine pO ?_
 unfold eO fX
 rw [dM, A6, a7]
 rw [U8]
 refine aa _ ?_
 simp only [zY, af, ae, reduceCtorEq]
 rw [a7]
 simp only [a1, nP, aID, aj, bx, zY, af, ae, reduceCtorEq]
 by_cases cf : f = []
 ·subst cf
  (simp only [decide_true, q9, af, zY, af, ae, reduceCtorEq]) <;> (first | exact ⟨rfl, rfl⟩ | exact trivial | rfl)
 ·simp only [de cf, DM, a1, nL, zY, af, ae, reduceCtorEq]
  have l3 : (" ! " : Str).length = 3 := dR (congrArg List.length Q8)
  rw [qY (by omega)]
  refine ⟨_, rfl, ?_⟩
  rw [nL]
  refine ⟨lI f.length (by omega), ?_⟩
  refine fD (it := ⟨f, always⟩) f (fun x => x) (fun x => .str (pJ x)) (by simp) trivial (fun x hx => ?_) ?_
  ·have := yW hx
   simp only [cQ, DM, zY, af, ae, reduceCtorEq]
   refine aFp (hf x hx) (by omega) (fun y hy => ?_) ?_
   ·simp only [cQ, P9 hy, zY, af, ae, reduceCtorEq]
   ·first | exact ⟨rfl, rfl⟩ | rfl
  rw [HP, q7 (by omega)]
  rw [qY (by rw [HG]; omega)]
  exact ⟨by simp only [q9, if_neg cf], rfl⟩
theorem QJ (h : uO d = true) (hl : jA d ≤ 150000) : cL k [d] w = .ok (.str (AK d)) w := by
 obtain ⟨ts, rfl, ht⟩ := KO h
 have hl : wtDs ts ≤ 150000 := hl
 have la := tZ (xs := ts)
 refine pO ?_
 unfold cL fL
 rw [dM, AG]
 simp only [DM, nL, zY, af, ae, reduceCtorEq]
 refine ⟨lI _ (by omega), ?_⟩
 refine fD (it := ⟨ts, always⟩) ts (fun x => x) (fun x => .str (q9 x)) (by simp) trivial (fun x hx => ?_) ?_
 ·have := yW hx
  simp only [cQ, VO k (ht x hx) (by omega), zY, af, ae, reduceCtorEq]
 rw [HP, q7 (bq (aCi ht) (by omega))]
 exact ⟨rfl, rfl⟩
end
theorem HH {S : List Nat} : ∀ (l : List Nat) (k : Nat) (acc : List Nat) (p : List Nat) (c : Nat), p ∈ TL.spl S k acc l → c ∈ p → c ∈ acc ∨ c ∈ l
 | [], k, acc, p, c, hp, hc => by
  rw [TL.spl_nil, bp] at hp
  exact .inl (hp ▸ hc)
 | a :: r, k + 1, acc, p, c, hp, hc => by
  have hp : p ∈ TL.spl S k acc r := hp
  rcases HH r k acc p c hp hc with h | h
  ·exact .inl h
  ·exact .inr (bc _ h)
 | a :: r, 0, acc, p, c, hp, hc => by
  by_cases h : TL.pre S (a :: r) = true
  ·rw [TL.spl_hit h] at hp
   rcases ay.mp hp with rfl | hp
   ·exact .inl hc
   ·rcases HH r _ [] p c hp hc with h | h
    ·cases h
    ·exact .inr (bc _ h)
  ·rw [TL.spl_miss (by simpa using h)] at hp
   rcases HH r 0 _ p c hp hc with h | h
   ·rcases bh.mp h with h | h
    ·exact .inl h
    ·rw [bp.mp h]
     exact .inr (aw ..)
   ·exact .inr (bc _ h)
theorem BW {S : List Nat} : ∀ (l : List Nat) (k : Nat) (acc : List Nat), ((TL.spl S k acc l).map List.length).sum ≤ acc.length + l.length ∧ (TL.spl S k acc l).length ≤ l.length + 1 ∧ TL.spl S k acc l ≠ []
 | [], k, acc => by
  rw [TL.spl_nil]
  simp
 | a :: r, k + 1, acc => by
  have h : TL.spl S (k + 1) acc (a :: r) = TL.spl S k acc r := rfl
  obtain ⟨h1, h2, h3⟩ := BW (S := S) r k acc
  rw [h, bg]
  exact ⟨by omega, by omega, h3⟩
 | a :: r, 0, acc => by
  by_cases h : TL.pre S (a :: r) = true
  ·rw [TL.spl_hit h]
   obtain ⟨h1, h2, h3⟩ := BW (S := S) r (S.length - 1) []
   simp only [bt, List.sum_cons, bg, cw] at *
   exact ⟨by omega, by omega, by simp⟩
  ·rw [TL.spl_miss (by simpa using h)]
   obtain ⟨h1, h2, h3⟩ := BW (S := S) r 0 (acc ++ [a])
   rw [bw, dj] at h1
   rw [bg]
   exact ⟨by omega, by omega, h3⟩
structure Sep (y : Str) : Prop where
 ne : TL.tl y ≠ []
 plain : y.cps.all (· < 256) = true
theorem Sep.some {y : Str} (h : Sep y) : (y.length == 0) = false := by
 have := List.length_pos_iff.mpr h.ne
 rw [← TL.len_tl] at this
 simp
 omega
structure Parts (x : Str) (ps : List Str) : Prop where
 mem : ∀ p ∈ ps, ∀ c ∈ p.cps.toList, c ∈ x.cps.toList
 sum : (ps.map (·.length)).sum ≤ x.length
 many : ps.length ≤ x.length + 1
 ne : ps ≠ []
theorem bN {x y : Str} (h : Sep y) : Parts x (Txt.split x y) := by
 have e := TL.split_spl x y h.ne (TL.kind_ok h.plain)
 obtain ⟨h1, h2, h3⟩ := BW (S := TL.tl y) (TL.tl x) 0 []
 rw [← e] at h1 h2 h3
 rw [cw, ← TL.len_tl] at h1
 rw [av, ← TL.len_tl] at h2
 refine ⟨fun p hp c hc => ?_, ?_, h2, fun z => h3 (by rw [z]; rfl)⟩
 ·have hp : TL.tl p ∈ TL.spl (TL.tl y) 0 [] (TL.tl x) := by
   rw [← e]
   exact List.mem_map_of_mem hp
  rcases HH _ _ _ _ c hp hc with h | h
  ·cases h
  ·exact h
 ·have : (Txt.split x y).map (·.length) = ((Txt.split x y).map TL.tl).map List.length := by
   rw [List.map_map]
   exact List.map_congr_left fun p _ => TL.len_tl p
  rw [this]
  omega
theorem aAI : ∀ {ps : List Str} {p : Str}, p ∈ ps → p.length ≤ (ps.map (·.length)).sum
 | q :: ps, p, h => by
  rw [bt, List.sum_cons]
  rcases ay.mp h with rfl | h
  ·omega
  ·have := aAI h
   omega
theorem Parts.le {x : Str} {ps : List Str} (h : Parts x ps) {p : Str} (hp : p ∈ ps) : p.length ≤ x.length := bq (aAI hp) h.sum
theorem aDv {x : Str} : PyData.strOk x = true ↔ ∀ c ∈ x.cps.toList, c < 0x110000 := by
 unfold PyData.strOk
 rw [Array.all_eq_true_iff_forall_mem]
 constructor
 ·intro h c hc
  have := h c (by simpa using hc)
  simpa using this
 ·intro h c hc
  have := h c (by simpa using hc)
  simpa using this
theorem wF {x p : Str} (h : ∀ c ∈ p.cps.toList, c ∈ x.cps.toList) (hx : PyData.strOk x = true) : PyData.strOk p = true := aDv.mpr fun c hc => aDv.mp hx c (h c hc)
theorem Parts.ok {x : Str} {ps : List Str} (h : Parts x ps) (hx : PyData.strOk x = true) {p : Str} (hp : p ∈ ps) : PyData.strOk p = true := wF (h.mem p hp) hx
theorem gG : Sep " " := ⟨by decide +kernel, by decide +kernel⟩
theorem pK : Sep "\n" := ⟨by decide +kernel, by decide +kernel⟩
theorem yH : Sep "," := ⟨by decide +kernel, by decide +kernel⟩
theorem uQ : Sep " ; " := ⟨by decide +kernel, by decide +kernel⟩
theorem yT : Sep " , " := ⟨by decide +kernel, by decide +kernel⟩
theorem tX : Sep " ! " := ⟨by decide +kernel, by decide +kernel⟩
theorem aAS {S : List Nat} : ∀ (l : List Nat) (acc p q : List Nat), TL.par S acc l = some (p, q) → (∀ c ∈ p, c ∈ acc ∨ c ∈ l) ∧ (∀ c ∈ q, c ∈ l) ∧ p.length + q.length ≤ acc.length + l.length
 | [], acc, p, q, h => by cases h
 | a :: r, acc, p, q, h => by
  by_cases c : TL.pre S (a :: r) = true
  ·rw [TL.par_hit c] at h
   cases h
   refine ⟨fun c hc => .inl hc, fun c hc => List.mem_of_mem_drop hc, ?_⟩
   rw [dq]
   omega
  ·rw [TL.par_miss (by simpa using c)] at h
   obtain ⟨h1, h2, h3⟩ := aAS r _ p q h
   refine ⟨fun c hc => ?_, fun c hc => bc _ (h2 c hc), ?_⟩
   ·rcases h1 c hc with h | h
    ·rcases bh.mp h with h | h
     ·exact .inl h
     ·rw [bp.mp h]
      exact .inr (aw ..)
    ·exact .inr (bc _ h)
   ·rw [bw, dj] at h3
    rw [bg]
    omega
structure aMS (x : Str) (p : Str × Str × Str) : Prop where
 m1 : ∀ c ∈ p.1.cps.toList, c ∈ x.cps.toList
 m3 : ∀ c ∈ p.2.2.cps.toList, c ∈ x.cps.toList
 len : p.1.length ≤ x.length ∧ p.2.2.length ≤ x.length
theorem mD {x y : Str} (h : Sep y) : aMS x (Txt.partition x y) ∧ ((Txt.partition x y).2.1 = y ∨ (Txt.partition x y).2.1 = Str.empty) := by
 rw [TL.partition_par x y h.ne]
 split
 ·rename_i a b e
  obtain ⟨h1, h2, h3⟩ := aAS _ _ _ _ e
  rw [cw, ← TL.len_tl] at h3
  refine ⟨⟨fun c hc => ?_, fun c hc => h2 c hc, ?_, ?_⟩, .inl rfl⟩
  ·rcases h1 c hc with h | h
   ·cases h
   ·exact h
  ·show (⟨a.toArray⟩ : Str).length ≤ _
   rw [TL.len_tl, TL.tl_mk]
   omega
  ·show (⟨b.toArray⟩ : Str).length ≤ _
   rw [TL.len_tl, TL.tl_mk]
   omega
 ·refine ⟨⟨fun c hc => hc, fun c hc => ?_, az _, Nat.zero_le _⟩, .inr rfl⟩
  cases hc
def gX {α : Type} : List (Option α) → Option (List α)
 | [] => some []
 | none :: _ => none
 | some a :: r => (gX r).map (a :: ·)
theorem gA {α : Type} : ∀ {os : List (Option α)} {xs : List α}, gX os = some xs → os = xs.map some
 | [], xs, h => by cases h; rfl
 | none :: r, xs, h => by cases h
 | some a :: r, xs, h => by
  rw [gX, aq] at h
  obtain ⟨ys, e, rfl⟩ := h
  rw [gA e]
  rfl
theorem oS {α : Type} : ∀ {os : List (Option α)}, gX os = none ↔ os.any (·.isNone) = true
 | [] => by simp [gX]
 | none :: r => by simp [gX]
 | some a :: r => by
  rw [gX, Option.map_eq_none_iff, oS]
  simp
def nQ : Option Int → D
 | none => .non
 | some i => .int i
def gJ : Option (List Int) → D
 | none => .non
 | some ns => .tup (ns.map D.int)
def f7 (ws : List Str) : Option (List Int) := gX (ws.map iT)
def jW (x : Str) : Option (List Int) := if x = ("-" : Str) then some [] else f7 (Txt.split x ",")
def RS : List Str → D
 | [] => .tup []
 | z :: ws => if z = ("tear" : Str) then .tup (.str z :: ws.map fun y => gJ (jW y)) else (match f7 ws with
  | none => .tup []
  | some ns => .tup (.str z :: ns.map D.int))
def AR (x : Str) : D := RS (Txt.split x " ")
def gP (x : Str) : List D := (Txt.split x " , ").map fun y => gJ (f7 (Txt.split y " "))
def jY (x : Str) : List D := if x = ("-" : Str) then [] else (Txt.split x " ; ").map AR
def JH (x : Str) : D := .tup [.tup (jY (Txt.partition x " ! ").1), .tup (if (Txt.partition x " ! ").2.1 = ("" : Str) then [] else gP (Txt.partition x " ! ").2.2)]
def cY (x : Str) : D := if fT (JH x) = true then JH x else .non
def L6 : Option Int → PyData
 | none => .none
 | some i => .int i
theorem VZ (f : Nat → Option PyData) : ∀ os : List (Option Int), D.pysR f (os.map nQ) = some (os.map L6)
 | [] => rfl
 | o :: os => by
  have := VZ f os
  cases o <;> simp [D.pysR, D.e8, nQ, L6, this]
theorem UO : ∀ os : List (Option Int), PyData.canLayAll0 (os.map L6) = true ∧ PyData.depthAll (os.map L6) ≤ 1
 | [] => ⟨rfl, by simp [PyData.depthAll]⟩
 | o :: os => by
  obtain ⟨h1, h2⟩ := UO os
  cases o
  ·exact ⟨by simp [PyData.canLayAll0, PyData.canLay0, L6, h1], by simp only [bt, L6, PyData.depthAll, PyData.depth]; omega⟩
  ·exact ⟨by simp [PyData.canLayAll0, PyData.canLay0, L6, h1], by simp only [bt, L6, PyData.depthAll, PyData.depth]; omega⟩
section
variable (k : Sx.bE)
variable {n l : Nat} {w w' w0 : W} {P : D → W → Prop} {PF : Fl → W → Prop} {d : D}
theorem aBA {os : List (Option Int)} : inD .non (.tup (os.map nQ)) w = some (os.any (·.isNone)) := by
 show sJ .non (.tup (os.map nQ)) w = _
 unfold sJ
 have e1 : D.py w .non = some .none := rfl
 have e2 : D.py w (.tup (os.map nQ)) = some (.tuple (os.map L6)) := by
  unfold D.py D.e8
  rw [VZ]
  rfl
 have l1 : SeqAt.shaped .none = true := by simp [SeqAt.shaped, PyData.canLay0, PyData.depth]
 have l2 : SeqAt.shaped (.tuple (os.map L6)) = true := by
  obtain ⟨h1, h2⟩ := UO os
  unfold SeqAt.shaped
  simp [PyData.canLay0, PyData.depth, h1]
  omega
 rw [e1, e2]
 simp only [l1, l2, and_self, af]
 congr 1
 rw [List.any_map]
 congr 1
 funext o
 cases o <;> simp [L6, PyData.eqv]
theorem aEC {m : ME} {σ : Sg} {PI : lO → W → Prop} : T (aCe m σ w) PI = T (m σ w) fun d w1 => T (aCv d w1) PI := by unfold aCe; rw [bQ]
theorem aDu {x : Str} {PI : lO → W → Prop} : T (aCv (.str x) w) PI = PI ⟨kN x, always⟩ w := by unfold T; rfl
theorem aDA {x : Str} (h : x.length ≤ 16000000) : T (cZ [.str x] w) P = P (.int x.length) w := by
 have e : JM (.str x) w = some x.length := by
  unfold JM
  simp only []
  rw [if_pos (by rw [sizeLine_eq]; omega)]
 rw [aBk, e]
 simp
theorem fJ {a b : Str} (hb : Sep b) (ha : a.length ≤ 16000000) : T (splitM (.str a) [.str b] w) P = P (.lst ((Txt.split a b).map D.str)) w := by
 have : splitM (.str a) [.str b] w = .ok (.lst ((Txt.split a b).map D.str)) w := by
  simp only [splitM]
  rw [if_pos ⟨hb.some, by rw [sizeLine_eq]; omega⟩]
 rw [this, bZ]
theorem aAQ {a b : Str} (hb : Sep b) (ha : a.length ≤ 16000000) : T (FD (.str a) [.str b] w) P = P (.tup [.str (Txt.partition a b).1, .str (Txt.partition a b).2.1, .str (Txt.partition a b).2.2]) w := by
 have : FD (.str a) [.str b] w = .ok (.tup [.str (Txt.partition a b).1, .str (Txt.partition a b).2.1, .str (Txt.partition a b).2.2]) w := by
  simp only [FD]
  rw [if_pos ⟨hb.some, by rw [sizeLine_eq]; omega⟩]
 rw [this, bZ]
theorem WK {xs : List D} {PB : Bool → W → Prop} : T (gE (.tup xs) w) PB = PB (!xs.isEmpty) w := by unfold T; rfl
theorem nB {x : Str} (hx : PyData.strOk x = true) (hl : x.length ≤ 1000000) : j7 k [.str x] w = .ok (nQ (iT x)) w := by
 refine pO ?_
 unfold j7 m8
 rw [dM, QK, a7]
 have ls : ∀ (PP : D → W → Prop) (w : W), T (cZ [.str x] w) PP = PP (.int x.length) w := fun PP w => aDA (by omega)
 by_cases c1 : 1 ≤ x.length ∧ x.length ≤ 3
 case neg =>
  have en : iT x = none := by
   unfold iT
   rw [if_neg fun h => c1 ⟨h.1, h.2.1⟩]
  rw [en]
  by_cases c2 : 1 ≤ x.length
  ·have d1 : decide ((1 : Int) ≤ (x.length : Nat)) = true := by rw [ai]; omega
   have d2 : decide ((x.length : Nat) ≤ (3 : Int)) = false := by rw [decide_eq_false_iff_not]; omega
   simp only [ls, d1, d2, cb, ck, zY, af, ae, reduceCtorEq]
   (first | exact ⟨rfl, rfl⟩ | rfl | exact trivial)
  ·have d1 : decide ((1 : Int) ≤ (x.length : Nat)) = false := by rw [decide_eq_false_iff_not]; omega
   simp only [ls, d1, cb, ck, zY, af, ae, reduceCtorEq]
   (first | exact ⟨rfl, rfl⟩ | rfl | exact trivial)
 have d1 : decide ((1 : Int) ≤ (x.length : Nat)) = true := by rw [ai]; omega
 have d2 : decide ((x.length : Nat) ≤ (3 : Int)) = true := by rw [ai]; omega
 have ld : x.cps.toList.length ≤ 3 := by rw [← TL.len_tl]; exact c1.2
 simp only [ls, aEC, aDu, d1, d2, cb, zY, af, ae, reduceCtorEq]
 refine ⟨lI _ (by rw [kN, av]; omega), ?_⟩
 refine fD (it := ⟨kN x, always⟩) x.cps.toList (fun c => D.str ⟨#[c]⟩) (fun c => D.bl (u5 c)) rfl trivial (fun c hc => ?_) ?_
 ·simp only [cQ, aIN, aAA, zY, af, ae, reduceCtorEq]
 rw [EV x.cps.toList u5]
 cases hd : x.cps.toList.all u5 with
 | false =>
  have en : iT x = none := by
   unfold iT
   rw [if_neg fun h => by rw [hd] at h; exact absurd h.2.2 (by simp)]
  rw [en]
  simp only [ck, zY, af, ae, reduceCtorEq]
  (first | exact ⟨rfl, rfl⟩ | rfl | exact trivial)
 | true =>
 obtain ⟨i, ei, i0, i1⟩ := JK c1.1 c1.2 hd
 have nk := aFx i0 i1
 have en : iT x = if wB i = x then some i else none := by
  unfold iT
  rw [if_pos ⟨c1.1, c1.2, hd⟩, ei]
 have ti : ∀ (PP : D → W → Prop) (w : W), T (tM [.str x] w) PP = PP (.int i) w := fun PP w => by
  have : tM [.str x] w = .ok (.int i) w := by
   simp only [tM, ei, if_pos (show x.length ≤ 640 by omega)]
  rw [this, bZ]
 have sk : PyData.strOk (wB i) = true := aD9 fun c hc => by have := nk.aBY c hc; omega
 have se : ∀ w, DX (.str (wB i)) (.str x) w = some (decide (wB i = x)) := fun w => cV sk hx
 have ts : ∀ (PP : D → W → Prop) (w : W), T (zT [.int i] w) PP = PP (.str (wB i)) w := fun PP w => aEn (by omega)
 simp only [cb, zY, af, ae, reduceCtorEq]
 try rw [a7]
 simp only [ti, ts, aGd (se _), zY, af, ae, reduceCtorEq]
 rw [en]
 by_cases c : wB i = x
 ·simp only [decide_eq_true c, if_pos c, ti, nQ, zY, af, ae, reduceCtorEq]
 ·simp only [de c, if_neg c, nQ, zY, af, ae, reduceCtorEq]
theorem iK {ws : List Str} (hw : ∀ x ∈ ws, PyData.strOk x = true ∧ x.length ≤ 1000000) (hl : ws.length ≤ 1000000) : cG k [.lst (ws.map D.str)] w = .ok (gJ (f7 ws)) w := by
 refine pO ?_
 unfold cG kU
 rw [dM, MX, a7]
 simp only [vM, zY, af, ae, reduceCtorEq]
 refine ⟨lI _ (by rw [av]; omega), ?_⟩
 refine fD (it := ⟨ws.map D.str, always⟩) ws D.str (fun x => nQ (iT x)) rfl trivial (fun x hx => ?_) ?_
 ·simp only [cQ, nB k (hw x hx).1 (hw x hx).2, zY, af, ae, reduceCtorEq]
 have em : ws.map (fun x => nQ (iT x)) = (ws.map iT).map nQ := by rw [List.map_map]; rfl
 rw [em]
 simp only [vT, aMP, aBA, aj, bx, zY, af, ae, reduceCtorEq]
 unfold f7
 cases h : gX (ws.map iT) with
 | none =>
  rw [oS.mp h]
  simp only [gJ, zY, af, ae, reduceCtorEq]
 | some ns =>
  have : ((ws.map iT).any (·.isNone)) = false := by
   cases hb : (ws.map iT).any (·.isNone) with
   | false => rfl
   | true => rw [oS.mpr hb] at h; cases h
  rw [this, gA h]
  simp only [gJ, List.map_map, Function.comp_def, nQ, zY, af, ae, reduceCtorEq]
theorem zI {x y : Str} (hy : Sep y) (hx : PyData.strOk x = true) (hl : x.length ≤ 900000) : cG k [.lst ((Txt.split x y).map D.str)] w = .ok (gJ (f7 (Txt.split x y))) w := by
 have p := bN (x := x) hy
 have := p.many
 exact iK k (fun z hz => ⟨p.ok hx hz, by have := p.le hz; omega⟩) (by omega)
theorem HE : PyData.strOk ("-" : Str) = true := by decide +kernel
theorem KL : PyData.strOk ("" : Str) = true := by decide +kernel
theorem nG {x : Str} (hx : PyData.strOk x = true) (hl : x.length ≤ 900000) : j2 k [.str x] w = .ok (gJ (jW x)) w := by
 refine pO ?_
 unfold j2 m5
 rw [dM, Q6]
 simp only [nP, cV hx HE, aj, bx, zY, af, ae, reduceCtorEq]
 unfold jW
 by_cases c : x = ("-" : Str)
 ·simp only [decide_eq_true c, if_pos c, gJ, dz, zY, af, ae, reduceCtorEq]
 ·simp only [de c, if_neg c, DM, fJ yH (show x.length ≤ 16000000 by omega), zI k yH hx hl, zY, af, ae, reduceCtorEq]
theorem aGZ {m : Nat} {r : TZ} {xs : List D} {σ : Sg} {PS : Sg → W → Prop} (h1 : m ≤ xs.length) (h2 : xs.length ≤ 1000000) : T (DN m r (.lst xs) σ w) PS = T (r (xs.take m ++ [.lst (xs.drop m)]) σ w) PS := by
 unfold DN
 simp only []
 rw [if_pos ⟨h1, lI _ h2⟩]
theorem tQ {x : Str} (hx : PyData.strOk x = true) (hl : x.length ≤ 900000) : lK k [.str x] w = .ok (AR x) w := by
 have p := bN (x := x) gG
 have pm := p.many
 refine pO ?_
 unfold lK sV
 rw [dM, ZC, a7]
 simp only [DM, fJ gG (show x.length ≤ 16000000 by omega), zY, af, ae, reduceCtorEq]
 unfold AR
 obtain ⟨z, ws, e⟩ : ∃ z ws, Txt.split x " " = z :: ws := di p.ne
 have hz : PyData.strOk z = true := p.ok hx (by rw [e]; exact aw ..)
 have hws : ∀ y ∈ ws, PyData.strOk y = true ∧ y.length ≤ 900000 := fun y hy => by
  have m : y ∈ Txt.split x " " := by rw [e]; exact bc _ hy
  exact ⟨p.ok hx m, by have := p.le m; omega⟩
 rw [e, bg] at pm
 rw [e, bt, aGZ (by simp) (by rw [bg, av]; omega)]
 simp only [List.take_succ_cons, List.take_zero, List.drop_succ_cons, dk, bf, bz, zY, af, ae, reduceCtorEq]
 rw [a7]
 simp only [nP, cV hz BL, aj, bx, zY, af, ae, reduceCtorEq]
 have nn : ∀ w : W, cG k [.lst (ws.map D.str)] w = .ok (gJ (f7 ws)) w := fun w => iK k (fun y hy => ⟨(hws y hy).1, by have := (hws y hy).2; omega⟩) (by omega)
 unfold RS
 by_cases c : z = ("tear" : Str)
 ·simp only [decide_eq_true c, if_pos c, vM, zY, af, ae, reduceCtorEq]
  refine ⟨lI _ (by rw [av]; omega), ?_⟩
  refine fD (it := ⟨ws.map D.str, always⟩) ws D.str (fun y => gJ (jW y)) rfl trivial (fun y hy => ?_) ?_
  ·simp only [cQ, nG k (hws y hy).1 (hws y hy).2, zY, af, ae, reduceCtorEq]
  try simp only [vT, DR, zY, af, ae, reduceCtorEq]
  exact ⟨lI _ (by rw [av]; omega), rfl⟩
 ·simp only [de c, if_neg c, nn, VC, zY, af, ae, reduceCtorEq]
  cases h : f7 ws with
  | none =>
   simp only [gJ, D.isNon, cb, zY, af, ae, reduceCtorEq]
  | some ns =>
   have hn : ws.length = ns.length := by
    have := gA h
    have := congrArg List.length this
    rw [av, av] at this
    exact this
   simp only [gJ, D.isNon, ck, nn, h, zY, af, ae, reduceCtorEq]
   cases ns with
   | nil =>
    simp only [dz, zY, af, ae, reduceCtorEq]
    simp [WK, DR]
   | cons i r =>
    simp only [bt, zY, af, ae, reduceCtorEq]
    simp [WK]
    try exact lI _ (by simp only [bg] at hn; omega)
end
section
variable (k : Sx.bE)
variable {n l : Nat} {w w' w0 : W} {P : D → W → Prop} {PF : Fl → W → Prop} {d : D}
theorem aAU {o : Option (List Int)} {m : Nat} (h : ∀ ns, o = some ns → ns.length ≤ 70000 ∧ ∀ i ∈ ns, i ≤ 999) : oB (m + 2) (gJ o) = true := by
 cases o with
 | none => rfl
 | some ns =>
  have := h ns rfl
  simp only [gJ, oB, ak, au, ai, av]
  refine ⟨fun y hy => ?_, this.1⟩
  obtain ⟨i, hi, rfl⟩ := cg.mp hy
  have := this.2 i hi
  simp only [oB, ai]
  omega
theorem j4 {ws : List Str} {ns : List Int} (h : f7 ws = some ns) : ns.length = ws.length := by
 have := congrArg List.length (gA h)
 rw [av, av] at this
 exact this.symm
theorem ID {ws : List Str} {ns : List Int} (h : f7 ws = some ns) : ∀ i ∈ ns, i ≤ 999 := fun i hi => by
 have m : some i ∈ ws.map iT := by
  rw [gA h]
  exact List.mem_map_of_mem hi
 obtain ⟨x, _, e⟩ := cg.mp m
 exact (aAy e).2
theorem K8 {x : Str} {ns : List Int} (h : jW x = some ns) : ns.length ≤ x.length + 1 ∧ ∀ i ∈ ns, i ≤ 999 := by
 unfold jW at h
 split at h
 ·cases h
  exact ⟨Nat.zero_le _, by simp⟩
 ·rw [j4 h]
  exact ⟨(bN (x := x) yH).many, ID h⟩
theorem aH4 {x : Str} (hx : PyData.strOk x = true) (hl : x.length ≤ 60000) : oB 4 (AR x) = true := by
 have p := bN (x := x) gG
 have pm := p.many
 unfold AR
 obtain ⟨z, ws, e⟩ : ∃ z ws, Txt.split x " " = z :: ws := di p.ne
 have hz : PyData.strOk z = true := p.ok hx (by rw [e]; exact aw ..)
 rw [e, bg] at pm
 rw [e]
 unfold RS
 simp only
 have ze : oB 3 (.str z) = true := hz
 split
 ·simp only [oB, ak, au, ai, bg, av]
  refine ⟨fun y hy => ?_, by omega⟩
  rcases ay.mp hy with rfl | hy
  ·exact ze
  ·obtain ⟨u, hu, rfl⟩ := cg.mp hy
   have lu := p.le (p := u) (by rw [e]; exact bc _ hu)
   exact aAU (m := 1) fun ns hn => ⟨by have := (K8 hn).1; omega, (K8 hn).2⟩
 ·split
  ·rfl
  ·rename_i ns hn
   have := j4 hn
   simp only [oB, ak, au, ai, bg, av]
   refine ⟨fun y hy => ?_, by omega⟩
   rcases ay.mp hy with rfl | hy
   ·exact ze
   ·obtain ⟨u, hu, rfl⟩ := cg.mp hy
    have := ID hn u hu
    simp only [oB, ai]
    omega
theorem aHc {x : Str} (hx : PyData.strOk x = true) (hl : x.length ≤ 60000) : oB 5 (.tup (jY x)) = true := by
 unfold jY
 split
 ·rfl
 ·have p := bN (x := x) uQ
  have pm := p.many
  simp only [oB, ak, au, ai, av]
  refine ⟨fun y hy => ?_, by omega⟩
  obtain ⟨u, hu, rfl⟩ := cg.mp hy
  exact aH4 (p.ok hx hu) (by have := p.le hu; omega)
theorem aDx {x : Str} (hx : PyData.strOk x = true) (hl : x.length ≤ 60000) : oB 5 (.tup (gP x)) = true := by
 unfold gP
 have p := bN (x := x) yT
 have pm := p.many
 simp only [oB, ak, au, ai, av]
 refine ⟨fun y hy => ?_, by omega⟩
 obtain ⟨u, hu, rfl⟩ := cg.mp hy
 have := p.le hu
 exact aAU (m := 2) fun ns hn => ⟨by
  rw [j4 hn]
  have := (bN (x := u) gG).many
  omega, ID hn⟩
theorem exc_ok : PyData.strOk (" ! " : Str) = true := by decide +kernel
theorem aFw {x : Str} (hx : PyData.strOk x = true) (hl : x.length ≤ 60000) : oB 6 (JH x) = true := by
 obtain ⟨c, _⟩ := mD (x := x) tX
 have h1 := c.len
 have o1 := aHc (wF c.m1 hx) (by omega)
 have o2 := aDx (wF c.m3 hx) (by omega)
 unfold JH
 simp only [oB, ak, au, ai, bg, cw]
 refine ⟨fun y hy => ?_, by omega⟩
 simp only [ay, br, df] at hy
 rcases hy with rfl | rfl
 ·exact o1
 ·split
  ·rfl
  ·exact o2
theorem o6 {x : Str} (hx : PyData.strOk x = true) (hl : x.length ≤ 60000) : lV k [.str x] w = .ok (cY x) w := by
 obtain ⟨c, cm⟩ := mD (x := x) tX
 have ob : oB (2 + 4) (JH x) = true := aFw hx hl
 unfold cY
 unfold JH at ob ⊢
 obtain ⟨⟨u, v, y⟩, ep⟩ : ∃ p, p = Txt.partition x " ! " := ⟨_, rfl⟩
 rw [← ep] at c cm ob ⊢
 simp only at c cm ob ⊢
 have h1 := c.len
 simp only at h1
 have hu : PyData.strOk u = true := wF c.m1 hx
 have hy : PyData.strOk y = true := wF c.m3 hx
 have hv : PyData.strOk v = true := by
  rcases cm with rfl | rfl
  ·exact exc_ok
  ·exact KL
 clear c cm
 refine pO ?_
 unfold lV tV
 rw [dM, X1, a7]
 simp only [DM, aAQ tX (show x.length ≤ 16000000 by omega), ← ep, zY, af, ae, reduceCtorEq]
 rw [a7]
 have aa : ∀ (PP : D → W → Prop) (s3 s4 s5 s6 : Option D), PP (.tup (jY u)) w → T (sQ (aV (aE eG (aB 1) (eC (.str ("-" : Str))))) (bH aD) (aP cH (aA (a8 (cK (bB "str" splitM (aB 1) (aA (eC (.str (" ; " : Str))) aD))) [6] (aQ 6) bA (aH (lK k) 1 aM (aA (aB 6) aD))) aD)) [some (.str x), some (.str u), some (.str v), s3, s4, s5, s6] w) PP := fun PP s3 s4 s5 s6 hPP => by
  simp only [nP, cV hu HE, aj, bx, zY, af, ae, reduceCtorEq]
  unfold jY at hPP
  by_cases cu : u = ("-" : Str)
  ·rw [if_pos cu] at hPP
   simp only [decide_eq_true cu, zY, af, ae, reduceCtorEq]
   exact hPP
  ·rw [if_neg cu] at hPP
   have p := bN (x := u) uQ
   have pm := p.many
   simp only [de cu, DM, fJ uQ (show u.length ≤ 16000000 by omega), vM, zY, af, ae, reduceCtorEq]
   refine ⟨lI _ (by rw [av]; omega), ?_⟩
   refine fD (it := ⟨(Txt.split u " ; ").map D.str, always⟩) (Txt.split u " ; ") D.str AR rfl trivial (fun z hz => ?_) ?_
   ·simp only [cQ, tQ k (p.ok hu hz) (show z.length ≤ 900000 by have := p.le hz; omega), zY, af, ae, reduceCtorEq]
   simp only [vT]
   exact hPP
 rw [U8]
 refine aa _ _ _ _ _ ?_
 simp only [zY, af, ae, reduceCtorEq]
 rw [a7]
 simp only [zY, af, ae, reduceCtorEq]
 rw [a7]
 have ff : ∀ (PF : Fl → W → Prop), PF (.nx [some (.str x), some (.str u), some (.str v), some (.str y), some (.tup (jY u)), some (.tup (if v = ("" : Str) then [] else gP y)), none]) w → T (dH (aV (aE oX (aB 2) (eC (.str ("" : Str))))) (aO (aP cH (aA (a8 (cK (bB "str" splitM (aB 3) (aA (eC (.str (" , " : Str))) aD))) [6] (aQ 6) bA (aH (cG k) 1 aM (aA (bB "str" splitM (aB 6) (aA (eC (.str (" " : Str))) aD)) aD))) aD)) (aQ 5)) aZ [some (.str x), some (.str u), some (.str v), some (.str y), some (.tup (jY u)), some (.tup []), none] w) PF := fun PF hPF => by
  simp only [LF, cV hv KL, aj, bx, zY, af, ae, reduceCtorEq]
  by_cases cv : v = ("" : Str)
  ·rw [if_pos cv] at hPF
   simp only [decide_eq_true cv, cb, zY, af, ae, reduceCtorEq]
   exact hPF
  ·rw [if_neg cv] at hPF
   have p := bN (x := y) yT
   have pm := p.many
   simp only [de cv, ck, DM, fJ yT (show y.length ≤ 16000000 by omega), vM, zY, af, ae, reduceCtorEq]
   refine ⟨lI _ (by rw [av]; omega), ?_⟩
   refine fD (it := ⟨(Txt.split y " , ").map D.str, always⟩) (Txt.split y " , ") D.str (fun z => gJ (f7 (Txt.split z " "))) rfl trivial (fun z hz => ?_) ?_
   ·have lz := p.le hz
    simp only [cQ, DM, fJ gG (show z.length ≤ 16000000 by omega), zI k gG (p.ok hy hz) (show z.length ≤ 900000 by omega), zY, af, ae, reduceCtorEq]
   simp only [vT, zY, af, ae, reduceCtorEq]
   exact hPF
 refine ff _ ?_
 have et := fun w : W => aJw k (w := w) ob
 simp only [et, zY, af, ae, reduceCtorEq]
 by_cases c : fT (.tup [.tup (jY u), .tup (if v = ("" : Str) then [] else gP y)]) = true
 ·rw [if_pos c, c]
  (try simp only [zY, af, ae, reduceCtorEq]) <;> (first | exact ⟨rfl, rfl⟩ | rfl | exact trivial)
 ·have c' : fT (.tup [.tup (jY u), .tup (if v = ("" : Str) then [] else gP y)]) = false := by simpa using c
  rw [if_neg c, c']
  (try simp only [zY, af, ae, reduceCtorEq]) <;> (first | exact ⟨rfl, rfl⟩ | rfl | exact trivial)
end
section
variable (k : Sx.bE)
variable {n l : Nat} {w w' w0 : W} {P : D → W → Prop} {PF : Fl → W → Prop} {d : D}
def dE (xs : List D) : List D := (List.range xs.length).zipWith (fun i x => D.tup [.int (i : Nat), x]) xs
theorem H7 {xs : List D} {PI : lO → W → Prop} : T (Pc.lJ [.lst xs] w) PI = PI ⟨dE xs, always⟩ w := by unfold T; rfl
theorem pairs_len {xs : List D} : (dE xs).length = xs.length := by simp [dE]
theorem pairs_at {xs : List D} {i : Nat} {x : D} (h : (dE xs)[i]? = some x) : ∃ y, xs[i]? = some y ∧ x = .tup [.int (i : Nat), y] := by
 have hl := (ar.mp h).1
 rw [pairs_len] at hl
 refine ⟨xs[i], bo hl, ?_⟩
 unfold dE at h
 rw [List.getElem?_zipWith] at h
 simp only [bo hl, List.getElem?_range hl, Option.map_some, Option.bind_some] at h
 simpa using h.symm
theorem aJc {x : Str} (h : ∀ c ∈ x.cps.toList, c < 127) : PyData.strOk x = true := aD9 h
end
def OB (k : bE) (C : Addr) : MS := (aJ (aO (aH (lV k) 1 aM (aA (aB 3) aD)) (aQ 4))
 (aJ (dH (aV (aE isM (aB 4) (eC .non))) (EW C ("line" : Str) (aB 2)) aZ)
 (cR (bB "list" cJ (aB 1) (aA (aB 4) aD)))))
def lW (k : bE) (C : Addr) : MS :=
 (aJ (dH (cS (dS (aP (gQ g6) (aA (aB 0) (aA (eC (.ty "str")) aD))))) (EW C ("line" : Str) (eC (.int 0))) aZ)
 (aJ (aO (eNew aD) (aQ 1))
 (aJ (g9 (dB lJ (aA (sQ (aV (aE oX (aB 0) (eC (.str ("" : Str))))) (bB "str" splitM (aB 0) (aA (eC (.str ("\n" : Str))) aD)) (dQ aD)) aD)) (bV 2 (aI (aQ 2) (aI (aQ 3) bO))) (OB k C))
 (aU (aP cH (aA (aB 1) aD))))))
def dP (k : bE) (C : Addr) : MF := bF (lW k C) gF
def gD (x : Str) : List Str := if x = ("" : Str) then [] else Txt.split x "\n"
section
variable (k : Sx.bE) (C : Addr)
variable {n l : Nat} {w w' w0 : W} {P : D → W → Prop} {PF : Fl → W → Prop} {PX : XD → W → Prop} {d : D}
structure AU (x : Str) : Prop where
 ok : PyData.strOk x = true
 len : x.length ≤ 60000
theorem set_nil {q : Nat} (hq : w[q]? = some (.lst [])) : w = w.set q (.lst []) := List.ext_getElem? fun i => by
 have hql := (ar.mp hq).1
 by_cases c : i = q
 ·subst c
  rw [cc hql, hq]
 ·rw [bu (fun e => c e.symm)]
theorem N9 {ls : List Str} {q j : Nat} {y z : Str} {x0 : D} {s4 : Option D} {tk : List D} (hz : AU z) (ht : (cY z).isNon = false) (hq : w[q]? = some (.lst tk)) (hl : tk.length ≤ 1000000)
  (hP : ∀ s4, PF (.nx [some x0, some (.ref q), some (.int (j : Nat)), some (.str z), s4]) (w.set q (.lst (tk ++ [cY z])))) : T (OB k C [some x0, some (.ref q), some (.int (j : Nat)), some (.str z), s4] w) PF := by
 unfold OB
 rw [a7]
 simp only [o6 k hz.ok hz.len, zY, af, ae, reduceCtorEq]
 rw [a7]
 simp only [WM, ht, zY, af, ae, reduceCtorEq]
 simp only [tyL hq, kG hq, zY, af, ae, reduceCtorEq]
 exact ⟨by rw [sizeLine_eq]; omega, hP _⟩
theorem aE0 {ls : List Str} (h : ∀ x ∈ ls, AU x ∧ (cY x).isNon = false) (hl : ls.length ≤ 900000) {q : Nat} {x0 : D} {s2 s3 s4 : Option D} (hq : w[q]? = some (.lst []))
  (hP : ∀ s2 s3 s4, PF (.nx [some x0, some (.ref q), s2, s3, s4]) (w.set q (.lst (ls.map cY)))) :
  T (forL ⟨dE (ls.map D.str), always⟩ (bV 2 (aI (aQ 2) (aI (aQ 3) bO))) (OB k C) (dE (ls.map D.str)) [some x0, some (.ref q), s2, s3, s4] w) PF := by
 have hql := (ar.mp hq).1
 refine KU (it := ⟨dE (ls.map D.str), always⟩) (fun j σ w' => w' = w.set q (.lst ((ls.take j).map cY)) ∧ ∃ s2 s3 s4, σ = [some x0, some (.ref q), s2, s3, s4]) (fun _ _ _ _ => trivial)
  ⟨by rw [List.take_zero]; exact set_nil hq, _, _, _, rfl⟩ (fun j x σ w' hx ⟨ew, s2, s3, s4, es⟩ => ?_) fun σ w' ⟨ew, s2, s3, s4, es⟩ => ?_
 case refine_2 =>
  subst es
  rw [pairs_len, av, List.take_length] at ew
  rw [ew]
  exact hP _ _ _
 subst es
 obtain ⟨y, hy, rfl⟩ := pairs_at hx
 rw [da] at hy
 obtain ⟨z, hz, rfl⟩ := aq.mp hy
 obtain ⟨z1, z2⟩ := h z (cq hz)
 have hq' : w'[q]? = some (.lst ((ls.take j).map cY)) := by rw [ew]; exact cc hql
 simp only [nL, zY, af, ae, reduceCtorEq]
 refine N9 k C (ls := ls) (y := z) z1 z2 hq' (by rw [av, dn]; omega) fun s4 => ?_
 refine ⟨?_, _, _, _, rfl⟩
 rw [ew, List.set_set, List.take_add_one, hz, cj]
 rfl
theorem aED {ls ms : List Str} {bad : Str} (h : ∀ x ∈ ls, AU x ∧ (cY x).isNon = false) (hb : AU bad) (hn : (cY bad).isNon = true) (hl : ls.length ≤ 900000) {q : Nat} {x0 : D} {s2 s3 s4 : Option D} (hq : w[q]? = some (.lst []))
  (hP : ∀ d, PX ⟨.ref C, some [(("line" : Str), .int (ls.length : Nat))]⟩ (w.set q d)) :
  TX (forL ⟨dE ((ls ++ bad :: ms).map D.str), always⟩ (bV 2 (aI (aQ 2) (aI (aQ 3) bO))) (OB k C) (dE ((ls ++ bad :: ms).map D.str)) [some x0, some (.ref q), s2, s3, s4] w) PX := by
 have hql := (ar.mp hq).1
 refine aHe (it := ⟨dE ((ls ++ bad :: ms).map D.str), always⟩) (fun j σ w' => w' = w.set q (.lst ((ls.take j).map cY)) ∧ ∃ s2 s3 s4, σ = [some x0, some (.ref q), s2, s3, s4]) ls.length (by
  rw [pairs_len, av, bw, bg]
  omega) (fun _ _ _ _ => trivial) ⟨by rw [List.take_zero]; exact set_nil hq, _, _, _, rfl⟩ (fun j x σ w' hj hx ⟨ew, s2, s3, s4, es⟩ => ?_) fun x σ w' hx ⟨ew, s2, s3, s4, es⟩ => ?_
 ·subst es
  obtain ⟨y, hy, rfl⟩ := pairs_at hx
  rw [da, bj hj] at hy
  obtain ⟨z, hz, rfl⟩ := aq.mp hy
  obtain ⟨z1, z2⟩ := h z (cq hz)
  have hq' : w'[q]? = some (.lst ((ls.take j).map cY)) := by rw [ew]; exact cc hql
  simp only [nL, zY, af, ae, reduceCtorEq]
  refine N9 k C (ls := ls) (y := z) z1 z2 hq' (by rw [av, dn]; omega) fun s4 => ?_
  refine ⟨?_, _, _, _, rfl⟩
  rw [ew, List.set_set, List.take_add_one, hz, cj]
  rfl
 ·subst es
  obtain ⟨y, hy, rfl⟩ := pairs_at hx
  rw [da, cy (az _), Nat.sub_self, List.getElem?_cons_zero] at hy
  cases hy
  simp only [nL, zY, af, ae, reduceCtorEq]
  unfold OB
  refine ZD ?_
  simp only [o6 k hb.ok hb.len, zY, af, ae, reduceCtorEq]
  refine ⟨_, rfl, TR (aHD ?_)⟩
  simp only [WM, hn, zY, af, ae, reduceCtorEq]
  refine WU ?_
  simp only [zY, af, ae, reduceCtorEq]
  rw [ew]
  exact hP _
theorem L5 {x : Str} {s1 s2 s3 s4 : Option D} (hx : PyData.strOk x = true) (hl : x.length ≤ 16000000) {PE : D → W → Prop} (hPE : PE (.lst ((gD x).map D.str)) w) : T (sQ (aV (aE oX (aB 0) (eC (.str ("" : Str))))) (bB "str" splitM (aB 0) (aA (eC (.str ("\n" : Str))) aD)) (dQ aD) [some (.str x), s1, s2, s3, s4] w) PE := by
 unfold gD at hPE
 simp only [LF, cV hx KL, aj, bx, zY, af, ae, reduceCtorEq]
 by_cases c : x = ("" : Str)
 ·rw [if_pos c] at hPE
  simp only [decide_eq_true c, cb, zY, af, ae, reduceCtorEq]
  exact hPE
 ·rw [if_neg c] at hPE
  simp only [de c, ck, DM, fJ pK hl, zY, af, ae, reduceCtorEq]
  exact hPE
theorem yQ {x : Str} : (gD x).length ≤ x.length + 1 := by
 unfold gD
 split
 ·exact Nat.zero_le _
 ·exact (bN (x := x) pK).many
theorem aFQ {x : Str} (hx : PyData.strOk x = true) (hl : x.length ≤ 800000) (h : ∀ y ∈ gD x, AU y ∧ (cY y).isNon = false) (hP : ∀ w', Gr w w' → P (.tup ((gD x).map cY)) w') : T (dP k C [.str x] w) P := by
 have ll := yQ (x := x)
 unfold dP lW
 rw [dM, sM, a7]
 simp only [TM, cb, zY, af, ae, reduceCtorEq]
 rw [a7]
 simp only [zY, af, ae, reduceCtorEq]
 rw [a7]
 have hq : (w ++ [MO.lst []])[w.length]? = some (.lst []) := AQ
 obtain ⟨q, eq⟩ : ∃ q, q = w.length := ⟨_, rfl⟩
 obtain ⟨w1, e1⟩ : ∃ w1, w1 = w ++ [MO.lst []] := ⟨_, rfl⟩
 rw [← e1] at hq
 rw [← eq] at hq
 rw [← e1, ← eq]
 rw [US, IM]
 simp only [BP, IP]
 refine L5 hx (by omega) ?_
 simp only [H7]
 refine aE0 k C h (by omega) hq fun s2 s3 s4 => ?_
 obtain ⟨ts, ets⟩ : ∃ ts, ts = (gD x).map cY := ⟨_, rfl⟩
 rw [← ets] at hP ⊢
 have h2 : (w1.set q (.lst ts))[q]? = some (.lst ts) := cc (ar.mp hq).1
 have tl : ∀ P : D → W → Prop, T (cH [.ref q] (w1.set q (.lst ts))) P = P (.tup ts) (w1.set q (.lst ts)) := fun P => by
  have : cH [.ref q] (w1.set q (.lst ts)) = .ok (.tup ts) (w1.set q (.lst ts)) := by
   simp only [cH, tL, aGF, D.items, h2]
  rw [this, bZ]
 rw [A7]
 simp only [tl, zY, af, ae, reduceCtorEq]
 refine hP _ ⟨[.lst ts], ?_⟩
 rw [e1, eq]
 simp
theorem aG5 {x bad : Str} {ls ms : List Str} (hx : PyData.strOk x = true) (hl : x.length ≤ 800000) (e : gD x = ls ++ bad :: ms) (h : ∀ y ∈ ls, AU y ∧ (cY y).isNon = false) (hb : AU bad) (hn : (cY bad).isNon = true) (hP : ∀ w', Gr w w' → PX ⟨.ref C, some [(("line" : Str), .int (ls.length : Nat))]⟩ w') : TX (dP k C [.str x] w) PX := by
 have ll := yQ (x := x)
 rw [e, bw] at ll
 unfold dP lW
 refine aEc ?_
 rw [sM]
 refine ZD ?_
 simp only [TM, cb, zY, af, ae, reduceCtorEq]
 refine ⟨_, rfl, ZD ?_⟩
 simp only [zY, af, ae, reduceCtorEq]
 refine ⟨_, rfl, TR (aIj ?_)⟩
 have hq : (w ++ [MO.lst []])[w.length]? = some (.lst []) := AQ
 obtain ⟨q, eq⟩ : ∃ q, q = w.length := ⟨_, rfl⟩
 obtain ⟨w1, e1⟩ : ∃ w1, w1 = w ++ [MO.lst []] := ⟨_, rfl⟩
 rw [← e1] at hq
 rw [← eq] at hq
 rw [← e1, ← eq, IM]
 simp only [BP, IP]
 refine L5 hx (by omega) ?_
 rw [e]
 simp only [H7]
 refine aED k C h hb hn (by omega) hq fun d => hP _ ⟨[d], ?_⟩
 rw [e1, eq]
 simp
end
def VW (l : List Nat) : Bool := (l.head? == some 48) && !(l == [48])
def aGP (l : List Nat) : Bool := match intText? ⟨l.toArray⟩ with
 | some n => decide (wB n = (⟨l.toArray⟩ : Str)) == !VW l
 | none => false
theorem aKu : ((List.range 10).all fun a => aGP [48 + a] && (List.range 10).all fun b => aGP [48 + a, 48 + b] && (List.range 10).all fun c => aGP [48 + a, 48 + b, 48 + c]) = true := by decide +kernel
theorem aBK {f : List Nat → Bool} (a : ((List.range 10).all fun a => f [48 + a] && (List.range 10).all fun b => f [48 + a, 48 + b] && (List.range 10).all fun c => f [48 + a, 48 + b, 48 + c]) = true) {x : Str} (h1 : 1 ≤ x.length) (h3 : x.length ≤ 3) (hd : x.cps.toList.all u5 = true) : f x.cps.toList = true := by
 simp only [au, ak, List.mem_range] at a
 have lx : x.length = x.cps.toList.length := by simp [Str.length]
 simp only [au, u5, ak, ai] at hd
 have e : ∀ c ∈ x.cps.toList, ∃ d, c = 48 + d ∧ d < 10 := fun c hc => ⟨c - 48, by have := hd c hc; omega, by have := hd c hc; omega⟩
 match hx : x.cps.toList with
 | [] =>
  rw [hx, cw] at lx
  omega
 | [p] =>
  obtain ⟨d, rfl, h⟩ := e p (by rw [hx]; simp)
  exact (a d h).1
 | [p, q] =>
  obtain ⟨d, rfl, h⟩ := e p (by rw [hx]; simp)
  obtain ⟨f, rfl, g⟩ := e q (by rw [hx]; simp)
  exact ((a d h).2 f g).1
 | [p, q, r] =>
  obtain ⟨d, rfl, h⟩ := e p (by rw [hx]; simp)
  obtain ⟨f, rfl, g⟩ := e q (by rw [hx]; simp)
  obtain ⟨j, rfl, i⟩ := e r (by rw [hx]; simp)
  exact ((a d h).2 f g).2 j i
 | p :: q :: r :: s :: t =>
  rw [hx] at lx
  simp only [bg] at lx
  omega
theorem aFI {x : Str} (h1 : 1 ≤ x.length) (h3 : x.length ≤ 3) (hd : x.cps.toList.all u5 = true) : ∃ n : Int, intText? x = some n ∧ iT x = if VW x.cps.toList = true then none else some n := by
 obtain ⟨n, e, n0, n1⟩ := JK h1 h3 hd
 have key := aBK aKu h1 h3 hd
 have ex : (⟨x.cps.toList.toArray⟩ : Str) = x := by
  cases x
  simp
 unfold aGP at key
 rw [ex, e] at key
 simp only [beq_iff_eq] at key
 refine ⟨n, e, ?_⟩
 unfold iT
 rw [if_pos ⟨h1, h3, hd⟩, e]
 simp only
 cases hz : VW x.cps.toList with
 | true =>
  rw [hz] at key
  rw [if_neg (by simpa using key)]
  simp
 | false =>
  rw [hz] at key
  rw [if_pos (by simpa using key)]
  simp
theorem V8 {S r : List Nat} {c : Nat} (h : TL.pre S (c :: r) = true) : S ++ (c :: r).drop S.length = c :: r := by
 have e : (c :: r).take S.length = S := by
  unfold TL.pre at h
  simpa using h
 exact (congrArg (· ++ (c :: r).drop S.length) e.symm).trans (List.take_append_drop ..)
theorem drop_one {S r : List Nat} {c : Nat} (hS : S ≠ []) : (c :: r).drop S.length = r.drop (S.length - 1) := by
 obtain ⟨s, t, rfl⟩ := di hS
 simp
theorem HS {S : List Nat} (hS : S ≠ []) : ∀ (n : Nat) (l acc : List Nat), l.length ≤ n → TL.joinL S (TL.spl S 0 acc l) = acc ++ l
 | n, [], acc, _ => by
  rw [TL.spl_nil, du]
  rfl
 | 0, a :: r, acc, h => by simp at h
 | n + 1, a :: r, acc, h => by
  rw [bg] at h
  by_cases c : TL.pre S (a :: r) = true
  ·rw [TL.spl_hit c, TL.spl_pass]
   have ih := HS hS n (r.drop (S.length - 1)) [] (by rw [dq]; omega)
   obtain ⟨q, t, e⟩ := di (BW (S := S) (r.drop (S.length - 1)) 0 []).2.2
   rw [e] at ih ⊢
   show acc ++ (S ++ TL.joinL S (q :: t)) = _
   rw [ih, bz, ← drop_one (c := a) hS, V8 c]
  ·rw [TL.spl_miss (by simpa using c), HS hS n r _ (by omega), cz]
   rfl
theorem VT {S : List Nat} : ∀ (l acc p q : List Nat), TL.par S acc l = some (p, q) → acc ++ l = p ++ (S ++ q)
 | [], acc, p, q, h => by cases h
 | a :: r, acc, p, q, h => by
  by_cases c : TL.pre S (a :: r) = true
  ·rw [TL.par_hit c] at h
   cases h
   rw [V8 c]
  ·rw [TL.par_miss (by simpa using c)] at h
   rw [← VT r _ p q h, cz]
   rfl
theorem IH {x y : Str} (h : Sep y) : TL.joinL (TL.tl y) ((Txt.split x y).map TL.tl) = TL.tl x := by
 rw [TL.split_spl x y h.ne (TL.kind_ok h.plain), HS h.ne _ _ _ (az _), bz]
theorem QI {s : Nat} : ∀ (l acc : List Nat), (TL.spl [s] 0 acc l).length = l.count s + 1
 | [], acc => by
  rw [TL.spl_nil]
  rfl
 | a :: r, acc => by
  by_cases c : a = s
  ·subst c
   rw [TL.spl_hit (by simp [TL.pre]), bg, List.count_cons_self]
   have := QI (s := a) r []
   simp only [dj, Nat.sub_self]
   omega
  ·rw [TL.spl_miss (by simp [TL.pre, c]), QI r _, List.count_cons_of_ne c]
theorem KI {s : Nat} : ∀ (l acc : List Nat), s ∉ acc → ∀ p ∈ TL.spl [s] 0 acc l, s ∉ p
 | [], acc, h, p, hp => by
  rw [TL.spl_nil, bp] at hp
  rw [hp]
  exact h
 | a :: r, acc, h, p, hp => by
  by_cases c : a = s
  ·subst c
   rw [TL.spl_hit (by simp [TL.pre])] at hp
   rcases ay.mp hp with rfl | hp
   ·exact h
   ·exact KI r [] (by simp) p hp
  ·rw [TL.spl_miss (by simp [TL.pre, c])] at hp
   refine KI r _ (fun hm => ?_) p hp
   rcases bh.mp hm with hm | hm
   ·exact h hm
   ·exact c (bp.mp hm).symm
theorem aBz {x y : Str} {s : Nat} (h : Sep y) (ey : TL.tl y = [s]) : (Txt.split x y).length = (TL.tl x).count s + 1 := by
 have := congrArg List.length (TL.split_spl x y h.ne (TL.kind_ok h.plain))
 rw [av, ey, QI] at this
 exact this
theorem split_free {x y : Str} {s : Nat} (h : Sep y) (ey : TL.tl y = [s]) : ∀ p ∈ Txt.split x y, s ∉ TL.tl p := fun p hp => by
 have e := TL.split_spl x y h.ne (TL.kind_ok h.plain)
 have m : TL.tl p ∈ (Txt.split x y).map TL.tl := List.mem_map_of_mem hp
 rw [e, ey] at m
 exact KI _ _ (by simp) _ m
theorem FG {S : List Nat} : ∀ {ps : List (List Nat)}, ps ≠ [] → (TL.joinL S ps).length + S.length = (ps.map fun p => p.length + S.length).sum
 | [], h => absurd rfl h
 | [p], _ => by
  show p.length + _ = (p.length + S.length) + 0
  omega
 | p :: q :: r, _ => by
  have ih := FG (S := S) (ps := q :: r) (by simp)
  show (p ++ (S ++ TL.joinL S (q :: r))).length + S.length = (p.length + S.length) + ((q :: r).map fun p => p.length + S.length).sum
  rw [bw, bw]
  omega
theorem aIa {c : Nat} {ps : List Str} : ((ps.map TL.tl).map fun p => p.length + c).sum = (ps.map fun p => p.length + c).sum := by
 rw [List.map_map]
 exact congrArg List.sum (List.map_congr_left fun p _ => by rw [TL.len_tl p]; rfl)
theorem nC {x y : Str} (h : Sep y) : ((Txt.split x y).map fun p => p.length + y.length).sum = x.length + y.length := by
 have e := IH (x := x) h
 have j := FG (S := TL.tl y) (ps := (Txt.split x y).map TL.tl) (by simpa using (bN (x := x) h).ne)
 rw [e, aIa, ← TL.len_tl, ← TL.len_tl] at j
 exact j.symm
def fP : Nat → List Nat → Nat
 | j, [] => j
 | j, s :: r => if s = 32 ∨ s = 10 then max j (fP 0 r) else if s = 44 then fP (j + 1) r else fP j r
theorem aCO : ∀ (l : List Nat) (j : Nat), j ≤ fP j l
 | [], j => az _
 | s :: r, j => by
  have h1 := aCO r (j + 1)
  have h2 := aCO r j
  unfold fP
  split
  ·omega
  ·split <;> omega
theorem TU : ∀ (l : List Nat) {j j' : Nat}, j ≤ j' → fP j l ≤ fP j' l
 | [], j, j', h => h
 | s :: r, j, j', h => by
  have h1 := TU r (j := j + 1) (j' := j' + 1) (by omega)
  have h2 := TU r h
  unfold fP
  split
  ·omega
  ·split <;> omega
theorem CU : ∀ (l : List Nat) (j d : Nat), fP (j + d) l ≤ fP j l + d
 | [], j, d => az _
 | s :: r, j, d => by
  have h1 := CU r (j + 1) d
  have h2 := CU r j d
  rw [show j + 1 + d = j + d + 1 by omega] at h1
  unfold fP
  split
  ·omega
  ·split <;> omega
theorem AA : ∀ (x : List Nat) (j : Nat) (y : List Nat), fP j (x ++ y) ≤ fP j x + fP 0 y
 | [], j, y => by
  have := CU y 0 j
  rw [Nat.zero_add] at this
  show fP j y ≤ j + fP 0 y
  omega
 | s :: r, j, y => by
  have h0 := AA r 0 y
  have h1 := AA r (j + 1) y
  have h2 := AA r j y
  rw [bf, fP, fP]
  split
  ·omega
  ·split <;> omega
theorem z9 {s : Nat} (hs : s = 32 ∨ s = 10) : ∀ (x : List Nat) (j : Nat) (y : List Nat), fP j (x ++ s :: y) ≤ max (fP j x) (fP 0 y)
 | [], j, y => by
  have : fP j (s :: y) = max j (fP 0 y) := by rw [fP, if_pos hs]
  rw [bz, this]
  exact az _
 | t :: r, j, y => by
  have h0 := z9 hs r 0 y
  have h1 := z9 hs r (j + 1) y
  have h2 := z9 hs r j y
  rw [bf, fP, fP]
  split
  ·omega
  ·split <;> omega
theorem DI : ∀ (x : List Nat) (j : Nat) (y : List Nat), fP j x ≤ fP j (x ++ y)
 | [], j, y => aCO y j
 | s :: r, j, y => by
  have h0 := DI r 0 y
  have h1 := DI r (j + 1) y
  have h2 := DI r j y
  rw [bf, fP, fP]
  split
  ·omega
  ·split <;> omega
theorem v3 : ∀ (x : List Nat) (j : Nat) (y : List Nat), fP 0 y ≤ fP j (x ++ y)
 | [], j, y => TU y (Nat.zero_le _)
 | s :: r, j, y => by
  have h0 := v3 r 0 y
  have h1 := v3 r (j + 1) y
  have h2 := v3 r j y
  rw [bf, fP]
  split
  ·omega
  ·split <;> omega
theorem YJ : ∀ (l : List Nat) (j : Nat), (∀ s ∈ l, s ≠ 32 ∧ s ≠ 10) → fP j l = j + l.count 44
 | [], j, _ => rfl
 | s :: r, j, h => by
  have hs := h s (aw ..)
  have h1 := YJ r (j + 1) fun t ht => h t (bc _ ht)
  have h2 := YJ r j fun t ht => h t (bc _ ht)
  rw [fP, if_neg (by omega)]
  by_cases c : s = 44
  ·subst c
   rw [if_pos rfl, h1, List.count_cons_self]
   omega
  ·rw [if_neg c, h2, List.count_cons_of_ne c]
theorem HC : ∀ (l : List Nat) (j : Nat), 44 ∉ l → fP j l = j
 | [], j, _ => rfl
 | s :: r, j, h => by
  have hs : s ≠ 44 := fun e => h (e ▸ aw ..)
  have hr : 44 ∉ r := fun e => h (bc _ e)
  have h1 := HC r 0 hr
  have h2 := HC r j hr
  rw [fP, if_neg hs]
  split <;> omega
theorem KQ {s n : Nat} (hs : s = 32 ∨ s = 10) : ∀ {ps : List (List Nat)}, (∀ p ∈ ps, fP 0 p ≤ n) → fP 0 (TL.joinL [s] ps) ≤ n
 | [], _ => Nat.zero_le _
 | [p], h => h p (aw ..)
 | p :: q :: r, h => by
  have ih := KQ hs (ps := q :: r) fun t ht => h t (bc _ ht)
  have h1 := h p (aw ..)
  have h2 := z9 hs p 0 (TL.joinL [s] (q :: r))
  show fP 0 (p ++ (s :: TL.joinL [s] (q :: r))) ≤ n
  omega
theorem W4 {c n : Nat} (hn : 1 ≤ n) : ∀ {ps : List (List Nat)}, (∀ p ∈ ps, fP 0 p ≤ n) → fP 0 (TL.joinL [32, c, 32] ps) ≤ n
 | [], _ => Nat.zero_le _
 | [p], h => h p (aw ..)
 | p :: q :: r, h => by
  have ih := W4 (c := c) hn (ps := q :: r) fun t ht => h t (bc _ ht)
  have h1 := h p (aw ..)
  have h2 := z9 (.inl rfl) p 0 (c :: 32 :: TL.joinL [32, c, 32] (q :: r))
  have h3 := z9 (.inl rfl) [c] 0 (TL.joinL [32, c, 32] (q :: r))
  have h4 : fP 0 [c] ≤ 1 := by
   unfold fP
   split
   ·exact Nat.zero_le _
   ·split
    ·exact az 1
    ·exact Nat.zero_le _
  rw [List.singleton_append] at h3
  show fP 0 (p ++ (32 :: c :: 32 :: TL.joinL [32, c, 32] (q :: r))) ≤ n
  omega
theorem aAq {S p : List Nat} : ∀ {ps : List (List Nat)}, p ∈ ps → fP 0 p ≤ fP 0 (TL.joinL S ps)
 | [q], h => by rw [bp.mp h]; exact az _
 | q :: r :: t, h => by
  show fP 0 p ≤ fP 0 (q ++ (S ++ TL.joinL S (r :: t)))
  rcases ay.mp h with rfl | h
  ·exact DI _ _ _
  ·have ih := aAq (S := S) h
   have h1 := v3 q 0 (S ++ TL.joinL S (r :: t))
   have h2 := v3 S 0 (TL.joinL S (r :: t))
   omega
theorem aAu : ∀ {ps : List (List Nat)}, (∀ p ∈ ps, fP 0 p = 0) → fP 0 (TL.joinL [44] ps) ≤ ps.length
 | [], _ => Nat.zero_le _
 | [p], h => by
  have := h p (aw ..)
  show fP 0 p ≤ 1
  omega
 | p :: q :: r, h => by
  have ih := aAu (ps := q :: r) fun t ht => h t (bc _ ht)
  have h1 := h p (aw ..)
  have h2 := AA p 0 (44 :: TL.joinL [44] (q :: r))
  have h3 := CU (TL.joinL [44] (q :: r)) 0 1
  have h4 : fP 0 (44 :: TL.joinL [44] (q :: r)) = fP (0 + 1) (TL.joinL [44] (q :: r)) := by
   rw [fP, if_neg (by omega), if_pos rfl]
  rw [bg]
  show fP 0 (p ++ (44 :: TL.joinL [44] (q :: r))) ≤ _
  omega
abbrev cm (x : Str) : Nat := fP 0 (TL.tl x)
theorem qP {x y p : Str} (h : Sep y) (hp : p ∈ Txt.split x y) : cm p ≤ cm x := by
 show fP 0 (TL.tl p) ≤ fP 0 (TL.tl x)
 rw [← IH (x := x) h]
 exact aAq (List.mem_map_of_mem hp)
theorem YU {x y : Str} (h : Sep y) : cm (Txt.partition x y).1 ≤ cm x ∧ cm (Txt.partition x y).2.2 ≤ cm x := by
 rw [TL.partition_par x y h.ne]
 split
 ·rename_i a b e
  have := VT _ _ _ _ e
  rw [bz] at this
  refine ⟨?_, ?_⟩
  ·show fP 0 a ≤ fP 0 (TL.tl x)
   rw [this]
   exact DI _ _ _
  ·show fP 0 b ≤ fP 0 (TL.tl x)
   rw [this]
   exact bq (v3 (TL.tl y) 0 b) (v3 a 0 _)
 ·exact ⟨az _, Nat.zero_le _⟩
theorem U9 : TL.tl (" " : Str) = [32] := vY
theorem LD {y : Str} {ps : List Str} {n : Nat} (hy : TL.tl y = [32] ∨ TL.tl y = [10]) (h : ∀ p ∈ ps, cm p ≤ n) : cm (Txt.join y ps) ≤ n := by
 show fP 0 (TL.tl (Txt.join y ps)) ≤ n
 rw [sU]
 have h' : ∀ p ∈ ps.map TL.tl, fP 0 p ≤ n := fun p hp => by
  obtain ⟨z, hz, rfl⟩ := cg.mp hp
  exact h z hz
 rcases hy with e | e
 ·rw [e]
  exact KQ (.inl rfl) h'
 ·rw [e]
  exact KQ (.inr rfl) h'
theorem OM {y : Str} {c : Nat} {ps : List Str} {n : Nat} (hy : TL.tl y = [32, c, 32]) (hn : 1 ≤ n) (h : ∀ p ∈ ps, cm p ≤ n) : cm (Txt.join y ps) ≤ n := by
 show fP 0 (TL.tl (Txt.join y ps)) ≤ n
 rw [sU, hy]
 refine W4 hn fun p hp => ?_
 obtain ⟨z, hz, rfl⟩ := cg.mp hp
 exact h z hz
section
variable (k : Sx.bE)
variable {n l : Nat} {w w' w0 : W} {P : D → W → Prop} {PF : Fl → W → Prop} {d : D}
variable {u0 : W}
def N8 (y : D) : Prop := ∃ a f, y = .tup [.tup a, .tup f] ∧ (∀ x ∈ a, dZ x = true ∧ jA x ≤ 20) ∧ fT y = true ∧ jA y ≤ 120
theorem aFv {b : Nat} (hd : D3 u0 w (b + 180)) (hP : ∀ y w', N8 y → D3 u0 w' b → P y w') : T (j9 k [.ref 1] w) P := by
 unfold j9 mT
 rw [dM, SV, a7]
 simp only [zY, af, ae, reduceCtorEq]
 refine uF (b := b + 179) hd (by omega) (by omega) fun v w1 v0 v1 d1 _ => ?_
 obtain ⟨v, rfl⟩ : ∃ n : Nat, v = (n : Int) := ⟨v.toNat, by omega⟩
 rw [wX (by omega) (by omega)]
 have lr : (fW 0 ((v : Nat) : Int).toNat).xs.length = v := by rw [j5]; omega
 refine ⟨lI _ (by rw [lr]; omega), ?_⟩
 refine uR (it := fW 0 ((v : Nat) : Int).toNat) (b := b + 59) 30 (fun y => dZ y = true ∧ Pt 3 20 y) (fun _ => trivial) (d1.less (by rw [lr]; omega)) (fun x w' b' d' => ?_) fun as w2 la ha d2 => ?_
 ·try simp only [cQ, zY, af, ae, reduceCtorEq]
  refine aKY k d' fun y w3 y0 y1 d3 => ?_
  try simp only [zY, af, ae, reduceCtorEq]
  exact ⟨⟨y0, y1⟩, d3⟩
 rw [lr] at la
 simp only [vT, zY, af, ae, reduceCtorEq]
 rw [a7]
 simp only [zY, af, ae, reduceCtorEq]
 refine uF (b := b + 58) d2 (by omega) (by omega) fun u w3 u0 u1 d3 _ => ?_
 try simp only [zY, af, ae, reduceCtorEq]
 refine uF (b := b + 57) d3 (by omega) (by omega) fun i w4 i0 i1 d4 _ => ?_
 try simp only [zY, af, ae, reduceCtorEq]
 refine UK i0 ?_ fun z hz => ?_
 ·simp only [bg, cw]
  omega
 obtain ⟨m, rfl, m4⟩ : ∃ m : Nat, z = .int m ∧ m ≤ 4 := by
  simp only [ay, br, df] at hz
  rcases hz with rfl | rfl
  ·exact ⟨0, rfl, by omega⟩
  ·exact ⟨u.toNat, by congr 1; omega, by omega⟩
 rw [wX (by omega) (by omega)]
 have lm : (fW 0 ((m : Nat) : Int).toNat).xs.length = m := by rw [j5]; omega
 refine ⟨lI _ (by rw [lm]; omega), ?_⟩
 refine uR (it := fW 0 ((m : Nat) : Int).toNat) (b := b) 12 (fun y => gY y = true ∧ Pt 2 4 y) (fun _ => trivial) (d4.less (by rw [lm]; omega)) (fun x w' b' d' => ?_) fun fs w5 lf hf d5 => ?_
 ·simp only [cQ, wX (n := 4) (by omega) (by omega), zY, af, ae, reduceCtorEq]
  have l4 : (fW 0 (4 : Int).toNat).xs.length = 4 := by rw [j5]; rfl
  refine ⟨lI _ (by rw [l4]; omega), ?_⟩
  refine uR (it := fW 0 (4 : Int).toNat) (b := b') 3 aDS (fun _ => trivial) (d'.less (by rw [l4]; omega)) (fun x w'' b'' d'' => ?_) fun ys w6 ly hy d6 => ?_
  ·try simp only [cQ, zY, af, ae, reduceCtorEq]
   refine L0 k d'' fun u w2 u0 u1 d2 => ?_
   try simp only [zY, af, ae, reduceCtorEq]
   exact ⟨⟨u, rfl, u0, u1⟩, d2⟩
  rw [l4] at ly
  simp only [vT]
  refine ⟨⟨?_, (EA (fun y hy' => (HW (hy y hy')).1) (by omega) (bq OW (by omega))).up (az _) (by omega)⟩, d6⟩
  simp only [gY, ly, ak, au]
  exact ⟨rfl, fun y hy' => (HW (hy y hy')).2⟩
 rw [lm] at lf
 simp only [vT, zY, af, ae, reduceCtorEq]
 have pa := (EA (fun y hy => (ha y hy).2) (by omega) (bq OW (by omega))).up (n' := 4) (c' := 84) (by omega) (by omega)
 have pf := (EA (fun y hy => (hf y hy).2) (by omega) (bq OW (by omega))).up (n' := 4) (c' := 20) (by omega) (by omega)
 refine hP _ w5 ⟨as, fs, rfl, fun x hx => ⟨(ha x hx).1, (ha x hx).2.2⟩, ?_, ?_⟩ d5
 ·simp only [fT, ak, au]
  exact ⟨fun y hy => (ha y hy).1, fun y hy => (hf y hy).1⟩
 ·have := pa.2
  have := pf.2
  simp only [jA, wtDs] at *
  omega
theorem aDO {b m : Nat} (hm : m ≤ 100) (hd : D3 u0 w (b + 18000)) (hP : ∀ ys w', ys.length = m → (∀ y ∈ ys, N8 y) → D3 u0 w' b → P (.tup ys) w') : T (fK k [.ref 1, .int (m : Nat)] w) P := by
 unfold fK kS
 rw [dM, M0]
 try simp only [zY, af, ae, reduceCtorEq]
 rw [wX (by omega) (by omega)]
 have lr : (fW 0 ((m : Nat) : Int).toNat).xs.length = m := by rw [j5]; omega
 refine ⟨lI _ (by rw [lr]; omega), ?_⟩
 refine uR (it := fW 0 ((m : Nat) : Int).toNat) (b := b) 180 N8 (fun _ => trivial) (hd.less (by rw [lr]; omega)) (fun x w' b' d' => ?_) fun ys w2 ly hy d2 => ?_
 ·try simp only [cQ, zY, af, ae, reduceCtorEq]
  refine aFv k d' fun y w3 y0 d3 => ?_
  try simp only [zY, af, ae, reduceCtorEq]
  exact ⟨y0, d3⟩
 rw [lr] at ly
 simp only [vT]
 exact hP ys w2 ly hy d2
end
theorem CW {x : Str} (h : ∀ c ∈ x.cps.toList, c ≠ 44) : cm x = 0 := HC _ 0 fun hm => h 44 hm rfl
theorem aEA {d : D} (h : iR d = true) : cm (sN d) = 0 := CW fun c hc => by have := P0 h c hc; omega
theorem aEo {c0 : Nat} {d : D} (h : iX c0 d = true) : cm (DH d) ≤ jA d := by
 obtain ⟨xs, rfl, _, hn, _⟩ := DZ h
 unfold DH
 simp only
 split
 ·rw [CW fun c hc => by rw [y3] at hc; have := bp.mp hc; omega]
  exact Nat.zero_le _
 ·show fP 0 (TL.tl (Txt.join "," (xs.map sN))) ≤ wtDs xs
  rw [sU, show TL.tl ("," : Str) = [44] from JZ]
  refine bq (aAu fun p hp => ?_) ?_
  ·obtain ⟨z, hz, rfl⟩ := cg.mp hp
   obtain ⟨y, hy, rfl⟩ := cg.mp hz
   exact aEA (hn y hy)
  ·rw [av, av]
   exact tZ
theorem aFP : jA (.str ("tear" : Str)) = 4 := by decide +kernel
theorem aIx {d : D} (h : dZ d = true) (hw : jA d ≤ 20) : cm (NG d) ≤ 13 := by
 obtain ⟨z, rest, rfl, hz, f, e, hf⟩ := sX h
 rw [e]
 refine LD (.inl U9) fun p hp => ?_
 rcases ay.mp hp with rfl | hp
 ·rw [CW fun c hc => by have := hz.ch c hc; omega]
  omega
 ·obtain ⟨x, hx, rfl⟩ := cg.mp hp
  rcases hf with ⟨ez, rfl, a, b, rfl, h1, h2⟩ | ⟨_, rfl, _, hn⟩
  ·have t4 := aFP
   rw [← ez] at t4
   have hw : (jA (.str z) + 1 + (jA a + 1 + (jA b + 1 + 0))) ≤ 20 := hw
   simp only [ay, br, df] at hx
   rcases hx with rfl | rfl
   ·have := aEo h1
    omega
   ·have := aEo h2
    omega
  ·rw [aEA (hn x hx)]
   omega
theorem aF2 : cm ("-" : Str) = 0 := CW fun c hc => by rw [y3] at hc; have := bp.mp hc; omega
theorem aFA {y : D} (h : N8 y) : cm (q9 y) ≤ 13 := by
 obtain ⟨a, f, rfl, ha, ht, _⟩ := h
 have h1 : cm (pU a) ≤ 13 := by
  unfold pU
  split
  ·rw [aF2]
   omega
  ·refine OM (c := 59) JU (by omega) fun p hp => ?_
   obtain ⟨x, hx, rfl⟩ := cg.mp hp
   exact aIx (ha x hx).1 (ha x hx).2
 have h2 : cm (Txt.join " , " (f.map pJ)) ≤ 13 := by
  refine OM (c := 44) H8 (by omega) fun p hp => ?_
  obtain ⟨x, hx, rfl⟩ := cg.mp hp
  obtain ⟨a', f', e, _, hf⟩ := BU ht
  cases e
  rw [CW fun c hc => by have := aAK (hf x hx) c hc; omega]
  omega
 unfold q9
 simp only
 split
 ·exact h1
 ·show fP 0 (TL.tl (pU a ++ " ! " ++ Txt.join " , " (f.map pJ))) ≤ 13
  rw [TL.tl_append, TL.tl_append, show TL.tl (" ! " : Str) = [32, 33, 32] from Q8, cz]
  have h3 := z9 (.inl rfl) (TL.tl (pU a)) 0 (33 :: 32 :: TL.tl (Txt.join " , " (f.map pJ)))
  have h4 : fP 0 (33 :: 32 :: TL.tl (Txt.join " , " (f.map pJ))) = max 0 (fP 0 (TL.tl (Txt.join " , " (f.map pJ)))) := by
   rw [fP, if_neg (by omega), if_neg (by omega), fP, if_pos (.inl rfl)]
  have h1 : fP 0 (TL.tl (pU a)) ≤ 13 := h1
  have h2 : fP 0 (TL.tl (Txt.join " , " (f.map pJ))) ≤ 13 := h2
  show fP 0 (TL.tl (pU a) ++ (32 :: 33 :: 32 :: TL.tl (Txt.join " , " (f.map pJ)))) ≤ 13
  omega
theorem nl1 : TL.tl ("\n" : Str) = [10] := ES
theorem aDz {ys : List D} (h : ∀ y ∈ ys, N8 y) : cm (AK (.tup ys)) ≤ 13 := by
 show cm (Txt.join "\n" (ys.map q9)) ≤ 13
 refine LD (.inr nl1) fun p hp => ?_
 obtain ⟨x, hx, rfl⟩ := cg.mp hp
 exact aFA (h x hx)
section
variable {w : W} {P : D → W → Prop}
theorem aEp {x : Str} (h : ∀ c ∈ x.cps.toList, c < 127) (hl : x.length ≤ 100000) : T (kD [.str x] w) P = P (.str (reprText x)) w := by
 have l : (reprText x).length ≤ 1000010 := by
  have := StrLaws.reprText_len x fun c hc => Nat.lt_trans (h c hc) (by decide)
  omega
 have e2 : xK (.str x) w = some (reprText x) := by
  unfold xK
  have : D.G3 (N3 8 w) (.str x) = some (.str x) := rfl
  rw [this]
  simp only []
  rw [if_pos ⟨rfl, by simp [PyData.depth], by show (reprText x).length ≤ _; rw [sizeLine_eq]; omega⟩]
  rfl
 have : kD [.str x] w = .ok (.str (reprText x)) w := by simp only [kD, e2]
 rw [this, bZ]
mutual
theorem aDc : ∀ (d : D) {q : PyData}, d.e8 (fun _ => none) = some q → ∀ f, d.G3 f = some q
 | .non, _, h, f => h
 | .bl _, _, h, f => h
 | .int _, _, h, f => h
 | .str _, _, h, f => h
 | .ty _, _, h, _ => by simp [D.e8] at h
 | .con _, _, h, _ => by simp [D.e8] at h
 | .EZ _ _, _, h, _ => by simp [D.e8] at h
 | .ref i, _, h, _ => by simp [D.e8] at h
 | .tup xs, _, h, f => by
  simp only [D.e8, aq] at h
  obtain ⟨ps, h1, rfl⟩ := h
  unfold D.G3
  rw [pysV_of xs h1 f]
  rfl
 | .vU xs, _, h, f => by
  simp only [D.e8, aq] at h
  obtain ⟨ps, h1, rfl⟩ := h
  unfold D.G3
  rw [pysV_of xs h1 f]
  rfl
 | .lst xs, _, h, f => by
  simp only [D.e8, aq] at h
  obtain ⟨ps, h1, rfl⟩ := h
  unfold D.G3
  rw [pysV_of xs h1 f]
  rfl
 | .qK xs, _, h, f => by
  simp only [D.e8, aq] at h
  obtain ⟨ps, h1, rfl⟩ := h
  unfold D.G3
  rw [pysV_of xs h1 f]
  rfl
theorem pysV_of : ∀ (ds : List D) {qs : List PyData}, D.pysR (fun _ => none) ds = some qs → ∀ f, D.pysV f ds = some qs
 | [], _, h, f => h
 | d :: ds, _, h, f => by
  simp only [D.pysR] at h
  split at h
  ·rename_i p ps e1 e2
   cases h
   unfold D.pysV
   rw [aDc d e1 f, pysV_of ds e2 f]
  ·cases h
end
theorem WQ {n d : Nat} {x : D} (h : dI n d x) (h1 : n ≤ 200000) (h2 : d ≤ 40) : ∃ z, PyData.strOk z = true ∧ ∀ (w : W) (P : D → W → Prop), T (kD [x] w) P = P (.str z) w := by
 obtain ⟨q, a, b, c, e⟩ := h.ex
 refine ⟨q.shown, E6 q b, fun w P => ?_⟩
 obtain ⟨a1, a2, a3, a4⟩ := plain_all q b
 have l := PyData.shown_le_bulk 60 (by decide) q a1
 have e2 : xK x w = some q.shown := by
  unfold xK
  rw [aDc x (a _)]
  simp only []
  rw [if_pos]
  refine ⟨a2, by omega, ?_⟩
  have := sizeLine_eq
  have : (60 + 2) * q.bulk ≤ 62 * 200000 := Nat.mul_le_mul_left _ (by omega)
  omega
 have : kD [x] w = .ok (.str q.shown) w := by simp only [kD, e2]
 rw [this, bZ]
theorem dI.aDl {n d : Nat} {x : D} (h : dI n d x) : dI (jA x) d x := by
 obtain ⟨q, h1, h2, h3, h4⟩ := h.ex
 exact ⟨q, h1, h2, by rw [aCU (fun _ => rfl) x (h1 fun _ => none)]; exact az _, h4⟩
theorem Q7 {d : D} (h : iR d = true) : dI 0 1 d := by
 obtain ⟨i, rfl, h0, h1⟩ := QX h
 exact dI.int (by omega)
theorem wG {xs : List D} (h : ∀ x ∈ xs, iR x = true) : dI (wtDs xs) 2 (.tup xs) :=
 dI.aDl (dI.tup (fG.all fun x hx => Q7 (h x hx)))
theorem BI {xs : List D} {d : Nat} (h : ∀ x ∈ xs, dI (jA x) d x) : dI (wtDs xs) (d + 1) (.tup xs) :=
 dI.aDl (dI.tup (fG.all (n := wtDs xs) fun x hx => (h x hx).mono (by have := yW hx; omega) (az _)))
theorem aBM {z : Str} (h : XT z) : dI (jA (.str z)) 1 (.str z) := by
 have l4 := h.four
 refine dI.aDl (dI.str ?_)
 have ch : ∀ c ∈ z.cps.toList, c < 127 := fun c hc => by have := (h.ch c hc).2; omega
 simp only [c9, ak, ai]
 exact ⟨⟨⟨LH ch, h.ok⟩, by
  simp only [PyData.leavesShort, au, ai]
  exact fun c hc => Nat.lt_trans (ch c hc) (by decide)⟩, by omega⟩
theorem aBm {d : D} (h : dZ d = true) : dI (jA d) 3 d := by
 obtain ⟨z, rest, rfl, hz, f, e, hf⟩ := sX h
 refine BI (d := 2) fun x hx => ?_
 rcases ay.mp hx with rfl | hx
 ·exact (aBM hz).mono (az _) (by omega)
 ·rcases hf with ⟨_, _, a, b, rfl, h1, h2⟩ | ⟨_, _, _, hn⟩
  ·simp only [ay, br, df] at hx
   rcases hx with rfl | rfl
   ·obtain ⟨xs, rfl, _, hn, _⟩ := DZ h1
    exact wG hn
   ·obtain ⟨xs, rfl, _, hn, _⟩ := DZ h2
    exact wG hn
  ·exact (Q7 (hn x hx)).mono (Nat.zero_le _) (by omega)
theorem aD4 {d : D} (h : fT d = true) : dI (jA d) 5 d := by
 obtain ⟨a, f, rfl, ha, hf⟩ := BU h
 refine BI (d := 4) fun x hx => ?_
 simp only [ay, br, df] at hx
 rcases hx with rfl | rfl
 ·exact BI (d := 3) fun y hy => aBm (ha y hy)
 ·refine (BI (d := 2) fun y hy => ?_).mono (az _) (by omega)
  obtain ⟨xs, rfl, _, hn⟩ := HL (hf y hy)
  exact wG hn
end
theorem C5 : ∀ {ns : List Int}, wtDs (ns.map D.int) = ns.length
 | [] => rfl
 | n :: ns => by
  rw [bt, wtDs, C5, bg]
  show 0 + 1 + ns.length = _
  omega
theorem aG8 {ws : List Str} : jA (gJ (f7 ws)) ≤ ws.length := by
 cases h : f7 ws with
 | none => exact Nat.zero_le _
 | some ns =>
  show wtDs (ns.map D.int) ≤ _
  rw [C5, j4 h]
  exact az _
theorem aIq {x : Str} : jA (gJ (jW x)) ≤ x.length + 1 := by
 cases h : jW x with
 | none => exact Nat.zero_le _
 | some ns =>
  show wtDs (ns.map D.int) ≤ _
  rw [C5]
  exact (K8 h).1
theorem CI {f : Str → D} {c e : Nat} : ∀ {ps : List Str}, (∀ p ∈ ps, jA (f p) + 1 ≤ c * (p.length + e)) → wtDs (ps.map f) ≤ c * (ps.map fun p => p.length + e).sum
 | [], _ => Nat.zero_le _
 | p :: ps, h => by
  have a := h p (aw ..)
  have b := CI (f := f) (c := c) (e := e) fun z hz => h z (bc p hz)
  rw [bt, bt, List.sum_cons, wtDs, Nat.mul_add]
  omega
theorem RW {e : Nat} (he : 1 ≤ e) : ∀ {ps : List Str}, ps.length ≤ (ps.map fun p => p.length + e).sum
 | [] => Nat.zero_le _
 | p :: ps => by
  have := RW he (ps := ps)
  rw [bt, List.sum_cons, bg]
  omega
theorem sp1 : (" " : Str).length = 1 := dR (congrArg List.length vY)
theorem aH0 : ("\n" : Str).length = 1 := dR (congrArg List.length ES)
theorem aML : (" ; " : Str).length = 3 := dR (congrArg List.length JU)
theorem aMX : (" , " : Str).length = 3 := dR (congrArg List.length H8)
theorem aJF {x : Str} : jA (AR x) ≤ 2 * x.length + 2 := by
 have se := nC (x := x) gG
 unfold AR
 obtain ⟨z, ws, e⟩ : ∃ z ws, Txt.split x " " = z :: ws := di (bN (x := x) gG).ne
 rw [e] at se ⊢
 rw [bt, List.sum_cons, sp1] at se
 have ls := RW (e := 1) (az _) (ps := ws)
 have wz : jA (.str z) = z.length := rfl
 unfold RS
 simp only
 split
 ·have := CI (f := fun y => gJ (jW y)) (c := 2) (e := 1) (ps := ws) fun p _ => by have := aIq (x := p); omega
  show jA (.str z) + 1 + wtDs (ws.map fun y => gJ (jW y)) ≤ _
  omega
 ·split
  ·exact Nat.zero_le _
  ·rename_i ns h
   show jA (.str z) + 1 + wtDs (ns.map D.int) ≤ _
   rw [C5, j4 h]
   omega
theorem aG7 {x : Str} : wtDs (jY x) ≤ 2 * (x.length + 3) := by
 unfold jY
 split
 ·exact Nat.zero_le _
 ·have se := nC (x := x) uQ
  rw [aML] at se
  have := CI (f := AR) (c := 2) (e := 3) (ps := Txt.split x " ; ") fun p _ => by have := aJF (x := p); omega
  rw [se] at this
  exact this
theorem aEI {x : Str} : wtDs (gP x) ≤ 1 * (x.length + 3) := by
 unfold gP
 have se := nC (x := x) yT
 rw [aMX] at se
 have := CI (f := fun y => gJ (f7 (Txt.split y " "))) (c := 1) (e := 3) (ps := Txt.split x " , ") fun p _ => by
  have h1 := aG8 (ws := Txt.split p " ")
  have h2 := (bN (x := p) gG).many
  omega
 rw [se] at this
 exact this
theorem aHf {x : Str} : jA (cY x) ≤ 3 * x.length + 11 := by
 unfold cY
 split
 ·obtain ⟨c, _⟩ := mD (x := x) tX
  have h1 := c.len
  have h2 := aG7 (x := (Txt.partition x " ! ").1)
  have h3 := aEI (x := (Txt.partition x " ! ").2.2)
  have h4 : wtDs (if (Txt.partition x " ! ").2.1 = ("" : Str) then [] else gP (Txt.partition x " ! ").2.2) ≤ x.length + 3 := by
   split
   ·exact Nat.zero_le _
   ·omega
  show wtDs (jY (Txt.partition x " ! ").1) + 1 + (wtDs (if (Txt.partition x " ! ").2.1 = ("" : Str) then [] else gP (Txt.partition x " ! ").2.2) + 1 + 0) ≤ _
  omega
 ·exact Nat.zero_le _
theorem aE5 {x : Str} : wtDs ((gD x).map cY) ≤ 12 * (x.length + 1) := by
 unfold gD
 split
 ·exact Nat.zero_le _
 ·have se := nC (x := x) pK
  rw [aH0] at se
  have := CI (f := cY) (c := 12) (e := 1) (ps := Txt.split x "\n") fun p _ => by have := aHf (x := p); omega
  rw [se] at this
  exact this
end Sx
namespace K65
open PySem PySem.Spec PyProof.Rows L2 Pc
structure Fx (S : aR) where
 k : bE
 CD : S.mg ("IndexError" : Str) = none
 BK : S.mg ("ValueError" : Str) = none
 I7 : S.mg ("all" : Str) = none
 aEM : S.mg ("bool" : Str) = none
 qT : S.mg ("enumerate" : Str) = none
 OY : S.mg ("int" : Str) = none
 bL : S.mg ("isinstance" : Str) = none
 oD : S.mg ("len" : Str) = none
 aCu : S.mg ("list" : Str) = none
 oN : S.mg ("range" : Str) = none
 LL : S.mg ("repr" : Str) = none
 aCC : S.mg ("set" : Str) = none
 I0 : S.mg ("sorted" : Str) = none
 FX : S.mg ("str" : Str) = none
 aHp : S.mg ("sum" : Str) = none
 cW : S.mg ("tuple" : Str) = none
 aHM : S.mg ("zip" : Str) = none
 tE : QG S ("AHEAD_OF_FATES" : Str) (.str (" ! " : Str))
 vE : QG S ("BETWEEN_DEEDS" : Str) (.str (" ; " : Str))
 vL : QG S ("BETWEEN_FATES" : Str) (.str (" , " : Str))
 NT : QG S ("FIGURES" : Str) (.str ("0123456789" : Str))
 OZ : QG S ("LONGEST" : Str) (.int 3)
 zG : QG S ("MOST_NUMBER" : Str) (.int 999)
 ZU : QG S ("NONE" : Str) (.str ("-" : Str))
 E8 : QG S ("OF_A_FATE" : Str) (.int 4)
 ZX : QG S ("TEAR" : Str) (.str ("tear" : Str))
 Q2 : QG S ("FORMS" : Str) (.con k.eZ)
 RM : KTab S.K S.w k.eZ cA
 wU : S.mg ("NetError" : Str) = some (.ref k.eR)
 Z8 : QG S ("NetError" : Str) (.con k.eR)
 PR : S.mg ("NoDeed" : Str) = some (.ref k.jL)
 aC4 : QG S ("NoDeed" : Str) (.con k.jL)
 N4 : S.mg ("NoFate" : Str) = some (.ref k.jH)
 aEY : QG S ("NoFate" : Str) (.con k.jH)
 OS : S.mg ("NoPlan" : Str) = some (.ref k.jC)
 aCQ : QG S ("NoPlan" : Str) (.con k.jC)
 WS : S.mg ("NoRow" : Str) = some (.ref k.mC)
 aGc : QG S ("NoRow" : Str) (.con k.mC)
 tU : S.mg ("NoText" : Str) = some (.ref k.bD)
 aC2 : QG S ("NoText" : Str) (.con k.bD)
 KH : S.mg ("TooMany" : Str) = some (.ref k.gN)
 aBI : QG S ("TooMany" : Str) (.con k.gN)
 m7 : Addr
 rA : FuncData
 wQ : FunD S.K ("_law_draw" : Str) ("_law_draw" : Str) (defArgs (top 35)) (defBody (top 35)) (defScope (top 35)) [] [] m7 rA
 b6 : S.mg ("_law_draw" : Str) = some (.ref m7)
 bT : PySem.W.keepIn S.K (.ref m7) = true
 mV : Addr
 rD : FuncData
 vW : FunD S.K ("_law_pick" : Str) ("_law_pick" : Str) (defArgs (top 36)) (defBody (top 36)) (defScope (top 36)) [] [] mV rD
 w7 : S.mg ("_law_pick" : Str) = some (.ref mV)
 uA : PySem.W.keepIn S.K (.ref mV) = true
 nF : Addr
 qW : FuncData
 w8 : FunD S.K ("_law_bent" : Str) ("_law_bent" : Str) (defArgs (top 51)) (defBody (top 51)) (defScope (top 51)) [] [] nF qW
 yC : S.mg ("_law_bent" : Str) = some (.ref nF)
 uT : PySem.W.keepIn S.K (.ref nF) = true
 nJ : Addr
 qV : FuncData
 yA : FunD S.K ("_law_deck" : Str) ("_law_deck" : Str) (defArgs (top 34)) (defBody (top 34)) (defScope (top 34)) [] [] nJ qV
 FU : S.mg ("_law_deck" : Str) = some (.ref nJ)
 BM : PySem.W.keepIn S.K (.ref nJ) = true
 iA : Addr
 lE : FuncData
 o9 : FunD S.K ("_law_classes" : Str) ("_law_classes" : Str) (defArgs (top 37)) (defBody (top 37)) (defScope (top 37)) [] [] iA lE
 wL : S.mg ("_law_classes" : Str) = some (.ref iA)
 vH : PySem.W.keepIn S.K (.ref iA) = true
 nE : Addr
 q8 : FuncData
 vX : FunD S.K ("number_in" : Str) ("number_in" : Str) (defArgs (top 27)) (defBody (top 27)) (defScope (top 27)) [] [] nE q8
 GJ : S.mg ("number_in" : Str) = some (.ref nE)
 CM : PySem.W.keepIn S.K (.ref nE) = true
 kL : Addr
 oO : FuncData
 u6 : FunD S.K ("numbers_in" : Str) ("numbers_in" : Str) (defArgs (top 28)) (defBody (top 28)) (defScope (top 28)) [] [] kL oO
 lB : S.mg ("numbers_in" : Str) = some (.ref kL)
 jN : PySem.W.keepIn S.K (.ref kL) = true
 nA : Addr
 qZ : FuncData
 v8 : FunD S.K ("listed_in" : Str) ("listed_in" : Str) (defArgs (top 29)) (defBody (top 29)) (defScope (top 29)) [] [] nA qZ
 FN : S.mg ("listed_in" : Str) = some (.ref nA)
 BN : PySem.W.keepIn S.K (.ref nA) = true
 sS : Addr
 y4 : FuncData
 EU : FunD S.K ("deed_in" : Str) ("deed_in" : Str) (defArgs (top 30)) (defBody (top 30)) (defScope (top 30)) [] [] sS y4
 OE : S.mg ("deed_in" : Str) = some (.ref sS)
 IC : PySem.W.keepIn S.K (.ref sS) = true
 pR : Addr
 t5 : FuncData
 AY : FunD S.K ("is_whole" : Str) ("is_whole" : Str) (defArgs (top 9)) (defBody (top 9)) (defScope (top 9)) [] [] pR t5
 J4 : S.mg ("is_whole" : Str) = some (.ref pR)
 FR : PySem.W.keepIn S.K (.ref pR) = true
 mX : Addr
 qQ : FuncData
 xW : FunD S.K ("is_within" : Str) ("is_within" : Str) (defArgs (top 10)) (defBody (top 10)) (defScope (top 10)) [] [] mX qQ
 GF : S.mg ("is_within" : Str) = some (.ref mX)
 CV : PySem.W.keepIn S.K (.ref mX) = true
 jK : Addr
 lX : FuncData
 rS : FunD S.K ("are_numbers" : Str) ("are_numbers" : Str) (defArgs (top 22)) (defBody (top 22)) (defScope (top 22)) [] [] jK lX
 mI : S.mg ("are_numbers" : Str) = some (.ref jK)
 kQ : PySem.W.keepIn S.K (.ref jK) = true
 sY : Addr
 y5 : FuncData
 C7 : FunD S.K ("is_fate" : Str) ("is_fate" : Str) (defArgs (top 25)) (defBody (top 25)) (defScope (top 25)) [] [] sY y5
 PZ : S.mg ("is_fate" : Str) = some (.ref sY)
 L4 : PySem.W.keepIn S.K (.ref sY) = true
 mZ : Addr
 rG : FuncData
 wK : FunD S.K ("is_rising" : Str) ("is_rising" : Str) (defArgs (top 23)) (defBody (top 23)) (defScope (top 23)) [] [] mZ rG
 wW : S.mg ("is_rising" : Str) = some (.ref mZ)
 uN : PySem.W.keepIn S.K (.ref mZ) = true
 tW : Addr
 yM : FuncData
 D4 : FunD S.K ("is_form" : Str) ("is_form" : Str) (defArgs (top 24)) (defBody (top 24)) (defScope (top 24)) [] [] tW yM
 NU : S.mg ("is_form" : Str) = some (.ref tW)
 J6 : PySem.W.keepIn S.K (.ref tW) = true
 sR : Addr
 yY : FuncData
 C9 : FunD S.K ("is_turn" : Str) ("is_turn" : Str) (defArgs (top 26)) (defBody (top 26)) (defScope (top 26)) [] [] sR yY
 O9 : S.mg ("is_turn" : Str) = some (.ref sR)
 JY : PySem.W.keepIn S.K (.ref sR) = true
 tD : Addr
 yS : FuncData
 DD : FunD S.K ("turn_in" : Str) ("turn_in" : Str) (defArgs (top 31)) (defBody (top 31)) (defScope (top 31)) [] [] tD yS
 N5 : S.mg ("turn_in" : Str) = some (.ref tD)
 IF : PySem.W.keepIn S.K (.ref tD) = true
 kP : Addr
 oT : FuncData
 uD : FunD S.K ("read_story" : Str) ("read_story" : Str) (defArgs (top 32)) (defBody (top 32)) (defScope (top 32)) [] [] kP oT
 BS : S.mg ("read_story" : Str) = some (.ref kP)
 zR : PySem.W.keepIn S.K (.ref kP) = true
 kF : Addr
 oR : FuncData
 t8 : FunD S.K ("_law_heard" : Str) ("_law_heard" : Str) (defArgs (top 52)) (defBody (top 52)) (defScope (top 52)) [] [] kF oR
 BH : S.mg ("_law_heard" : Str) = some (.ref kF)
 zF : PySem.W.keepIn S.K (.ref kF) = true
 iD : Addr
 kT : FuncData
 pL : FunD S.K ("_law_figures" : Str) ("_law_figures" : Str) (defArgs (top 46)) (defBody (top 46)) (defScope (top 46)) [] [] iD kT
 kH : S.mg ("_law_figures" : Str) = some (.ref iD)
 jU : PySem.W.keepIn S.K (.ref iD) = true
 jJ : Addr
 lZ : FuncData
 rL : FunD S.K ("_law_lot_in" : Str) ("_law_lot_in" : Str) (defArgs (top 47)) (defBody (top 47)) (defScope (top 47)) [] [] jJ lZ
 zQ : S.mg ("_law_lot_in" : Str) = some (.ref jJ)
 xV : PySem.W.keepIn S.K (.ref jJ) = true
 jG : Addr
 mQ : FuncData
 rO : FunD S.K ("_law_act_in" : Str) ("_law_act_in" : Str) (defArgs (top 48)) (defBody (top 48)) (defScope (top 48)) [] [] jG mQ
 zS : S.mg ("_law_act_in" : Str) = some (.ref jG)
 yE : PySem.W.keepIn S.K (.ref jG) = true
 iG : Addr
 kJ : FuncData
 qH : FunD S.K ("_law_turn_in" : Str) ("_law_turn_in" : Str) (defArgs (top 49)) (defBody (top 49)) (defScope (top 49)) [] [] iG kJ
 wN : S.mg ("_law_turn_in" : Str) = some (.ref iG)
 vA : PySem.W.keepIn S.K (.ref iG) = true
 gI : Addr
 jT : FuncData
 nZ : FunD S.K ("_law_story_in" : Str) ("_law_story_in" : Str) (defArgs (top 50)) (defBody (top 50)) (defScope (top 50)) [] [] gI jT
 vO : S.mg ("_law_story_in" : Str) = some (.ref gI)
 tN : PySem.W.keepIn S.K (.ref gI) = true
 kR : Addr
 oJ : FuncData
 uC : FunD S.K ("_law_right" : Str) ("_law_right" : Str) (defArgs (top 53)) (defBody (top 53)) (defScope (top 53)) [] [] kR oJ
 oM : S.mg ("_law_right" : Str) = some (.ref kR)
 mN : PySem.W.keepIn S.K (.ref kR) = true
 jE : Addr
 lY : FuncData
 rN : FunD S.K ("_law_number" : Str) ("_law_number" : Str) (defArgs (top 38)) (defBody (top 38)) (defScope (top 38)) [] [] jE lY
 mB : S.mg ("_law_number" : Str) = some (.ref jE)
 kM : PySem.W.keepIn S.K (.ref jE) = true
 qE : Addr
 uG : FuncData
 zX : FunD S.K ("_law_lot" : Str) ("_law_lot" : Str) (defArgs (top 39)) (defBody (top 39)) (defScope (top 39)) [] [] qE uG
 AO : S.mg ("_law_lot" : Str) = some (.ref qE)
 v5 : PySem.W.keepIn S.K (.ref qE) = true
 pP : Addr
 uE : FuncData
 AW : FunD S.K ("_law_act" : Str) ("_law_act" : Str) (defArgs (top 40)) (defBody (top 40)) (defScope (top 40)) [] [] pP uE
 LZ : S.mg ("_law_act" : Str) = some (.ref pP)
 FW : PySem.W.keepIn S.K (.ref pP) = true
 mU : Addr
 qS : FuncData
 xC : FunD S.K ("_law_turn" : Str) ("_law_turn" : Str) (defArgs (top 41)) (defBody (top 41)) (defScope (top 41)) [] [] mU qS
 GB : S.mg ("_law_turn" : Str) = some (.ref mU)
 CT : PySem.W.keepIn S.K (.ref mU) = true
 kI : Addr
 oH : FuncData
 u3 : FunD S.K ("_law_story" : Str) ("_law_story" : Str) (defArgs (top 42)) (defBody (top 42)) (defScope (top 42)) [] [] kI oH
 BX : S.mg ("_law_story" : Str) = some (.ref kI)
 zN : PySem.W.keepIn S.K (.ref kI) = true
 gH : Addr
 jQ : FuncData
 nS : FunD S.K ("_law_act_text" : Str) ("_law_act_text" : Str) (defArgs (top 43)) (defBody (top 43)) (defScope (top 43)) [] [] gH jQ
 vD : S.mg ("_law_act_text" : Str) = some (.ref gH)
 tH : PySem.W.keepIn S.K (.ref gH) = true
 fY : Addr
 iW : FuncData
 lL : FunD S.K ("_law_turn_text" : Str) ("_law_turn_text" : Str) (defArgs (top 44)) (defBody (top 44)) (defScope (top 44)) [] [] fY iW
 tT : S.mg ("_law_turn_text" : Str) = some (.ref fY)
 q0 : PySem.W.keepIn S.K (.ref fY) = true
 fH : Addr
 gW : FuncData
 kX : FunD S.K ("_law_story_text" : Str) ("_law_story_text" : Str) (defArgs (top 45)) (defBody (top 45)) (defScope (top 45)) [] [] fH gW
 rH : S.mg ("_law_story_text" : Str) = some (.ref fH)
 pF : PySem.W.keepIn S.K (.ref fH) = true
 PM : Addr
 aAZ : FuncData
 aHN : FunD S.K ("law" : Str) ("law" : Str) (defArgs (top 54)) (defBody (top 54)) (defScope (top 54)) [] [] PM aAZ
 aHz : S.mg ("law" : Str) = some (.ref PM)
 aJf : PySem.W.keepIn S.K (.ref PM) = true
 mP : Addr
 mO : FuncData
 sP : FunD S.K ("__init__" : Str) ("NoText.__init__" : Str) (defArgs (inClass (top 3) 0)) (defBody (inClass (top 3) 0)) (defScope (inClass (top 3) 0)) [] [] mP mO
 wJ : ExF S.K k.bD k.eR mP ("line" : Str)
 vP : PySem.W.exmOne S.K (.ref k.bD) (.ref k.bD) = some true
 OJ : PySem.W.XcC S.K k.bD
 oC : PySem.W.kitOne S.K (.ref k.bD) (.type "IndexError") = some false
 qO : PySem.W.kitOne S.K (.ref k.bD) (.ref k.eR) = some true
 u9 : PySem.W.kitOne S.K (.ref k.bD) (.ref k.jL) = some false
 u7 : PySem.W.kitOne S.K (.ref k.bD) (.ref k.jH) = some false
 vI : PySem.W.kitOne S.K (.ref k.bD) (.ref k.jC) = some false
 xI : PySem.W.kitOne S.K (.ref k.bD) (.ref k.mC) = some false
 vF : PySem.W.kitOne S.K (.ref k.bD) (.ref k.bD) = some true
 sT : PySem.W.kitOne S.K (.ref k.bD) (.ref k.gN) = some false
 oE : PySem.W.kitOne S.K (.ref k.bD) (.type "ValueError") = some true
 GV : Dis k
 aEE : Q0 S.K
theorem PV {S : aR} (h : Fx S) : FnOk S.P S.w S.K S.mg S.base CXn 1 h.mP h.mO [("self" : Str), ("line" : Str)] (spX h.k.bD ("line" : Str)) := aFo h.wJ h.sP (bM (by decide +kernel)) rfl rfl h.wU rfl (.inl rfl) (.inl rfl) rfl rfl (fun _ => rfl) (fun _ => rfl) (fun _ => rfl)
theorem OF {S : aR} (h : Fx S) : Binds S.K h.mO [("self" : Str), ("line" : Str)] [] := aEf (L2.FunD.bindsA h.sP fun _ _ _ _ _ _ us hl => match us, hl with
 | [_, _], _ => rfl)
def DW (k : bE) : List (Addr × Bool) := [(k.bD, true)]
theorem YN {S : aR} (h : Fx S) : aDR S.K h.k.bD (DW h.k) := (aFJ h.vP aIE)
def hU (k : bE) : List Addr := [k.bD]
theorem GL {S : aR} (h : Fx S) : aEr S.K (hU h.k) ("line" : Str) := (aGN h.wJ aIM)
def L9 (k : bE) : KxT := kxT [(k.bD, [(.b "IndexError", false), (.o k.eR, true), (.o k.jL, false), (.o k.jH, false), (.o k.jC, false), (.o k.mC, false), (.o k.bD, true), (.o k.gN, false), (.b "ValueError", true)])]
theorem kxo {S : aR} (h : Fx S) : ZJ S.K (L9 h.k) := (aGC h.OJ (oP h.oC (oP h.qO (oP h.u9 (oP h.u7 (oP h.vI (oP h.xI (oP h.vF (oP h.sT (oP h.oE aH6))))))))) aIp)
def x7 : List Str := [("_law_deck_here" : Str), ("_law_bound" : Str), ("_law_at" : Str), ("_law_cells" : Str), ("_law_seed" : Str), ("_law_number_here" : Str)]
def wM : List Str := [("_law_deck_here" : Str), ("_law_bound" : Str)]
abbrev EY : Scope := defScope (top 35)
def GA (k : bE) : MS :=
 (aJ (aO (aE a9 (aE aY (aB 0) (eC (.str ("at" : Str)))) (eC (.int 1))) (eM (aB 0) (eC (.str ("at" : Str)))))
 (aJ (aO (aE aY (aB 0) (eC (.str ("at" : Str)))) (aQ 2))
 (aJ (aO (aE aY (aB 0) (eC (.str ("cells" : Str)))) (aQ 3))
 (aJ (aO (aE a9 (aE aY (aB 0) (eC (.str ("sum" : Str)))) (aB 2)) (aQ 4))
 (aJ (dH (aV (aE oX (aB 3) (dQ aD))) (aJ (aO (bB "list" DY (aB 3) (aA (eC (.int 0)) aD)) (aQ 4))
 (dH (aV (aE geM (aB 4) (aE IU (eC (.int 10)) (eC (.int 18))))) (aJ (cR (bB "list" yX (aB 3) (aA (eC (.int 0)) (aA (aE zD (aB 4) (aB 1)) aD))))
 (aU (aE lH (aB 4) (aB 1)))) aZ)) aZ)
 (aJ (aO (aE lH (aE a9 (aE a9 (aE mulM (aE lH (aB 4) (eC (.int 2147483647))) (eC (.int 48271))) (aE mulM (aE mulM (eC (.int 69621)) (aB 2)) (aB 2))) (eC (.int 7919))) (eC (.int 2147483629))) (aQ 5))
 (aJ (aO (aE lH (aE mulM (aB 5) (aB 5)) (eC (.int 2147483587))) (aQ 5))
 (aU (aE lH (aE zD (aE lH (aE mulM (aB 5) (aE a9 (aB 5) (eC (.int 39373)))) (eC (.int 2147483563))) (eC (.int 64))) (aB 1))))))))))
def bR (k : bE) : MF := bF (GA k) x7
theorem R1 : FnScope x7 wM EY := bM (by decide +kernel)
theorem R0 {S : aR} (h : Fx S) : sH (S.body 0 x7 EY) (defBody (top 35)) (GA h.k) :=
 (aL (EF (aT bG (fN (jv 0) aK) aN) (aJT (jv 0) aK))
 (aL (mG 2 (fN (jv 0) aK))
 (aL (mG 3 (fN (jv 0) aK))
 (aL (mG 4 (aT bG (fN (jv 0) aK) (jv 2)))
 (aL (hY (bY vC (jv 3) (cX aF)) (aL (mG 4 (bU PySem.F.plainAttrs_list PySem.F.slot_list_pop aCF (jv 3) (aC aN aF)))
 (aX (hY (bY aKJ (jv 4) (aT aEa aN aN)) (aL (yU (bU PySem.F.plainAttrs_list PySem.F.slot_list_insert aBN (jv 3) (aC aN (aC (aT aAz (jv 4) (jv 1)) aF))))
 (aX (bP (aT AN (jv 4) (jv 1))))) dC))) dC)
 (aL (mG 5 (aT AN (aT bG (aT bG (aT AI (aT AN (jv 4) aN) aN) (aT AI (aT AI aN (jv 2)) (jv 2))) aN) aN))
 (aL (mG 5 (aT AN (aT AI (jv 5) (jv 5)) aN))
 (aX (bP (aT AN (aT aAz (aT AN (aT AI (jv 5) (aT bG (jv 5) aN)) aN) aN) (jv 1)))))))))))
theorem bW {S : aR} (h : Fx S) : fZ S.P S.w S.K S.mg S.base 1 h.m7 h.rA wM (bR h.k) := fZ.of h.wQ R1 (R0 h) fun _ _ _ => .iM
theorem bX {S : aR} (h : Fx S) : dN S.K h.rA wM 2 [] aM := bI h.wQ fun _ _ _ _ _ _ us hl => match us, hl with
 | [_, _], _ => rfl
def wI : List Str := [("_law_deck_here" : Str), ("_law_some" : Str)]
def xM : List Str := [("_law_deck_here" : Str), ("_law_some" : Str)]
abbrev FC : Scope := defScope (top 36)
def FF (k : bE) : MS :=
 (aU (aE aY (aB 1) (aH (bR k) 2 aM (aA (aB 0) (aA (aP cZ (aA (aB 1) aD)) aD)))))
def m6 (k : bE) : MF := bF (FF k) wI
theorem QY : FnScope wI xM FC := bM (by decide +kernel)
theorem P6 {S : aR} (h : Fx S) : sH (S.body 1 wI FC) (defBody (top 36)) (FF h.k) :=
 (aX (bP (fN (jv 1) (aW (ao rfl) (bW h) (bX h) rfl h.b6 h.bT (aC (jv 0) (aC (bJ jV rfl h.oD rfl (aC (jv 1) aF)) aF))))))
theorem BY {S : aR} (h : Fx S) : fZ S.P S.w S.K S.mg S.base 2 h.mV h.rD xM (m6 h.k) := fZ.of h.vW QY (P6 h) fun _ _ _ => .iM
theorem BG {S : aR} (h : Fx S) : dN S.K h.rD xM 2 [] aM := bI h.vW fun _ _ _ _ _ _ us hl => match us, hl with
 | [_, _], _ => rfl
def rF : List Str := [("_law_deck_here" : Str), ("_law_text_told" : Str), ("_law_other" : Str), ("_law_way" : Str), ("_law_spot" : Str), ("_law_sign" : Str), ("_law_lines" : Str), ("_law_k" : Str), ("_law_words" : Str), ("_law_j" : Str), ("_law_odd" : Str), ("_law_more" : Str), ("_law_found" : Str), ("_law_others" : Str)]
def xS : List Str := [("_law_deck_here" : Str), ("_law_text_told" : Str), ("_law_other" : Str)]
abbrev E1 : Scope := defScope (top 51)
def wV (k : bE) : MS :=
 (aJ (aO (aH (bR k) 2 aM (aA (aB 0) (aA (eC (.int 9)) aD))) (aQ 3))
 (aJ (aO (aH (bR k) 2 aM (aA (aB 0) (aA (aE a9 (aP cZ (aA (aB 1) aD)) (eC (.int 1))) aD))) (aQ 4))
 (aJ (dH (aV (aE TV (aB 3) (eC (.int 3)))) (aJ (aO (aE aY (eC (.str ("0123456789 \n-;!,aforst" : Str))) (aH (bR k) 2 aM (aA (aB 0) (aA (eC (.int 22)) aD)))) (aQ 5))
 (aU (bB "str" joinM (eC (.str ("" : Str))) (aA (dQ (aA (iU fO (aB 1) bS (bK (aB 4))) (aA (aE aY (dQ (aA (eC (.str ("" : Str))) (aA (aB 5) (aA (aB 5) aD)))) (aB 3)) (aA (iU fO (aB 1) (bK (aE a9 (aB 4) (aP MY (aA (aE oX (aB 3) (eC (.int 1))) aD)))) bS) aD)))) aD)))) aZ)
 (aJ (aO (bB "str" splitM (aB 1) (aA (eC (.str ("\n" : Str))) aD)) (aQ 6))
 (aJ (aO (aH (bR k) 2 aM (aA (aB 0) (aA (aP cZ (aA (aB 6) aD)) aD))) (aQ 7))
 (aJ (dH (aV (aE TV (aB 3) (eC (.int 7)))) (aJ (aO (bB "str" splitM (aE aY (aB 6) (aB 7)) (aA (eC (.str (" " : Str))) aD)) (aQ 8))
 (aJ (aO (aH (bR k) 2 aM (aA (aB 0) (aA (aP cZ (aA (aB 8) aD)) aD))) (aQ 9))
 (aJ (aO (dQ (aA (eC (.str ("0" : Str))) (aA (eC (.str ("00" : Str))) (aA (eC (.str ("01" : Str))) (aA (eC (.str ("1000" : Str))) (aA (eC (.str ("999" : Str))) (aA (eC (.str ("-1" : Str))) (aA (eC (.str ("-" : Str))) (aA (eC (.str ("" : Str))) (aA (eC (.str (";" : Str))) (aA (eC (.str ("!" : Str))) (aA (eC (.str ("," : Str))) (aA (eC (.str ("fall" : Str))) (aA (eC (.str ("heal" : Str))) (aA (eC (.str ("tear" : Str))) (aA (eC (.str ("0,1" : Str))) (aA (eC (.str ("1,0" : Str))) aD))))))))))))))))) (aQ 10))
 (aJ (aO (eNew (aA (aE a9 (iU fO (aB 8) bS (bK (aB 9))) (iU fO (aB 8) (bK (aE a9 (aB 9) (eC (.int 1)))) bS)) (aA (aE a9 (iU fO (aB 8) bS (bK (aE a9 (aB 9) (eC (.int 1))))) (iU fO (aB 8) (bK (aB 9)) bS)) aD))) (aQ 11))
 (aJ (cR (bB "list" cJ (aB 11) (aA (aE a9 (aE a9 (iU fO (aB 8) bS (bK (aB 9))) (AZ VU (iU fO (aB 8) (bK (aB 9)) (bK (aE a9 (aB 9) (eC (.int 2))))))) (iU fO (aB 8) (bK (aE a9 (aB 9) (eC (.int 2)))) bS)) aD)))
 (aJ (cR (bB "list" cJ (aB 11) (aA (aE a9 (aE a9 (iU fO (aB 8) bS (bK (aB 9))) (dQ (aA (aH (m6 k) 2 aM (aA (aB 0) (aA (aB 10) aD))) aD))) (iU fO (aB 8) (bK (aE a9 (aB 9) (eC (.int 1)))) bS)) aD)))
 (aJ (aO (aE aY (aB 11) (aH (bR k) 2 aM (aA (aB 0) (aA (eC (.int 4)) aD)))) (aQ 12))
 (aU (bB "str" joinM (eC (.str ("\n" : Str))) (aA (aE a9 (aE a9 (iU fO (aB 6) bS (bK (aB 7))) (dQ (aA (bB "str" joinM (eC (.str (" " : Str))) (aA (aB 12) aD)) aD))) (iU fO (aB 6) (bK (aE a9 (aB 7) (eC (.int 1)))) bS)) aD)))))))))) aZ)
 (aJ (aO (bB "str" splitM (aB 2) (aA (eC (.str ("\n" : Str))) aD)) (aQ 13))
 (aJ (aO (dQ (aA (aE a9 (iU fO (aB 6) bS (bK (aB 7))) (iU fO (aB 6) (bK (aE a9 (aB 7) (eC (.int 1)))) bS)) (aA (aE a9 (iU fO (aB 6) bS (bK (aE a9 (aB 7) (eC (.int 1))))) (iU fO (aB 6) (bK (aB 7)) bS)) (aA (aE a9 (aE a9 (iU fO (aB 6) bS (bK (aB 7))) (AZ VU (iU fO (aB 6) (bK (aB 7)) (bK (aE a9 (aB 7) (eC (.int 2))))))) (iU fO (aB 6) (bK (aE a9 (aB 7) (eC (.int 2)))) bS)) aD)))) (aQ 11))
 (aU (bB "str" joinM (eC (.str ("\n" : Str))) (aA (aE aY (aE a9 (aB 11) (dQ (aA (aE a9 (iU fO (aB 6) bS (bK (aB 7))) (iU fO (aB 13) (bK (aB 7)) bS)) (aA (aE a9 (aE a9 (iU fO (aB 6) bS (bK (aB 7))) (dQ (aA (eC (.str ("" : Str))) aD))) (iU fO (aB 6) (bK (aB 7)) bS)) aD)))) (aH (bR k) 2 aM (aA (aB 0) (aA (eC (.int 5)) aD)))) aD)))))))))))
def iF (k : bE) : MF := bF (wV k) rF
theorem Q9 : FnScope rF xS E1 := bM (by decide +kernel)
theorem R8 {S : aR} (h : Fx S) : sH (S.body 2 rF E1) (defBody (top 51)) (wV h.k) :=
 (aL (mG 3 (aW (ao rfl) (bW h) (bX h) rfl h.b6 h.bT (aC (jv 0) (aC aN aF))))
 (aL (mG 4 (aW (ao rfl) (bW h) (bX h) rfl h.b6 h.bT (aC (jv 0) (aC (aT bG (bJ jV rfl h.oD rfl (aC (jv 1) aF)) aN) aF))))
 (aL (hY (bY aBc (jv 3) aN) (aL (mG 5 (fN aK (aW (ao rfl) (bW h) (bX h) rfl h.b6 h.bT (aC (jv 0) (aC aN aF)))))
 (aX (bP (bU PySem.F.plainAttrs_str PySem.F.slot_str_join l9 aK (aC (cX (aC (eU eY (jv 1) cO (b7 (jv 4))) (aC (fN (cX (aC aK (aC (jv 5) (aC (jv 5) aF)))) (jv 3)) (aC (eU eY (jv 1) (b7 (aT bG (jv 4) (b8 aIX rfl h.OY rfl (aC (pZ vC (jv 3) aN) aF)))) cO) aF)))) aF))))) dC)
 (aL (mG 6 (bU PySem.F.plainAttrs_str PySem.F.slot_str_split eW (jv 1) (aC aK aF)))
 (aL (mG 7 (aW (ao rfl) (bW h) (bX h) rfl h.b6 h.bT (aC (jv 0) (aC (bJ jV rfl h.oD rfl (aC (jv 6) aF)) aF))))
 (aL (hY (bY aBc (jv 3) aN) (aL (mG 8 (bU PySem.F.plainAttrs_str PySem.F.slot_str_split eW (fN (jv 6) (jv 7)) (aC aK aF)))
 (aL (mG 9 (aW (ao rfl) (bW h) (bX h) rfl h.b6 h.bT (aC (jv 0) (aC (bJ jV rfl h.oD rfl (aC (jv 8) aF)) aF))))
 (aL (mG 10 (cX (aC aK (aC aK (aC aK (aC aK (aC aK (aC aK (aC aK (aC aK (aC aK (aC aK (aC aK (aC aK (aC aK (aC aK (aC aK (aC aK aF))))))))))))))))))
 (aL (mG 11 (RC (aC (aT bG (eU eY (jv 8) cO (b7 (jv 9))) (eU eY (jv 8) (b7 (aT bG (jv 9) aN)) cO)) (aC (aT bG (eU eY (jv 8) cO (b7 (aT bG (jv 9) aN))) (eU eY (jv 8) (b7 (jv 9)) cO)) aF))))
 (aL (yU (bU PySem.F.plainAttrs_list PySem.F.slot_list_append sZ (jv 11) (aC (aT bG (aT bG (eU eY (jv 8) cO (b7 (jv 9))) (aD7 (eU eY (jv 8) (b7 (jv 9)) (b7 (aT bG (jv 9) aN))))) (eU eY (jv 8) (b7 (aT bG (jv 9) aN)) cO)) aF)))
 (aL (yU (bU PySem.F.plainAttrs_list PySem.F.slot_list_append sZ (jv 11) (aC (aT bG (aT bG (eU eY (jv 8) cO (b7 (jv 9))) (cX (aC (aW (ao rfl) (BY h) (BG h) rfl h.w7 h.uA (aC (jv 0) (aC (jv 10) aF))) aF))) (eU eY (jv 8) (b7 (aT bG (jv 9) aN)) cO)) aF)))
 (aL (mG 12 (fN (jv 11) (aW (ao rfl) (bW h) (bX h) rfl h.b6 h.bT (aC (jv 0) (aC aN aF)))))
 (aX (bP (bU PySem.F.plainAttrs_str PySem.F.slot_str_join l9 aK (aC (aT bG (aT bG (eU eY (jv 6) cO (b7 (jv 7))) (cX (aC (bU PySem.F.plainAttrs_str PySem.F.slot_str_join l9 aK (aC (jv 12) aF)) aF))) (eU eY (jv 6) (b7 (aT bG (jv 7) aN)) cO)) aF))))))))))) dC)
 (aL (mG 13 (bU PySem.F.plainAttrs_str PySem.F.slot_str_split eW (jv 2) (aC aK aF)))
 (aL (mG 11 (cX (aC (aT bG (eU eY (jv 6) cO (b7 (jv 7))) (eU eY (jv 6) (b7 (aT bG (jv 7) aN)) cO)) (aC (aT bG (eU eY (jv 6) cO (b7 (aT bG (jv 7) aN))) (eU eY (jv 6) (b7 (jv 7)) cO)) (aC (aT bG (aT bG (eU eY (jv 6) cO (b7 (jv 7))) (aD7 (eU eY (jv 6) (b7 (jv 7)) (b7 (aT bG (jv 7) aN))))) (eU eY (jv 6) (b7 (aT bG (jv 7) aN)) cO)) aF)))))
 (aX (bP (bU PySem.F.plainAttrs_str PySem.F.slot_str_join l9 aK (aC (fN (aT bG (jv 11) (cX (aC (aT bG (eU eY (jv 6) cO (b7 (jv 7))) (eU eY (jv 13) (b7 (jv 7)) cO)) (aC (aT bG (aT bG (eU eY (jv 6) cO (b7 (jv 7))) (cX (aC aK aF))) (eU eY (jv 6) (b7 (jv 7)) cO)) aF)))) (aW (ao rfl) (bW h) (bX h) rfl h.b6 h.bT (aC (jv 0) (aC aN aF)))) aF))))))))))))
theorem CH {S : aR} (h : Fx S) : fZ S.P S.w S.K S.mg S.base 3 h.nF h.qW xS (iF h.k) := fZ.of h.w8 Q9 (R8 h) fun _ _ _ => .iM
theorem CY {S : aR} (h : Fx S) : dN S.K h.qW xS 3 [] aM := bI h.w8 fun _ _ _ _ _ _ us hl => match us, hl with
 | [_, _, _], _ => rfl
def xD : List Str := [("_law_script" : Str), ("_law_cells" : Str)]
def x9 : List Str := [("_law_script" : Str)]
abbrev FQ : Scope := defScope (top 34)
def E9 (k : bE) : MS :=
 (aJ (aO (aP HV (aA (iU fO (aB 0) bS (bK (eC (.int 63)))) aD)) (aQ 1))
 (aU (U6 (hX (eC (.str ("cells" : Str))) (aB 1) (hX (eC (.str ("at" : Str))) (eC (.int 0)) (hX (eC (.str ("sum" : Str))) (aE a9 (aE lH (aP XN (aA (aB 1) aD)) (eC (.int 2147483629))) (aE mulM (eC (.int 17)) (aP cZ (aA (aB 1) aD)))) aAl))))))
def wY (k : bE) : MF := bF (E9 k) xD
theorem RT : FnScope xD x9 FQ := bM (by decide +kernel)
theorem QO {S : aR} (h : Fx S) : sH (S.body 0 xD FQ) (defBody (top 34)) (E9 h.k) :=
 (aL (mG 1 (b8 aDG rfl h.aCu rfl (aC (eU eY (jv 0) cO (b7 aN)) aF)))
 (aX (bP (XQ (gZ aK (jv 1) (gZ aK aN (gZ aK (aT bG (aT AN (bJ aI2 rfl h.aHp rfl (aC (jv 1) aF)) aN) (aT AI aN (bJ jV rfl h.oD rfl (aC (jv 1) aF)))) YZ)))))))
theorem R7 {S : aR} (h : Fx S) : fZ S.P S.w S.K S.mg S.base 1 h.nJ h.qV x9 (wY h.k) := fZ.of h.yA RT (QO h) fun _ _ _ => .iM
theorem P8 {S : aR} (h : Fx S) : dN S.K h.qV x9 1 [] aM := bI h.yA fun _ _ _ _ _ _ us hl => match us, hl with
 | [_], _ => rfl
def kK : List Str := [("_law_e" : Str), ("_law_some" : Str)]
def qA : List Str := [("_law_e" : Str)]
abbrev wC : Scope := defScope (top 37)
def qC (k : bE) : XD → MS := fun x =>
 (aJ (aO (dQ (aA (GZ (L9 k) (eC (.con k.jC)) x) (aA (GZ (L9 k) (eC (.con k.bD)) x) (aA (GZ (L9 k) (eC (.con k.jL)) x) (aA (GZ (L9 k) (eC (.con k.jH)) x) aD))))) (aQ 1)) (aJ (aO (aE LP (aB 1) (dQ (aA (GZ (L9 k) (eC (.con k.gN)) x) (aA (GZ (L9 k) (eC (.con k.mC)) x) aD)))) (aQ 1)) (aU (aE LP (aB 1) (dQ (aA (GZ (L9 k) (eC (.con k.eR)) x) (aA (GZ (L9 k) (eC (.ty "ValueError")) x) (aA (GZ (L9 k) (eC (.ty "IndexError")) x) aD))))))))
def kZ (k : bE) : XD → W → Res D := YL (qC k) kK
theorem GU : FnScope kK qA wC := bM (by decide +kernel)
theorem GX {S : aR} (h : Fx S) : aBX (S.body 0 kK wC) 0 (defBody (top 37)) (qC h.k) :=
 (OD (SF (j := 1) (QL (hZ (uX (kxo h) rfl h.bL rfl (Or.inl rfl) (t7 rfl h.OS)) (hZ (uX (kxo h) rfl h.bL rfl (Or.inl rfl) (t7 rfl h.tU)) (hZ (uX (kxo h) rfl h.bL rfl (Or.inl rfl) (t7 rfl h.PR)) (hZ (uX (kxo h) rfl h.bL rfl (Or.inl rfl) (t7 rfl h.N4)) HK)))))) (OD (SF (j := 1) (aAV OC (aAE 1) (QL (hZ (uX (kxo h) rfl h.bL rfl (Or.inl rfl) (t7 rfl h.KH)) (hZ (uX (kxo h) rfl h.bL rfl (Or.inl rfl) (t7 rfl h.WS)) HK))))) (VL (aGG (aAV OC (aAE 1) (QL (hZ (uX (kxo h) rfl h.bL rfl (Or.inl rfl) (t7 rfl h.wU)) (hZ (uX (kxo h) rfl h.bL rfl (Or.inl rfl) (aAL rfl h.BK rfl)) (hZ (uX (kxo h) rfl h.bL rfl (Or.inl rfl) (aAL rfl h.CD rfl)) HK)))))))))
theorem G2 {S : aR} (h : Fx S) : FnX S.P S.w S.K S.mg S.base 1 h.iA h.lE qA (kZ h.k) := FnX.of h.o9 GU (GX h) rfl fun _ _ => rfl
theorem GY {S : aR} (h : Fx S) : YA S.K h.lE qA := aBF h.o9 fun _ _ _ _ _ _ us hl => match us, hl with
 | [_], _ => rfl
def kE : List Str := [("word" : Str), ("sign" : Str)]
def xJ : List Str := [("word" : Str)]
abbrev GD : Scope := defScope (top 27)
def m8 (k : bE) : MS :=
 (aJ (dH (iB (cS (aV (eCh UE UE (eC (.int 1)) (aP cZ (aA (aB 0) aD)) (eC (.int 3))))) (cS (dS (aP allM (aA (a8 (aCe (aB 0)) [1] (aQ 1) bA (aE aD2 (aB 1) (eC (.str ("0123456789" : Str))))) aD))))) (aU (eC .non)) aZ)
 (aU (sQ (aV (aE eG (aP zT (aA (aP tM (aA (aB 0) aD)) aD)) (aB 0))) (aP tM (aA (aB 0) aD)) (eC .non))))
def j7 (k : bE) : MF := bF (m8 k) kE
theorem QA : FnScope kE xJ GD := bM (by decide +kernel)
theorem QW {S : aR} (h : Fx S) : sH (S.body 0 kE GD) (defBody (top 27)) (m8 h.k) :=
 (aL (hY (GR (zB (kW (WW OL OL aN (bJ jV rfl h.oD rfl (aC (jv 0) aF)) (tR h.OZ))) (zW (kW (eV (bJ D7 rfl h.I7 rfl (aC (dA (own := [(("sign" : Str), 1)]) (aCz (jv 0)) (by kernel_rfl) (zP 1) cM (pZ aIf (jv 1) (tR h.NT))) aF))))))) (aX (bP e9)) dC)
 (aX (bP (lF (bY gT (b8 SW rfl h.FX rfl (aC (b8 RR rfl h.OY rfl (aC (jv 0) aF)) aF)) (jv 0)) (b8 RR rfl h.OY rfl (aC (jv 0) aF)) e9))))
theorem RE {S : aR} (h : Fx S) : fZ S.P S.w S.K S.mg S.base 1 h.nE h.q8 xJ (j7 h.k) := fZ.of h.vX QA (QW h) fun _ _ _ => .iM
theorem QQ {S : aR} (h : Fx S) : dN S.K h.q8 xJ 1 [] aM := bI h.vX fun _ _ _ _ _ _ us hl => match us, hl with
 | [_], _ => rfl
def iV : List Str := [("words" : Str), ("found" : Str), ("word" : Str)]
def t6 : List Str := [("words" : Str)]
abbrev B2 : Scope := defScope (top 28)
def kU (k : bE) : MS :=
 (aJ (aO (aP cH (aA (a8 (cK (aB 0)) [2] (aQ 2) bA (aH (j7 k) 1 aM (aA (aB 2) aD))) aD)) (aQ 1))
 (aU (sQ (aV (aE L7 (eC .non) (aB 1))) (eC .non) (aB 1))))
def cG (k : bE) : MF := bF (kU k) iV
theorem MM : FnScope iV t6 B2 := bM (by decide +kernel)
theorem MR {S : aR} (h : Fx S) : sH (S.body 1 iV B2) (defBody (top 28)) (kU h.k) :=
 (aL (mG 1 (b8 dD rfl h.cW rfl (aC (dA (own := [(("word" : Str), 2)]) (fB (jv 0)) (by kernel_rfl) (zP 2) cM (aW (ao rfl) (RE h) (QQ h) rfl h.GJ h.CM (aC (jv 2) aF))) aF)))
 (aX (bP (lF (bY aEj e9 (jv 1)) e9 (jv 1)))))
theorem mF {S : aR} (h : Fx S) : fZ S.P S.w S.K S.mg S.base 2 h.kL h.oO t6 (cG h.k) := fZ.of h.u6 MM (MR h) fun _ _ _ => .iM
theorem mJ {S : aR} (h : Fx S) : dN S.K h.oO t6 1 [] aM := bI h.u6 fun _ _ _ _ _ _ us hl => match us, hl with
 | [_], _ => rfl
def jZ : List Str := [("word" : Str)]
def xX : List Str := [("word" : Str)]
abbrev FT : Scope := defScope (top 29)
def m5 (k : bE) : MS :=
 (aU (sQ (aV (aE eG (aB 0) (eC (.str ("-" : Str))))) (bH aD) (aH (cG k) 1 aM (aA (bB "str" splitM (aB 0) (aA (eC (.str ("," : Str))) aD)) aD))))
def j2 (k : bE) : MF := bF (m5 k) jZ
theorem R5 : FnScope jZ xX FT := bM (by decide +kernel)
theorem RK {S : aR} (h : Fx S) : sH (S.body 2 jZ FT) (defBody (top 29)) (m5 h.k) :=
 (aX (bP (lF (bY gT (jv 0) (tR h.ZU)) (dJ aF) (aW (ao rfl) (mF h) (mJ h) rfl h.lB h.jN (aC (bU PySem.F.plainAttrs_str PySem.F.slot_str_split eW (jv 0) (aC aK aF)) aF)))))
theorem SU {S : aR} (h : Fx S) : fZ S.P S.w S.K S.mg S.base 3 h.nA h.qZ xX (j2 h.k) := fZ.of h.v8 R5 (RK h) fun _ _ _ => .iM
theorem R6 {S : aR} (h : Fx S) : dN S.K h.qZ xX 1 [] aM := bI h.v8 fun _ _ _ _ _ _ us hl => match us, hl with
 | [_], _ => rfl
def oW : List Str := [("text" : Str), ("word" : Str), ("words" : Str), ("one" : Str)]
def EX : List Str := [("text" : Str)]
abbrev NV : Scope := defScope (top 30)
def sV (k : bE) : MS :=
 (aJ (aO (bB "str" splitM (aB 0) (aA (eC (.str (" " : Str))) aD)) (DN 1 (aI (aQ 1) (aI (aQ 2) bO))))
 (aJ (dH (aV (aE eG (aB 1) (eC (.str ("tear" : Str))))) (aU (aE a9 (bH (aA (aB 1) aD)) (aP cH (aA (a8 (cK (aB 2)) [3] (aQ 3) bA (aH (j2 k) 1 aM (aA (aB 3) aD))) aD)))) aZ)
 (aU (sQ (aV (aE DP (aH (cG k) 1 aM (aA (aB 2) aD)) (eC .non))) (aE a9 (bH (aA (aB 1) aD)) (eOr (aH (cG k) 1 aM (aA (aB 2) aD)) (bH aD))) (bH aD)))))
def lK (k : bE) : MF := bF (sV k) oW
theorem YI : FnScope oW EX NV := bM (by decide +kernel)
theorem Z5 {S : aR} (h : Fx S) : sH (S.body 3 oW NV) (defBody (top 30)) (sV h.k) :=
 (aL (EF (bU PySem.F.plainAttrs_str PySem.F.slot_str_split eW (jv 0) (aC aK aF)) (aCD (n := 1) (eI (NX 1) (VE (NX 2)))))
 (aL (hY (bY gT (jv 1) (tR h.ZX)) (aX (bP (aT bG (dJ (aC (jv 1) aF)) (b8 dD rfl h.cW rfl (aC (dA (own := [(("one" : Str), 3)]) (fB (jv 2)) (by kernel_rfl) (zP 3) cM (aW (ao rfl) (SU h) (R6 h) rfl h.FN h.BN (aC (jv 3) aF))) aF))))) dC)
 (aX (bP (lF (bY aD8 (aW (ao rfl) (mF h) (mJ h) rfl h.lB h.jN (aC (jv 2) aF)) e9) (aT bG (dJ (aC (jv 1) aF)) (aKt (aW (ao rfl) (mF h) (mJ h) rfl h.lB h.jN (aC (jv 2) aF)) (xY (dJ aF)))) (dJ aF))))))
theorem YS {S : aR} (h : Fx S) : fZ S.P S.w S.K S.mg S.base 4 h.sS h.y4 EX (lK h.k) := fZ.of h.EU YI (Z5 h) fun _ _ _ => .iM
theorem YD {S : aR} (h : Fx S) : dN S.K h.y4 EX 1 [] aM := bI h.EU fun _ _ _ _ _ _ us hl => match us, hl with
 | [_], _ => rfl
def gC : List Str := [("thing" : Str)]
def AX : List Str := [("thing" : Str)]
abbrev IQ : Scope := defScope (top 9)
def jX (k : bE) : MS :=
 (aU (iZ (aP (gQ g6) (aA (aB 0) (aA (eC (.ty "int")) aD))) (AZ notM (aP (gQ g6) (aA (aB 0) (aA (eC (.ty "bool")) aD))))))
def gB (k : bE) : MF := bF (jX k) gC
theorem UZ : FnScope gC AX IQ := bM (by decide +kernel)
theorem WT {S : aR} (h : Fx S) : sH (S.body 0 gC IQ) (defBody (top 9)) (jX h.k) :=
 (aX (bP (rR (bJ (pN lD) rfl h.bL rfl (aC (jv 0) (aC (pA rfl h.OY rfl) aF))) (xY (aH2 (bJ (pN lD) rfl h.bL rfl (aC (jv 0) (aC (pA rfl h.aEM rfl) aF))))))))
theorem VR {S : aR} (h : Fx S) : fZ S.P S.w S.K S.mg S.base 1 h.pR h.t5 AX (gB h.k) := fZ.of h.AY UZ (WT h) fun _ _ _ => .iM
theorem V7 {S : aR} (h : Fx S) : dN S.K h.t5 AX 1 [] aM := bI h.AY fun _ _ _ _ _ _ us hl => match us, hl with
 | [_], _ => rfl
def fE : List Str := [("thing" : Str), ("least" : Str), ("most" : Str)]
def wZ : List Str := [("thing" : Str), ("least" : Str), ("most" : Str)]
abbrev FO : Scope := defScope (top 10)
def hV (k : bE) : MS :=
 (aU (iZ (aH (gB k) 1 aM (aA (aB 0) aD)) (eCh UE UE (aB 1) (aB 0) (aB 2))))
def cE (k : bE) : MF := bF (hV k) fE
theorem RJ : FnScope fE wZ FO := bM (by decide +kernel)
theorem RU {S : aR} (h : Fx S) : sH (S.body 1 fE FO) (defBody (top 10)) (hV h.k) :=
 (aX (bP (rR (aW (ao rfl) (VR h) (V7 h) rfl h.J4 h.FR (aC (jv 0) aF)) (xY (aFc OL OL (jv 1) (jv 0) (jv 2))))))
theorem S0 {S : aR} (h : Fx S) : fZ S.P S.w S.K S.mg S.base 2 h.mX h.qQ wZ (cE h.k) := fZ.of h.xW RJ (RU h) fun _ _ _ => .iM
theorem QN {S : aR} (h : Fx S) : dN S.K h.qQ wZ 3 [] aM := bI h.xW fun _ _ _ _ _ _ us hl => match us, hl with
 | [_, _, _], _ => rfl
def gL : List Str := [("thing" : Str), ("one" : Str)]
def rQ : List Str := [("thing" : Str)]
abbrev zK : Scope := defScope (top 22)
def jI (k : bE) : MS :=
 (aU (aP allM (aA (a8 (cK (aB 0)) [1] (aQ 1) bA (aH (cE k) 3 aM (aA (aB 1) (aA (eC (.int 0)) (aA (eC (.int 999)) aD))))) aD)))
def cU (k : bE) : MF := bF (jI k) gL
theorem IV : FnScope gL rQ zK := bM (by decide +kernel)
theorem IG {S : aR} (h : Fx S) : sH (S.body 2 gL zK) (defBody (top 22)) (jI h.k) :=
 (aX (bP (bJ D7 rfl h.I7 rfl (aC (dA (own := [(("one" : Str), 1)]) (fB (jv 0)) (by kernel_rfl) (zP 1) cM (aW (ao rfl) (S0 h) (QN h) rfl h.GF h.CV (aC (jv 1) (aC aN (aC (tR h.zG) aF))))) aF))))
theorem qI {S : aR} (h : Fx S) : fZ S.P S.w S.K S.mg S.base 3 h.jK h.lX rQ (cU h.k) := fZ.of h.rS IV (IG h) fun _ _ _ => .iM
theorem pV {S : aR} (h : Fx S) : dN S.K h.lX rQ 1 [] aM := bI h.rS fun _ _ _ _ _ _ us hl => match us, hl with
 | [_], _ => rfl
def iQ : List Str := [("thing" : Str)]
def EN : List Str := [("thing" : Str)]
abbrev N6 : Scope := defScope (top 25)
def lP (k : bE) : MS :=
 (aU (iZ (aP (gQ g6) (aA (aB 0) (aA (eC (.ty "tuple")) aD))) (iZ (aE eG (aP cZ (aA (aB 0) aD)) (eC (.int 4))) (aH (cU k) 1 aM (aA (aB 0) aD)))))
def j8 (k : bE) : MF := bF (lP k) iQ
theorem YR : FnScope iQ EN N6 := bM (by decide +kernel)
theorem ZK {S : aR} (h : Fx S) : sH (S.body 3 iQ N6) (defBody (top 25)) (lP h.k) :=
 (aX (bP (rR (bJ (pN lD) rfl h.bL rfl (aC (jv 0) (aC (pA rfl h.cW rfl) aF))) (rR (pZ gT (bJ jV rfl h.oD rfl (aC (jv 0) aF)) (tR h.E8)) (xY (aW (ao rfl) (qI h) (pV h) rfl h.mI h.kQ (aC (jv 0) aF)))))))
theorem X8 {S : aR} (h : Fx S) : fZ S.P S.w S.K S.mg S.base 4 h.sY h.y5 EN (j8 h.k) := fZ.of h.C7 YR (ZK h) fun _ _ _ => .iM
theorem XZ {S : aR} (h : Fx S) : dN S.K h.y5 EN 1 [] aM := bI h.C7 fun _ _ _ _ _ _ us hl => match us, hl with
 | [_], _ => rfl
def j6 : List Str := [("thing" : Str), ("least" : Str), ("one" : Str), ("other" : Str)]
def yD : List Str := [("thing" : Str), ("least" : Str)]
abbrev E3 : Scope := defScope (top 23)
def mY (k : bE) : MS :=
 (aJ (dH (iB (cS (dS (aP (gQ g6) (aA (aB 0) (aA (eC (.ty "tuple")) aD))))) (iB (aV (aE TV (aP cZ (aA (aB 0) aD)) (aB 1))) (cS (dS (aH (cU k) 1 aM (aA (aB 0) aD)))))) (aU (eC (.bl false))) aZ)
 (aU (aP allM (aA (a8 (dB zsM (aA (iU fO (aB 0) bS (bK (AZ DF (eC (.int 1))))) (aA (iU fO (aB 0) (bK (eC (.int 1))) bS) aD))) [2, 3] (bV 2 (aI (aQ 2) (aI (aQ 3) bO))) bA (aE TV (aB 2) (aB 3))) aD))))
def eL (k : bE) : MF := bF (mY k) j6
theorem RD : FnScope j6 yD E3 := bM (by decide +kernel)
theorem RX {S : aR} (h : Fx S) : sH (S.body 3 j6 E3) (defBody (top 23)) (mY h.k) :=
 (aL (hY (GR (zB (kW (eV (bJ (pN lD) rfl h.bL rfl (aC (jv 0) (aC (pA rfl h.cW rfl) aF))))) (zB (bY aBc (bJ jV rfl h.oD rfl (aC (jv 0) aF)) (jv 1)) (zW (kW (eV (aW (ao rfl) (qI h) (pV h) rfl h.mI h.kQ (aC (jv 0) aF)))))))) (aX (bP xU)) dC)
 (aX (bP (bJ D7 rfl h.I7 rfl (aC (dA (own := [(("one" : Str), 2), (("other" : Str), 3)]) (aKP rfl h.aHM (aC (eU eY (jv 0) cO (b7 (aHH aDi aN))) (aC (eU eY (jv 0) (b7 aN) cO) aF))) (by kernel_rfl) (aJX (n := 2) (UQ (zP 2) (UQ (zP 3) aGe))) cM (pZ aBc (jv 2) (jv 3))) aF)))))
theorem BJ {S : aR} (h : Fx S) : fZ S.P S.w S.K S.mg S.base 4 h.mZ h.rG yD (eL h.k) := fZ.of h.wK RD (RX h) fun _ _ _ => .iM
theorem BV {S : aR} (h : Fx S) : dN S.K h.rG yD 2 [] aM := bI h.wK fun _ _ _ _ _ _ us hl => match us, hl with
 | [_, _], _ => rfl
def oV : List Str := [("thing" : Str), ("word" : Str), ("rest" : Str)]
def ER : List Str := [("thing" : Str)]
abbrev OP : Scope := defScope (top 24)
def tO (k : bE) : MS :=
 (aJ (dH (iB (cS (dS (aP (gQ g6) (aA (aB 0) (aA (eC (.ty "tuple")) aD))))) (iB (aV (aE eG (aB 0) (bH aD))) (cS (dS (aP (gQ g6) (aA (aE aY (aB 0) (eC (.int 0))) (aA (eC (.ty "str")) aD))))))) (aU (eC (.bl false))) aZ)
 (aJ (aO (aB 0) (zJ 1 (aI (aQ 1) (aI (aQ 2) bO))))
 (aJ (dH (aV (aE eG (aB 1) (eC (.str ("tear" : Str))))) (aU (iZ (aE eG (aP cZ (aA (aB 2) aD)) (eC (.int 2))) (iZ (aH (eL k) 2 aM (aA (aE aY (aB 2) (eC (.int 0))) (aA (eC (.int 1)) aD))) (aH (eL k) 2 aM (aA (aE aY (aB 2) (eC (.int 1))) (aA (eC (.int 0)) aD)))))) aZ)
 (aU (iZ (aE (V5 k.eZ cA) (aB 1) (eC (.con k.eZ))) (iZ (aE eG (aP cZ (aA (aB 2) aD)) (aE (ZL k.eZ cA) (eC (.con k.eZ)) (aB 1))) (aH (cU k) 1 aM (aA (aB 2) aD))))))))
def o7 (k : bE) : MF := bF (tO k) oV
theorem X3 : FnScope oV ER OP := bM (by decide +kernel)
theorem ZW {S : aR} (h : Fx S) : sH (S.body 4 oV OP) (defBody (top 24)) (tO h.k) :=
 (aL (hY (GR (zB (kW (eV (bJ (pN lD) rfl h.bL rfl (aC (jv 0) (aC (pA rfl h.cW rfl) aF))))) (zB (bY gT (jv 0) (dJ aF)) (zW (kW (eV (bJ (pN lD) rfl h.bL rfl (aC (fN (jv 0) aN) (aC (pA rfl h.FX rfl) aF))))))))) (aX (bP xU)) dC)
 (aL (EF (jv 0) (aGa (n := 1) (eI (NX 1) (VE (NX 2)))))
 (aL (hY (bY gT (jv 1) (tR h.ZX)) (aX (bP (rR (pZ gT (bJ jV rfl h.oD rfl (aC (jv 2) aF)) aN) (rR (aW (ao rfl) (BJ h) (BV h) rfl h.wW h.uN (aC (fN (jv 2) aN) (aC aN aF))) (xY (aW (ao rfl) (BJ h) (BV h) rfl h.wW h.uN (aC (fN (jv 2) aN) (aC aN aF)))))))) dC)
 (aX (bP (rR (pZ (aJy h.RM) (jv 1) (tR h.Q2)) (rR (pZ gT (bJ jV rfl h.oD rfl (aC (jv 2) aF)) (aJM h.RM (tR h.Q2) (jv 1))) (xY (aW (ao rfl) (qI h) (pV h) rfl h.mI h.kQ (aC (jv 2) aF))))))))))
theorem ZR {S : aR} (h : Fx S) : fZ S.P S.w S.K S.mg S.base 5 h.tW h.yM ER (o7 h.k) := fZ.of h.D4 X3 (ZW h) fun _ _ _ => .iM
theorem aAa {S : aR} (h : Fx S) : dN S.K h.yM ER 1 [] aM := bI h.D4 fun _ _ _ _ _ _ us hl => match us, hl with
 | [_], _ => rfl
def oY : List Str := [("thing" : Str), ("deeds" : Str), ("fates" : Str), ("part" : Str), ("deed" : Str), ("fate" : Str)]
def ED : List Str := [("thing" : Str)]
abbrev ON : Scope := defScope (top 26)
def tJ (k : bE) : MS :=
 (aJ (dH (iB (cS (dS (aP (gQ g6) (aA (aB 0) (aA (eC (.ty "tuple")) aD))))) (iB (aV (aE oX (aP cZ (aA (aB 0) aD)) (eC (.int 2)))) (cS (dS (aP allM (aA (a8 (cK (aB 0)) [3] (aQ 3) bA (aP (gQ g6) (aA (aB 3) (aA (eC (.ty "tuple")) aD)))) aD)))))) (aU (eC (.bl false))) aZ)
 (aJ (aO (aB 0) (bV 2 (aI (aQ 1) (aI (aQ 2) bO))))
 (aU (iZ (aP allM (aA (a8 (cK (aB 1)) [4] (aQ 4) bA (aH (o7 k) 1 aM (aA (aB 4) aD))) aD)) (aP allM (aA (a8 (cK (aB 2)) [5] (aQ 5) bA (aH (j8 k) 1 aM (aA (aB 5) aD))) aD))))))
def o4 (k : bE) : MF := bF (tJ k) oY
theorem Y3 : FnScope oY ED ON := bM (by decide +kernel)
theorem X6 {S : aR} (h : Fx S) : sH (S.body 5 oY ON) (defBody (top 26)) (tJ h.k) :=
 (aL (hY (GR (zB (kW (eV (bJ (pN lD) rfl h.bL rfl (aC (jv 0) (aC (pA rfl h.cW rfl) aF))))) (zB (bY vC (bJ jV rfl h.oD rfl (aC (jv 0) aF)) aN) (zW (kW (eV (bJ D7 rfl h.I7 rfl (aC (dA (own := [(("part" : Str), 3)]) (fB (jv 0)) (by kernel_rfl) (zP 3) cM (bJ (pN lD) rfl h.bL rfl (aC (jv 3) (aC (pA rfl h.cW rfl) aF)))) aF)))))))) (aX (bP xU)) dC)
 (aL (EF (jv 0) (DS (n := 2) (eI (NX 1) (eI (NX 2) yN))))
 (aX (bP (rR (bJ D7 rfl h.I7 rfl (aC (dA (own := [(("deed" : Str), 4)]) (fB (jv 1)) (by kernel_rfl) (zP 4) cM (aW (ao rfl) (ZR h) (aAa h) rfl h.NU h.J6 (aC (jv 4) aF))) aF)) (xY (bJ D7 rfl h.I7 rfl (aC (dA (own := [(("fate" : Str), 5)]) (fB (jv 2)) (by kernel_rfl) (zP 5) cM (aW (ao rfl) (X8 h) (XZ h) rfl h.PZ h.L4 (aC (jv 5) aF))) aF))))))))
theorem YY {S : aR} (h : Fx S) : fZ S.P S.w S.K S.mg S.base 6 h.sR h.yY ED (o4 h.k) := fZ.of h.C9 Y3 (X6 h) fun _ _ _ => .iM
theorem Z0 {S : aR} (h : Fx S) : dN S.K h.yY ED 1 [] aM := bI h.C9 fun _ _ _ _ _ _ us hl => match us, hl with
 | [_], _ => rfl
def oU : List Str := [("line" : Str), ("ahead" : Str), ("mark" : Str), ("behind" : Str), ("deeds" : Str), ("fates" : Str), ("one" : Str)]
def DC : List Str := [("line" : Str)]
abbrev N0 : Scope := defScope (top 31)
def tV (k : bE) : MS :=
 (aJ (aO (bB "str" FD (aB 0) (aA (eC (.str (" ! " : Str))) aD)) (bV 3 (aI (aQ 1) (aI (aQ 2) (aI (aQ 3) bO)))))
 (aJ (aO (sQ (aV (aE eG (aB 1) (eC (.str ("-" : Str))))) (bH aD) (aP cH (aA (a8 (cK (bB "str" splitM (aB 1) (aA (eC (.str (" ; " : Str))) aD))) [6] (aQ 6) bA (aH (lK k) 1 aM (aA (aB 6) aD))) aD))) (aQ 4))
 (aJ (aO (bH aD) (aQ 5))
 (aJ (dH (aV (aE oX (aB 2) (eC (.str ("" : Str))))) (aO (aP cH (aA (a8 (cK (bB "str" splitM (aB 3) (aA (eC (.str (" , " : Str))) aD))) [6] (aQ 6) bA (aH (cG k) 1 aM (aA (bB "str" splitM (aB 6) (aA (eC (.str (" " : Str))) aD)) aD))) aD)) (aQ 5)) aZ)
 (aU (sQ (dS (aH (o4 k) 1 aM (aA (bH (aA (aB 4) (aA (aB 5) aD))) aD))) (bH (aA (aB 4) (aA (aB 5) aD))) (eC .non)))))))
def lV (k : bE) : MF := bF (tV k) oU
theorem YM : FnScope oU DC N0 := bM (by decide +kernel)
theorem ZM {S : aR} (h : Fx S) : sH (S.body 6 oU N0) (defBody (top 31)) (tV h.k) :=
 (aL (EF (bU PySem.F.plainAttrs_str PySem.F.slot_str_partition aAW (jv 0) (aC (tR h.tE) aF)) (DS (n := 3) (eI (NX 1) (eI (NX 2) (eI (NX 3) yN)))))
 (aL (mG 4 (lF (bY gT (jv 1) (tR h.ZU)) (dJ aF) (b8 dD rfl h.cW rfl (aC (dA (own := [(("one" : Str), 6)]) (fB (bU PySem.F.plainAttrs_str PySem.F.slot_str_split eW (jv 1) (aC (tR h.vE) aF))) (by kernel_rfl) (zP 6) cM (aW (ao rfl) (YS h) (YD h) rfl h.OE h.IC (aC (jv 6) aF))) aF))))
 (aL (mG 5 (dJ aF))
 (aL (hY (bY vC (jv 2) aK) (aX (mG 5 (b8 dD rfl h.cW rfl (aC (dA (own := [(("one" : Str), 6)]) (fB (bU PySem.F.plainAttrs_str PySem.F.slot_str_split eW (jv 3) (aC (tR h.vL) aF))) (by kernel_rfl) (zP 6) cM (aW (ao rfl) (mF h) (mJ h) rfl h.lB h.jN (aC (bU PySem.F.plainAttrs_str PySem.F.slot_str_split eW (jv 6) (aC aK aF)) aF))) aF)))) dC)
 (aX (bP (lF (eV (aW (ao rfl) (YY h) (Z0 h) rfl h.O9 h.JY (aC (dJ (aC (jv 4) (aC (jv 5) aF))) aF))) (dJ (aC (jv 4) (aC (jv 5) aF))) e9)))))))
theorem Y9 {S : aR} (h : Fx S) : fZ S.P S.w S.K S.mg S.base 7 h.tD h.yS DC (lV h.k) := fZ.of h.DD YM (ZM h) fun _ _ _ => .iM
theorem ZH {S : aR} (h : Fx S) : dN S.K h.yS DC 1 [] aM := bI h.DD fun _ _ _ _ _ _ us hl => match us, hl with
 | [_], _ => rfl
def gF : List Str := [("text" : Str), ("found" : Str), ("at" : Str), ("line" : Str), ("turn" : Str)]
def tY : List Str := [("text" : Str)]
abbrev CG : Scope := defScope (top 32)
def oF (k : bE) : MS :=
 (aJ (dH (cS (dS (aP (gQ g6) (aA (aB 0) (aA (eC (.ty "str")) aD))))) (EW k.bD ("line" : Str) (eC (.int 0))) aZ)
 (aJ (aO (eNew aD) (aQ 1))
 (aJ (g9 (dB lJ (aA (sQ (aV (aE oX (aB 0) (eC (.str ("" : Str))))) (bB "str" splitM (aB 0) (aA (eC (.str ("\n" : Str))) aD)) (dQ aD)) aD)) (bV 2 (aI (aQ 2) (aI (aQ 3) bO))) (aJ (aO (aH (lV k) 1 aM (aA (aB 3) aD)) (aQ 4))
 (aJ (dH (aV (aE isM (aB 4) (eC .non))) (EW k.bD ("line" : Str) (aB 2)) aZ)
 (cR (bB "list" cJ (aB 1) (aA (aB 4) aD))))))
 (aU (aP cH (aA (aB 1) aD))))))
def oG (k : bE) : MF := bF (oF k) gF
theorem NI : FnScope gF tY CG := bM (by decide +kernel)
theorem MN {S : aR} (h : Fx S) : sH (S.body 7 gF CG) (defBody (top 32)) (oF h.k) :=
 (aL (hY (kW (eV (bJ (pN lD) rfl h.bL rfl (aC (jv 0) (aC (pA rfl h.FX rfl) aF))))) (aX (W5 (ao rfl) h.wJ (PV h) (OF h) rfl h.tU aN)) dC)
 (aL (mG 1 (RC aF))
 (aL (LS (IW rfl h.qT (aC (lF (bY vC (jv 0) aK) (bU PySem.F.plainAttrs_str PySem.F.slot_str_split eW (jv 0) (aC aK aF)) (cX aF)) aF)) (DS (n := 2) (eI (NX 2) (eI (NX 3) yN))) (aL (mG 4 (aW (ao rfl) (Y9 h) (ZH h) rfl h.N5 h.IF (aC (jv 3) aF)))
 (aL (hY (bY aHx (jv 4) e9) (aX (W5 (ao rfl) h.wJ (PV h) (OF h) rfl h.tU (jv 2))) dC)
 (aX (yU (bU PySem.F.plainAttrs_list PySem.F.slot_list_append sZ (jv 1) (aC (jv 4) aF)))))))
 (aX (bP (b8 dD rfl h.cW rfl (aC (jv 1) aF)))))))
theorem NL {S : aR} (h : Fx S) : fZ S.P S.w S.K S.mg S.base 8 h.kP h.oT tY (oG h.k) := fZ.of h.uD NI (MN h) fun _ _ _ => .iM
theorem M8 {S : aR} (h : Fx S) : dN S.K h.oT tY 1 [] aM := bI h.uD fun _ _ _ _ _ _ us hl => match us, hl with
 | [_], _ => rfl
def oL : List Str := [("_law_it" : Str), ("_law_found" : Str), ("_law_e" : Str)]
def uI : List Str := [("_law_it" : Str)]
abbrev CS : Scope := defScope (top 52)
def oQ (k : bE) : MS :=
 (aJ (aO (bH (aA (eC (.str ("odd" : Str))) aD)) (aQ 1))
 (aJ (ZE (aO (bH (aA (eC (.str ("read" : Str))) (aA (aH (oG k) 1 aM (aA (aB 0) aD)) aD))) (aQ 1)) (DW k) 2 (fun x => (aO (bH (aA (Y7 (kZ k) x) (aA (eFX (hU k) ("line" : Str) x) aD))) (aQ 1))))
 (aU (aB 1))))
def iS (k : bE) : MF := bF (oQ k) oL
theorem NO : FnScope oL uI CS := bM (by decide +kernel)
theorem NJ {S : aR} (h : Fx S) : aBH (S.body 8 oL CS) (defBody (top 52)) (oQ h.k) :=
 (WH (JS.t (mG 1 (dJ (aC aK aF))))
 (WH (aIm (i := 2) rfl rfl rfl h.tU (YN h) (aX (mG 1 (dJ (aC aK (aC (aW (ao rfl) (NL h) (M8 h) rfl h.BS h.zR (aC (jv 0) aF)) aF))))) (aJt (VL (SF (j := 1) (aFV (hZ (aCb (ao rfl) (G2 h) (GY h) rfl h.wL h.vH) (hZ (aFH rfl (Or.inl rfl) (GL h)) HK)))))))
 (aFk (JS.t (bP (jv 1))))))
theorem MK {S : aR} (h : Fx S) : fZ S.P S.w S.K S.mg S.base 9 h.kF h.oR uI (iS h.k) := fZ.ofT h.t8 NO (NJ h) fun _ _ _ => .iM
theorem M9 {S : aR} (h : Fx S) : dN S.K h.oR uI 1 [] aM := bI h.t8 fun _ _ _ _ _ _ us hl => match us, hl with
 | [_], _ => rfl
def lA : List Str := [("_law_word" : Str), ("_law_sign" : Str)]
def pH : List Str := [("_law_word" : Str)]
abbrev xE : Scope := defScope (top 46)
def qB (k : bE) : MS :=
 (aJ (dH (iB (cS (aV (eCh UE UE (eC (.int 1)) (aP cZ (aA (aB 0) aD)) (eC (.int 3))))) (aV (aE oX (a8 (aCe (aB 0)) [1] (aQ 1) (aV (aE HD (aB 1) (eC (.str ("0123456789" : Str))))) (aB 1)) (dQ aD)))) (aU (eC .non)) aZ)
 (aU (sQ (fU (aV (aE eG (aE aY (aB 0) (eC (.int 0))) (eC (.str ("0" : Str))))) (aV (aE oX (aB 0) (eC (.str ("0" : Str)))))) (eC .non) (aP tM (aA (aB 0) aD)))))
def eT (k : bE) : MF := bF (qB k) lA
theorem G0 : FnScope lA pH xE := bM (by decide +kernel)
theorem GN {S : aR} (h : Fx S) : sH (S.body 0 lA xE) (defBody (top 46)) (qB h.k) :=
 (aL (hY (GR (zB (kW (WW OL OL aN (bJ jV rfl h.oD rfl (aC (jv 0) aF)) aN)) (zW (bY vC (dA (own := [(("_law_sign" : Str), 1)]) (aCz (jv 0)) (by kernel_rfl) (zP 1) (aAR (bY aBR (jv 1) aK)) (jv 1)) (cX aF))))) (aX (bP e9)) dC)
 (aX (bP (lF (GR (EC (bY gT (fN (jv 0) aN) aK) (A4 (bY vC (jv 0) aK)))) e9 (b8 RR rfl h.OY rfl (aC (jv 0) aF))))))
theorem nU {S : aR} (h : Fx S) : fZ S.P S.w S.K S.mg S.base 1 h.iD h.kT pH (eT h.k) := fZ.of h.pL G0 (GN h) fun _ _ _ => .iM
theorem nV {S : aR} (h : Fx S) : dN S.K h.kT pH 1 [] aM := bI h.pL fun _ _ _ _ _ _ us hl => match us, hl with
 | [_], _ => rfl
def mH : List Str := [("_law_word" : Str), ("_law_found" : Str), ("_law_one" : Str)]
def rY : List Str := [("_law_word" : Str)]
abbrev zH : Scope := defScope (top 47)
def rZ (k : bE) : MS :=
 (aJ (dH (aV (aE eG (aB 0) (eC (.str ("-" : Str))))) (aU (bH aD)) aZ)
 (aJ (aO (a8 (cK (bB "str" splitM (aB 0) (aA (eC (.str ("," : Str))) aD))) [2] (aQ 2) bA (aH (eT k) 1 aM (aA (aB 2) aD))) (aQ 1))
 (aU (sQ (fU (aV (aE kO (eC .non) (aB 1))) (aV (aE eG (aB 1) (AZ wH (aB 1))))) (aP cH (aA (aB 1) aD)) (eC .non)))))
def mL (k : bE) : MF := bF (rZ k) mH
theorem J7 : FnScope mH rY zH := bM (by decide +kernel)
theorem L1 {S : aR} (h : Fx S) : sH (S.body 1 mH zH) (defBody (top 47)) (rZ h.k) :=
 (aL (hY (bY gT (jv 0) aK) (aX (bP (dJ aF))) dC)
 (aL (jsc 1 (own := [(("_law_one" : Str), 2)]) (fB (bU PySem.F.plainAttrs_str PySem.F.slot_str_split eW (jv 0) (aC aK aF))) (by kernel_rfl) (zP 2) cM (aW (ao rfl) (nU h) (nV h) rfl h.kH h.jU (aC (jv 2) aF)))
 (aX (bP (lF (GR (EC (bY CK e9 (jv 1)) (A4 (bY gT (jv 1) (aBe rfl h.I0 rfl h.aCC (jv 1)))))) (b8 dD rfl h.cW rfl (aC (jv 1) aF)) e9)))))
theorem IK {S : aR} (h : Fx S) : fZ S.P S.w S.K S.mg S.base 2 h.jJ h.lZ rY (mL h.k) := fZ.of h.rL J7 (L1 h) fun _ _ _ => .iM
theorem I6 {S : aR} (h : Fx S) : dN S.K h.lZ rY 1 [] aM := bI h.rL fun _ _ _ _ _ _ us hl => match us, hl with
 | [_], _ => rfl
def mM : List Str := [("_law_text_told" : Str), ("_law_words" : Str), ("_law_found" : Str), ("_law_many" : Str), ("_law_word" : Str)]
def rK : List Str := [("_law_text_told" : Str)]
abbrev zE : Scope := defScope (top 48)
def sC (k : bE) : MS :=
 (aJ (aO (bB "str" splitM (aB 0) (aA (eC (.str (" " : Str))) aD)) (aQ 1))
 (aJ (dH (aV (aE eG (aE aY (aB 1) (eC (.int 0))) (eC (.str ("tear" : Str))))) (aJ (aO (a8 (cK (iU fO (aB 1) (bK (eC (.int 1))) bS)) [4] (aQ 4) bA (aH (mL k) 1 aM (aA (aB 4) aD))) (aQ 2))
 (aU (sQ (fU (aV (aE eG (aP cZ (aA (aB 2) aD)) (eC (.int 2)))) (fU (aV (aE kO (eC .non) (aB 2))) (aV (aE oX (aE aY (aB 2) (eC (.int 0))) (bH aD))))) (aE a9 (bH (aA (eC (.str ("tear" : Str))) aD)) (aP cH (aA (aB 2) aD))) (eC .non)))) aZ)
 (aJ (aO (bB "dict" getM (U6 (hX (eC (.str ("fall" : Str))) (eC (.int 1)) (hX (eC (.str ("stop" : Str))) (eC (.int 1)) (hX (eC (.str ("rise" : Str))) (eC (.int 1)) (hX (eC (.str ("down" : Str))) (eC (.int 1)) (hX (eC (.str ("up" : Str))) (eC (.int 1)) (hX (eC (.str ("rank" : Str))) (eC (.int 3)) (hX (eC (.str ("heal" : Str))) (eC (.int 0)) (hX (eC (.str ("ask" : Str))) (eC (.int 2)) aAl))))))))) (aA (aE aY (aB 1) (eC (.int 0))) (aA (AZ DF (eC (.int 1))) aD))) (aQ 3))
 (aJ (aO (a8 (cK (iU fO (aB 1) (bK (eC (.int 1))) bS)) [4] (aQ 4) bA (aH (eT k) 1 aM (aA (aB 4) aD))) (aQ 2))
 (aU (sQ (fU (aV (aE eG (aP cZ (aA (aB 2) aD)) (aB 3))) (aV (aE kO (eC .non) (aB 2)))) (aE a9 (bH (aA (aE aY (aB 1) (eC (.int 0))) aD)) (aP cH (aA (aB 2) aD))) (eC .non)))))))
def jP (k : bE) : MF := bF (sC k) mM
theorem I8 : FnScope mM rK zE := bM (by decide +kernel)
theorem JL {S : aR} (h : Fx S) : sH (S.body 2 mM zE) (defBody (top 48)) (sC h.k) :=
 (aL (mG 1 (bU PySem.F.plainAttrs_str PySem.F.slot_str_split eW (jv 0) (aC aK aF)))
 (aL (hY (bY gT (fN (jv 1) aN) aK) (aL (jsc 2 (own := [(("_law_word" : Str), 4)]) (fB (eU eY (jv 1) (b7 aN) cO)) (by kernel_rfl) (zP 4) cM (aW (ao rfl) (IK h) (I6 h) rfl h.zQ h.xV (aC (jv 4) aF)))
 (aX (bP (lF (GR (EC (bY gT (bJ jV rfl h.oD rfl (aC (jv 2) aF)) aN) (EC (bY CK e9 (jv 2)) (A4 (bY vC (fN (jv 2) aN) (dJ aF)))))) (aT bG (dJ (aC aK aF)) (b8 dD rfl h.cW rfl (aC (jv 2) aF))) e9)))) dC)
 (aL (mG 3 (bU PySem.F.plainAttrs_dict PySem.F.slot_dict_get aDa (XQ (gZ aK aN (gZ aK aN (gZ aK aN (gZ aK aN (gZ aK aN (gZ aK aN (gZ aK aN (gZ aK aN YZ))))))))) (aC (fN (jv 1) aN) (aC (aHH aDi aN) aF))))
 (aL (jsc 2 (own := [(("_law_word" : Str), 4)]) (fB (eU eY (jv 1) (b7 aN) cO)) (by kernel_rfl) (zP 4) cM (aW (ao rfl) (nU h) (nV h) rfl h.kH h.jU (aC (jv 4) aF)))
 (aX (bP (lF (GR (EC (bY gT (bJ jV rfl h.oD rfl (aC (jv 2) aF)) (jv 3)) (A4 (bY CK e9 (jv 2))))) (aT bG (dJ (aC (fN (jv 1) aN) aF)) (b8 dD rfl h.cW rfl (aC (jv 2) aF))) e9)))))))
theorem IX {S : aR} (h : Fx S) : fZ S.P S.w S.K S.mg S.base 3 h.jG h.mQ rK (jP h.k) := fZ.of h.rO I8 (JL h) fun _ _ _ => .iM
theorem LJ {S : aR} (h : Fx S) : dN S.K h.mQ rK 1 [] aM := bI h.rO fun _ _ _ _ _ _ us hl => match us, hl with
 | [_], _ => rfl
def k9 : List Str := [("_law_line_told" : Str), ("_law_front" : Str), ("_law_mark" : Str), ("_law_back" : Str), ("_law_acts" : Str), ("_law_lots" : Str), ("_law_one" : Str), ("_law_numbers" : Str), ("_law_word" : Str)]
def qG : List Str := [("_law_line_told" : Str)]
abbrev v9 : Scope := defScope (top 49)
def qJ (k : bE) : MS :=
 (aJ (aO (bB "str" FD (aB 0) (aA (eC (.str (" ! " : Str))) aD)) (bV 3 (aI (aQ 1) (aI (aQ 2) (aI (aQ 3) bO)))))
 (aJ (aO (sQ (aV (aE eG (aB 1) (eC (.str ("-" : Str))))) (dQ aD) (a8 (cK (bB "str" splitM (aB 1) (aA (eC (.str (" ; " : Str))) aD))) [6] (aQ 6) bA (aH (jP k) 1 aM (aA (aB 6) aD)))) (aQ 4))
 (aJ (aO (eNew aD) (aQ 5))
 (aJ (g9 (cK (sQ (aV (aE oX (aB 2) (eC (.str ("" : Str))))) (bB "str" splitM (aB 3) (aA (eC (.str (" , " : Str))) aD)) (dQ aD))) (aQ 6) (aJ (aO (a8 (cK (bB "str" splitM (aB 6) (aA (eC (.str (" " : Str))) aD))) [8] (aQ 8) bA (aH (eT k) 1 aM (aA (aB 8) aD))) (aQ 7))
 (cR (bB "list" cJ (aB 5) (aA (sQ (fU (aV (aE eG (aP cZ (aA (aB 7) aD)) (eC (.int 4)))) (aV (aE kO (eC .non) (aB 7)))) (aP cH (aA (aB 7) aD)) (eC .non)) aD)))))
 (aU (sQ (iB (aV (aE L7 (eC .non) (aB 4))) (aV (aE L7 (eC .non) (aB 5)))) (eC .non) (bH (aA (aP cH (aA (aB 4) aD)) (aA (aP cH (aA (aB 5) aD)) aD)))))))))
def iE (k : bE) : MF := bF (qJ k) k9
theorem G1 : FnScope k9 qG v9 := bM (by decide +kernel)
theorem GP {S : aR} (h : Fx S) : sH (S.body 3 k9 v9) (defBody (top 49)) (qJ h.k) :=
 (aL (EF (bU PySem.F.plainAttrs_str PySem.F.slot_str_partition aAW (jv 0) (aC aK aF)) (DS (n := 3) (eI (NX 1) (eI (NX 2) (eI (NX 3) yN)))))
 (aL (mG 4 (lF (bY gT (jv 1) aK) (cX aF) (dA (own := [(("_law_one" : Str), 6)]) (fB (bU PySem.F.plainAttrs_str PySem.F.slot_str_split eW (jv 1) (aC aK aF))) (by kernel_rfl) (zP 6) cM (aW (ao rfl) (IX h) (LJ h) rfl h.zS h.yE (aC (jv 6) aF)))))
 (aL (mG 5 (RC aF))
 (aL (LS (fB (lF (bY vC (jv 2) aK) (bU PySem.F.plainAttrs_str PySem.F.slot_str_split eW (jv 3) (aC aK aF)) (cX aF))) (NX 6) (aL (jsc 7 (own := [(("_law_word" : Str), 8)]) (fB (bU PySem.F.plainAttrs_str PySem.F.slot_str_split eW (jv 6) (aC aK aF))) (by kernel_rfl) (zP 8) cM (aW (ao rfl) (nU h) (nV h) rfl h.kH h.jU (aC (jv 8) aF)))
 (aX (yU (bU PySem.F.plainAttrs_list PySem.F.slot_list_append sZ (jv 5) (aC (lF (GR (EC (bY gT (bJ jV rfl h.oD rfl (aC (jv 7) aF)) aN) (A4 (bY CK e9 (jv 7))))) (b8 dD rfl h.cW rfl (aC (jv 7) aF)) e9) aF))))))
 (aX (bP (lF (GR (zB (bY aEj e9 (jv 4)) (zW (bY aEj e9 (jv 5))))) e9 (dJ (aC (b8 dD rfl h.cW rfl (aC (jv 4) aF)) (aC (b8 dD rfl h.cW rfl (aC (jv 5) aF)) aF))))))))))
theorem GO {S : aR} (h : Fx S) : fZ S.P S.w S.K S.mg S.base 4 h.iG h.kJ qG (iE h.k) := fZ.of h.qH G1 (GP h) fun _ _ _ => .iM
theorem GK {S : aR} (h : Fx S) : dN S.K h.kJ qG 1 [] aM := bI h.qH fun _ _ _ _ _ _ us hl => match us, hl with
 | [_], _ => rfl
def jR : List Str := [("_law_text_told" : Str), ("_law_found" : Str), ("_law_k" : Str), ("_law_one" : Str), ("_law_turn_here" : Str)]
def nX : List Str := [("_law_text_told" : Str)]
abbrev vJ : Scope := defScope (top 50)
def nO (k : bE) : MS :=
 (aJ (aO (eNew aD) (aQ 1))
 (aJ (g9 (dB lJ (aA (sQ (aV (aE oX (aB 0) (eC (.str ("" : Str))))) (bB "str" splitM (aB 0) (aA (eC (.str ("\n" : Str))) aD)) (dQ aD)) aD)) (bV 2 (aI (aQ 2) (aI (aQ 3) bO))) (aJ (aO (aH (iE k) 1 aM (aA (aB 3) aD)) (aQ 4))
 (aJ (dH (aV (aE isM (aB 4) (eC .non))) (aU (aB 2)) aZ)
 (cR (bB "list" cJ (aB 1) (aA (aB 4) aD))))))
 (aU (aP cH (aA (aB 1) aD)))))
def jS (k : bE) : MF := bF (nO k) jR
theorem EJ : FnScope jR nX vJ := bM (by decide +kernel)
theorem EM {S : aR} (h : Fx S) : sH (S.body 4 jR vJ) (defBody (top 50)) (nO h.k) :=
 (aL (mG 1 (RC aF))
 (aL (LS (IW rfl h.qT (aC (lF (bY vC (jv 0) aK) (bU PySem.F.plainAttrs_str PySem.F.slot_str_split eW (jv 0) (aC aK aF)) (cX aF)) aF)) (DS (n := 2) (eI (NX 2) (eI (NX 3) yN))) (aL (mG 4 (aW (ao rfl) (GO h) (GK h) rfl h.wN h.vA (aC (jv 3) aF)))
 (aL (hY (bY aHx (jv 4) e9) (aX (bP (jv 2))) dC)
 (aX (yU (bU PySem.F.plainAttrs_list PySem.F.slot_list_append sZ (jv 1) (aC (jv 4) aF)))))))
 (aX (bP (b8 dD rfl h.cW rfl (aC (jv 1) aF))))))
theorem DG {S : aR} (h : Fx S) : fZ S.P S.w S.K S.mg S.base 5 h.gI h.jT nX (jS h.k) := fZ.of h.nZ EJ (EM h) fun _ _ _ => .iM
theorem D8 {S : aR} (h : Fx S) : dN S.K h.jT nX 1 [] aM := bI h.nZ fun _ _ _ _ _ _ us hl => match us, hl with
 | [_], _ => rfl
def iL : List Str := [("_law_it" : Str), ("_law_kept" : Str), ("_law_told" : Str), ("_law_due" : Str)]
def uY : List Str := [("_law_it" : Str)]
abbrev C1 : Scope := defScope (top 53)
def iN (k : bE) : MS :=
 (aJ (aO (aP kD (aA (aB 0) aD)) (aQ 1))
 (aJ (aO (sQ (dS (aP (gQ g6) (aA (aB 0) (aA (eC (.ty "str")) aD)))) (aH (jS k) 1 aM (aA (aB 0) aD)) (eC (.int 0))) (aQ 2))
 (aJ (aO (bH (aA (eC (.str ("read" : Str))) (aA (aB 2) aD))) (aQ 3))
 (aJ (dH (cS (dS (aP (gQ g6) (aA (aB 2) (aA (eC (.ty "tuple")) aD))))) (aO (bH (aA (aE a9 (aE a9 (dQ (aA (eC (.bl false)) (aA (eC (.bl true)) aD))) (aE mulM (dQ (aA (eC (.bl false)) aD)) (eC (.int 4)))) (dQ (aA (eC (.bl true)) (aA (eC (.bl true)) (aA (eC (.bl false)) aD))))) (aA (aB 2) aD))) (aQ 3)) aZ)
 (aU (iZ (aE eG (aP kD (aA (aH (iS k) 1 aM (aA (aB 0) aD)) aD)) (aP kD (aA (aB 3) aD))) (aE eG (aP kD (aA (aB 0) aD)) (aB 1))))))))
def cP (k : bE) : MF := bF (iN k) iL
theorem NM : FnScope iL uY C1 := bM (by decide +kernel)
theorem NS {S : aR} (h : Fx S) : sH (S.body 9 iL C1) (defBody (top 53)) (iN h.k) :=
 (aL (mG 1 (bJ (CP h.aEE) rfl h.LL rfl (aC (jv 0) aF)))
 (aL (mG 2 (lF (eV (bJ (pN lD) rfl h.bL rfl (aC (jv 0) (aC (pA rfl h.FX rfl) aF)))) (aW (ao rfl) (DG h) (D8 h) rfl h.vO h.tN (aC (jv 0) aF)) aN))
 (aL (mG 3 (dJ (aC aK (aC (jv 2) aF))))
 (aL (hY (kW (eV (bJ (pN lD) rfl h.bL rfl (aC (jv 2) (aC (pA rfl h.cW rfl) aF))))) (aX (mG 3 (dJ (aC (aT bG (aT bG (cX (aC xU (aC xU aF))) (aT AI (cX (aC xU aF)) aN)) (cX (aC xU (aC xU (aC xU aF))))) (aC (jv 2) aF))))) dC)
 (aX (bP (rR (pZ gT (bJ (CP h.aEE) rfl h.LL rfl (aC (aW (ao rfl) (MK h) (M9 h) rfl h.BH h.zF (aC (jv 0) aF)) aF)) (bJ (CP h.aEE) rfl h.LL rfl (aC (jv 3) aF))) (xY (pZ gT (bJ (CP h.aEE) rfl h.LL rfl (aC (jv 0) aF)) (jv 1))))))))))
theorem rM {S : aR} (h : Fx S) : fZ S.P S.w S.K S.mg S.base 10 h.kR h.oJ uY (cP h.k) := fZ.of h.uC NM (NS h) fun _ _ _ => .iM
theorem rW {S : aR} (h : Fx S) : dN S.K h.oJ uY 1 [] aM := bI h.uC fun _ _ _ _ _ _ us hl => match us, hl with
 | [_], _ => rfl
def gM : List Str := [("_law_deck_here" : Str)]
def rP : List Str := [("_law_deck_here" : Str)]
abbrev zO : Scope := defScope (top 38)
def jB (k : bE) : MS :=
 (aU (aE aY (dQ (aA (eC (.int 0)) (aA (eC (.int 9)) (aA (eC (.int 10)) (aA (eC (.int 99)) (aA (eC (.int 100)) (aA (eC (.int 999)) (aA (aH (bR k) 2 aM (aA (aB 0) (aA (eC (.int 10)) aD))) (aA (aH (bR k) 2 aM (aA (aB 0) (aA (eC (.int 1000)) aD))) aD))))))))) (aH (bR k) 2 aM (aA (aB 0) (aA (eC (.int 8)) aD)))))
def c8 (k : bE) : MF := bF (jB k) gM
theorem K6 : FnScope gM rP zO := bM (by decide +kernel)
theorem J5 {S : aR} (h : Fx S) : sH (S.body 1 gM zO) (defBody (top 38)) (jB h.k) :=
 (aX (bP (fN (cX (aC aN (aC aN (aC aN (aC aN (aC aN (aC aN (aC (aW (ao rfl) (bW h) (bX h) rfl h.b6 h.bT (aC (jv 0) (aC aN aF))) (aC (aW (ao rfl) (bW h) (bX h) rfl h.b6 h.bT (aC (jv 0) (aC aN aF))) aF))))))))) (aW (ao rfl) (bW h) (bX h) rfl h.b6 h.bT (aC (jv 0) (aC aN aF))))))
theorem qF {S : aR} (h : Fx S) : fZ S.P S.w S.K S.mg S.base 2 h.jE h.lY rP (c8 h.k) := fZ.of h.rN K6 (J5 h) fun _ _ _ => .iM
theorem o8 {S : aR} (h : Fx S) : dN S.K h.lY rP 1 [] aM := bI h.rN fun _ _ _ _ _ _ us hl => match us, hl with
 | [_], _ => rfl
def lU : List Str := [("_law_deck_here" : Str), ("_law_fewest" : Str), ("_law_many" : Str), ("_law_k" : Str)]
def AH : List Str := [("_law_deck_here" : Str), ("_law_fewest" : Str)]
abbrev KA : Scope := defScope (top 39)
def pQ (k : bE) : MS :=
 (aJ (aO (aE a9 (aB 1) (aH (bR k) 2 aM (aA (aB 0) (aA (eC (.int 4)) aD)))) (aQ 2))
 (aU (aP cH (aA (AZ wH (a8 (dB iO (aA (aB 2) aD)) [3] (aQ 3) bA (aH (c8 k) 1 aM (aA (aB 0) aD)))) aD))))
def iI (k : bE) : MF := bF (pQ k) lU
theorem VQ : FnScope lU AH KA := bM (by decide +kernel)
theorem W7 {S : aR} (h : Fx S) : sH (S.body 2 lU KA) (defBody (top 39)) (pQ h.k) :=
 (aL (mG 2 (aT bG (jv 1) (aW (ao rfl) (bW h) (bX h) rfl h.b6 h.bT (aC (jv 0) (aC aN aF)))))
 (aX (bP (b8 dD rfl h.cW rfl (aC (aBe rfl h.I0 rfl h.aCC (dA (own := [(("_law_k" : Str), 3)]) (j3 rfl h.oN (aC (jv 2) aF)) (by kernel_rfl) (zP 3) cM (aW (ao rfl) (qF h) (o8 h) rfl h.mB h.kM (aC (jv 0) aF)))) aF)))))
theorem FI {S : aR} (h : Fx S) : fZ S.P S.w S.K S.mg S.base 3 h.qE h.uG AH (iI h.k) := fZ.of h.zX VQ (W7 h) fun _ _ _ => .iM
theorem GH {S : aR} (h : Fx S) : dN S.K h.uG AH 2 [] aM := bI h.zX fun _ _ _ _ _ _ us hl => match us, hl with
 | [_, _], _ => rfl
def lR : List Str := [("_law_deck_here" : Str), ("_law_word" : Str), ("_law_many" : Str), ("_law_k" : Str)]
def zV : List Str := [("_law_deck_here" : Str)]
abbrev L3 : Scope := defScope (top 40)
def pS (k : bE) : MS :=
 (aJ (aO (aH (m6 k) 2 aM (aA (aB 0) (aA (dQ (aA (eC (.str ("fall" : Str))) (aA (eC (.str ("stop" : Str))) (aA (eC (.str ("rise" : Str))) (aA (eC (.str ("down" : Str))) (aA (eC (.str ("up" : Str))) (aA (eC (.str ("rank" : Str))) (aA (eC (.str ("tear" : Str))) (aA (eC (.str ("tear" : Str))) (aA (eC (.str ("heal" : Str))) (aA (eC (.str ("ask" : Str))) aD))))))))))) aD))) (aQ 1))
 (aJ (aO (bB "dict" getM (U6 (hX (eC (.str ("rank" : Str))) (eC (.int 3)) (hX (eC (.str ("heal" : Str))) (eC (.int 0)) (hX (eC (.str ("ask" : Str))) (eC (.int 2)) aAl)))) (aA (aB 1) (aA (eC (.int 1)) aD))) (aQ 2))
 (aJ (dH (aV (aE eG (aB 1) (eC (.str ("tear" : Str))))) (aU (bH (aA (aB 1) (aA (aH (iI k) 2 aM (aA (aB 0) (aA (eC (.int 1)) aD))) (aA (aH (iI k) 2 aM (aA (aB 0) (aA (eC (.int 0)) aD))) aD))))) aZ)
 (aU (aE a9 (bH (aA (aB 1) aD)) (aP cH (aA (a8 (dB iO (aA (aB 2) aD)) [3] (aQ 3) bA (aH (c8 k) 1 aM (aA (aB 0) aD))) aD)))))))
def lQ (k : bE) : MF := bF (pS k) lR
theorem UH : FnScope lR zV L3 := bM (by decide +kernel)
theorem UI {S : aR} (h : Fx S) : sH (S.body 3 lR L3) (defBody (top 40)) (pS h.k) :=
 (aL (mG 1 (aW (ao rfl) (BY h) (BG h) rfl h.w7 h.uA (aC (jv 0) (aC (cX (aC aK (aC aK (aC aK (aC aK (aC aK (aC aK (aC aK (aC aK (aC aK (aC aK aF))))))))))) aF))))
 (aL (mG 2 (bU PySem.F.plainAttrs_dict PySem.F.slot_dict_get aDa (XQ (gZ aK aN (gZ aK aN (gZ aK aN YZ)))) (aC (jv 1) (aC aN aF))))
 (aL (hY (bY gT (jv 1) aK) (aX (bP (dJ (aC (jv 1) (aC (aW (ao rfl) (FI h) (GH h) rfl h.AO h.v5 (aC (jv 0) (aC aN aF))) (aC (aW (ao rfl) (FI h) (GH h) rfl h.AO h.v5 (aC (jv 0) (aC aN aF))) aF)))))) dC)
 (aX (bP (aT bG (dJ (aC (jv 1) aF)) (b8 dD rfl h.cW rfl (aC (dA (own := [(("_law_k" : Str), 3)]) (j3 rfl h.oN (aC (jv 2) aF)) (by kernel_rfl) (zP 3) cM (aW (ao rfl) (qF h) (o8 h) rfl h.mB h.kM (aC (jv 0) aF))) aF))))))))
theorem WZ {S : aR} (h : Fx S) : fZ S.P S.w S.K S.mg S.base 4 h.pP h.uE zV (lQ h.k) := fZ.of h.AW UH (UI h) fun _ _ _ => .iM
theorem VY {S : aR} (h : Fx S) : dN S.K h.uE zV 1 [] aM := bI h.AW fun _ _ _ _ _ _ us hl => match us, hl with
 | [_], _ => rfl
def kB : List Str := [("_law_deck_here" : Str), ("_law_acts" : Str), ("_law_lots" : Str), ("_law_k" : Str), ("_law_j" : Str)]
def xF : List Str := [("_law_deck_here" : Str)]
abbrev FJ : Scope := defScope (top 41)
def mT (k : bE) : MS :=
 (aJ (aO (aP cH (aA (a8 (dB iO (aA (aH (bR k) 2 aM (aA (aB 0) (aA (eC (.int 5)) aD))) aD)) [3] (aQ 3) bA (aH (lQ k) 1 aM (aA (aB 0) aD))) aD)) (aQ 1))
 (aJ (aO (a8 (dB iO (aA (aE aY (dQ (aA (eC (.int 0)) (aA (aH (bR k) 2 aM (aA (aB 0) (aA (eC (.int 5)) aD))) aD))) (aH (bR k) 2 aM (aA (aB 0) (aA (eC (.int 2)) aD)))) aD)) [4] (aQ 4) bA (aP cH (aA (a8 (dB iO (aA (eC (.int 4)) aD)) [3] (aQ 3) bA (aH (c8 k) 1 aM (aA (aB 0) aD))) aD))) (aQ 2))
 (aU (bH (aA (aB 1) (aA (aP cH (aA (aB 2) aD)) aD))))))
def j9 (k : bE) : MF := bF (mT k) kB
theorem SE : FnScope kB xF FJ := bM (by decide +kernel)
theorem TC {S : aR} (h : Fx S) : sH (S.body 4 kB FJ) (defBody (top 41)) (mT h.k) :=
 (aL (mG 1 (b8 dD rfl h.cW rfl (aC (dA (own := [(("_law_k" : Str), 3)]) (j3 rfl h.oN (aC (aW (ao rfl) (bW h) (bX h) rfl h.b6 h.bT (aC (jv 0) (aC aN aF))) aF)) (by kernel_rfl) (zP 3) cM (aW (ao rfl) (WZ h) (VY h) rfl h.LZ h.FW (aC (jv 0) aF))) aF)))
 (aL (jsc 2 (own := [(("_law_j" : Str), 4)]) (j3 rfl h.oN (aC (fN (cX (aC aN (aC (aW (ao rfl) (bW h) (bX h) rfl h.b6 h.bT (aC (jv 0) (aC aN aF))) aF))) (aW (ao rfl) (bW h) (bX h) rfl h.b6 h.bT (aC (jv 0) (aC aN aF)))) aF)) (by kernel_rfl) (zP 4) cM (b8 dD rfl h.cW rfl (aC (dA (own := [(("_law_k" : Str), 3)]) (j3 rfl h.oN (aC aN aF)) (by kernel_rfl) (zP 3) cM (aW (ao rfl) (qF h) (o8 h) rfl h.mB h.kM (aC (jv 0) aF))) aF)))
 (aX (bP (dJ (aC (jv 1) (aC (b8 dD rfl h.cW rfl (aC (jv 2) aF)) aF)))))))
theorem QE {S : aR} (h : Fx S) : fZ S.P S.w S.K S.mg S.base 5 h.mU h.qS xF (j9 h.k) := fZ.of h.xC SE (TC h) fun _ _ _ => .iM
theorem QZ {S : aR} (h : Fx S) : dN S.K h.qS xF 1 [] aM := bI h.xC fun _ _ _ _ _ _ us hl => match us, hl with
 | [_], _ => rfl
def iP : List Str := [("_law_deck_here" : Str), ("_law_many" : Str), ("_law_k" : Str)]
def uU : List Str := [("_law_deck_here" : Str), ("_law_many" : Str)]
abbrev BF : Scope := defScope (top 42)
def kS (k : bE) : MS :=
 (aU (aP cH (aA (a8 (dB iO (aA (aB 1) aD)) [2] (aQ 2) bA (aH (j9 k) 1 aM (aA (aB 0) aD))) aD)))
def fK (k : bE) : MF := bF (kS k) iP
theorem NC : FnScope iP uU BF := bM (by decide +kernel)
theorem M6 {S : aR} (h : Fx S) : sH (S.body 5 iP BF) (defBody (top 42)) (kS h.k) :=
 (aX (bP (b8 dD rfl h.cW rfl (aC (dA (own := [(("_law_k" : Str), 2)]) (j3 rfl h.oN (aC (jv 1) aF)) (by kernel_rfl) (zP 2) cM (aW (ao rfl) (QE h) (QZ h) rfl h.GB h.CT (aC (jv 0) aF))) aF))))
theorem NB {S : aR} (h : Fx S) : fZ S.P S.w S.K S.mg S.base 6 h.kI h.oH uU (fK h.k) := fZ.of h.u3 NC (M6 h) fun _ _ _ => .iM
theorem MV {S : aR} (h : Fx S) : dN S.K h.oH uU 2 [] aM := bI h.u3 fun _ _ _ _ _ _ us hl => match us, hl with
 | [_, _], _ => rfl
def fC : List Str := [("_law_act_here" : Str), ("_law_rest" : Str), ("_law_some" : Str), ("_law_one" : Str)]
def nT : List Str := [("_law_act_here" : Str)]
abbrev vG : Scope := defScope (top 43)
def gK (k : bE) : MS :=
 (aJ (dH (aV (aE eG (aE aY (aB 0) (eC (.int 0))) (eC (.str ("tear" : Str))))) (aO (a8 (cK (iU fO (aB 0) (bK (eC (.int 1))) bS)) [2] (aQ 2) bA (sQ (aV (aE oX (aB 2) (bH aD))) (bB "str" joinM (eC (.str ("," : Str))) (aA (a8 (cK (aB 2)) [3] (aQ 3) bA (aP zT (aA (aB 3) aD))) aD)) (eC (.str ("-" : Str))))) (aQ 1)) (aO (a8 (cK (iU fO (aB 0) (bK (eC (.int 1))) bS)) [3] (aQ 3) bA (aP zT (aA (aB 3) aD))) (aQ 1)))
 (aU (bB "str" joinM (eC (.str (" " : Str))) (aA (aE a9 (dQ (aA (aE aY (aB 0) (eC (.int 0))) aD)) (aB 1)) aD))))
def dY (k : bE) : MF := bF (gK k) fC
theorem D6 : FnScope fC nT vG := bM (by decide +kernel)
theorem EK {S : aR} (h : Fx S) : sH (S.body 0 fC vG) (defBody (top 43)) (gK h.k) :=
 (aL (hY (bY gT (fN (jv 0) aN) aK) (aX (jsc 1 (own := [(("_law_some" : Str), 2)]) (fB (eU eY (jv 0) (b7 aN) cO)) (by kernel_rfl) (zP 2) cM (lF (bY vC (jv 2) (dJ aF)) (bU PySem.F.plainAttrs_str PySem.F.slot_str_join l9 aK (aC (dA (own := [(("_law_one" : Str), 3)]) (fB (jv 2)) (by kernel_rfl) (zP 3) cM (b8 SW rfl h.FX rfl (aC (jv 3) aF))) aF)) aK))) (aX (jsc 1 (own := [(("_law_one" : Str), 3)]) (fB (eU eY (jv 0) (b7 aN) cO)) (by kernel_rfl) (zP 3) cM (b8 SW rfl h.FX rfl (aC (jv 3) aF)))))
 (aX (bP (bU PySem.F.plainAttrs_str PySem.F.slot_str_join l9 aK (aC (aT bG (cX (aC (fN (jv 0) aN) aF)) (jv 1)) aF)))))
theorem DK {S : aR} (h : Fx S) : fZ S.P S.w S.K S.mg S.base 1 h.gH h.jQ nT (dY h.k) := fZ.of h.nS D6 (EK h) fun _ _ _ => .iM
theorem DJ {S : aR} (h : Fx S) : dN S.K h.jQ nT 1 [] aM := bI h.nS fun _ _ _ _ _ _ us hl => match us, hl with
 | [_], _ => rfl
def eP : List Str := [("_law_turn_here" : Str), ("_law_text_told" : Str), ("_law_act_here" : Str), ("_law_lot_here" : Str), ("_law_one" : Str)]
def lN : List Str := [("_law_turn_here" : Str)]
abbrev tA : Scope := defScope (top 44)
def fX (k : bE) : MS :=
 (aJ (aO (sQ (aV (aE oX (aE aY (aB 0) (eC (.int 0))) (bH aD))) (bB "str" joinM (eC (.str (" ; " : Str))) (aA (a8 (cK (aE aY (aB 0) (eC (.int 0)))) [2] (aQ 2) bA (aH (dY k) 1 aM (aA (aB 2) aD))) aD)) (eC (.str ("-" : Str)))) (aQ 1))
 (aJ (dH (aV (aE eG (aE aY (aB 0) (eC (.int 1))) (bH aD))) (aU (aB 1)) aZ)
 (aU (aE a9 (aE a9 (aB 1) (eC (.str (" ! " : Str)))) (bB "str" joinM (eC (.str (" , " : Str))) (aA (a8 (cK (aE aY (aB 0) (eC (.int 1)))) [3] (aQ 3) bA (bB "str" joinM (eC (.str (" " : Str))) (aA (a8 (cK (aB 3)) [4] (aQ 4) bA (aP zT (aA (aB 4) aD))) aD))) aD))))))
def eO (k : bE) : MF := bF (fX k) eP
theorem B4 : FnScope eP lN tA := bM (by decide +kernel)
theorem A9 {S : aR} (h : Fx S) : sH (S.body 1 eP tA) (defBody (top 44)) (fX h.k) :=
 (aL (mG 1 (lF (bY vC (fN (jv 0) aN) (dJ aF)) (bU PySem.F.plainAttrs_str PySem.F.slot_str_join l9 aK (aC (dA (own := [(("_law_act_here" : Str), 2)]) (fB (fN (jv 0) aN)) (by kernel_rfl) (zP 2) cM (aW (ao rfl) (DK h) (DJ h) rfl h.vD h.tH (aC (jv 2) aF))) aF)) aK))
 (aL (hY (bY gT (fN (jv 0) aN) (dJ aF)) (aX (bP (jv 1))) dC)
 (aX (bP (aT bG (aT bG (jv 1) aK) (bU PySem.F.plainAttrs_str PySem.F.slot_str_join l9 aK (aC (dA (own := [(("_law_lot_here" : Str), 3)]) (fB (fN (jv 0) aN)) (by kernel_rfl) (zP 3) cM (bU PySem.F.plainAttrs_str PySem.F.slot_str_join l9 aK (aC (dA (own := [(("_law_one" : Str), 4)]) (fB (jv 3)) (by kernel_rfl) (zP 4) cM (b8 SW rfl h.FX rfl (aC (jv 4) aF))) aF))) aF)))))))
theorem CN {S : aR} (h : Fx S) : fZ S.P S.w S.K S.mg S.base 2 h.fY h.iW lN (eO h.k) := fZ.of h.lL B4 (A9 h) fun _ _ _ => .iM
theorem B5 {S : aR} (h : Fx S) : dN S.K h.iW lN 1 [] aM := bI h.lL fun _ _ _ _ _ _ us hl => match us, hl with
 | [_], _ => rfl
def dX : List Str := [("_law_told" : Str), ("_law_turn_here" : Str)]
def lC : List Str := [("_law_told" : Str)]
abbrev rC : Scope := defScope (top 45)
def fL (k : bE) : MS :=
 (aU (bB "str" joinM (eC (.str ("\n" : Str))) (aA (a8 (cK (aB 0)) [1] (aQ 1) bA (aH (eO k) 1 aM (aA (aB 1) aD))) aD)))
def cL (k : bE) : MF := bF (fL k) dX
theorem zU : FnScope dX lC rC := bM (by decide +kernel)
theorem AS {S : aR} (h : Fx S) : sH (S.body 2 dX rC) (defBody (top 45)) (fL h.k) :=
 (aX (bP (bU PySem.F.plainAttrs_str PySem.F.slot_str_join l9 aK (aC (dA (own := [(("_law_turn_here" : Str), 1)]) (fB (jv 0)) (by kernel_rfl) (zP 1) cM (aW (ao rfl) (CN h) (B5 h) rfl h.tT h.q0 (aC (jv 1) aF))) aF))))
theorem z0 {S : aR} (h : Fx S) : fZ S.P S.w S.K S.mg S.base 3 h.fH h.gW lC (cL h.k) := fZ.of h.kX zU (AS h) fun _ _ _ => .iM
theorem AD {S : aR} (h : Fx S) : dN S.K h.gW lC 1 [] aM := bI h.kX fun _ _ _ _ _ _ us hl => match us, hl with
 | [_], _ => rfl
def aAO : List Str := [("_law_script" : Str), ("_law_deck_here" : Str), ("_law_texts" : Str), ("_law_k" : Str), ("_law_good" : Str), ("_law_turn_here" : Str), ("_law_twice" : Str), ("_law_it" : Str), ("_law_some" : Str)]
def aHo : List Str := [("_law_script" : Str)]
abbrev aHT : Scope := defScope (top 54)
def aDb (k : bE) : MS :=
 (aJ (aO (aH (wY k) 1 aM (aA (aB 0) aD)) (aQ 1))
 (aJ (aO (a8 (dB iO (aA (eC (.int 3)) aD)) [3] (aQ 3) bA (aH (cL k) 1 aM (aA (aH (fK k) 2 aM (aA (aB 1) (aA (aE a9 (eC (.int 1)) (aH (bR k) 2 aM (aA (aB 1) (aA (eC (.int 6)) aD)))) aD))) aD))) (aQ 2))
 (aJ (g9 (dB lJ (aA (aB 2) aD)) (bV 2 (aI (aQ 3) (aI (aQ 4) bO))) (g9 (dB iO (aA (eC (.int 20)) aD)) (aQ 5) (aJ (aO (aE eG (aH (bR k) 2 aM (aA (aB 1) (aA (eC (.int 3)) aD))) (eC (.int 0))) (aQ 6))
 (aJ (aO (aH (iF k) 3 aM (aA (aB 1) (aA (aB 4) (aA (aE aY (aB 2) (aE nK (aB 3) (eC (.int 1)))) aD)))) (aQ 7))
 (aJ (dH (dS (aB 6)) (aO (aH (iF k) 3 aM (aA (aB 1) (aA (aB 7) (aA (aE aY (aB 2) (aE nK (aB 3) (eC (.int 1)))) aD)))) (aQ 7)) aZ)
 (dH (iB (cS (dS (aH (cP k) 1 aM (aA (aB 7) aD)))) (cS (dS (aH (cP k) 1 aM (aA (aB 4) aD))))) (aU (eC (.bl false))) aZ))))))
 (aJ (aO (dQ (aA (eC (.str ("" : Str))) (aA (eC (.str ("\n" : Str))) (aA (eC (.str ("-" : Str))) (aA (eC (.str ("-\n" : Str))) (aA (eC (.str ("- ! " : Str))) (aA (eC (.str ("- !" : Str))) (aA (eC (.str ("- ! 0 0 1 1" : Str))) (aA (eC (.str ("- ! 0 0 1" : Str))) (aA (eC (.str ("heal" : Str))) (aA (eC (.str ("heal 0" : Str))) (aA (eC (.str ("tear 0 -" : Str))) (aA (eC (.str ("tear - 0" : Str))) aD))))))))))))) (aQ 8))
 (aJ (aO (aE a9 (aB 8) (dQ (aA (eC (.str ("tear 0,1 0,1" : Str))) (aA (eC (.str ("tear 1,0 -" : Str))) (aA (eC (.str ("tear 0,0 -" : Str))) (aA (eC (.str ("tear 0, -" : Str))) (aA (eC (.str ("tear - -" : Str))) (aA (eC (.str ("tear 0" : Str))) (aA (eC (.str ("fall 0 ; - " : Str))) (aA (eC (.str (" -" : Str))) aD)))))))))) (aQ 8))
 (aJ (aO (aE a9 (aB 8) (dQ (aA (eC (.str ("fall 0 ; -" : Str))) (aA (eC (.str ("- ; heal" : Str))) aD)))) (aQ 8))
 (aJ (aO (aE a9 (aB 8) (dQ (aA (eC (.str ("fall 0 ; " : Str))) (aA (eC (.str (" ; fall 0" : Str))) (aA (eC (.str ("fall 999" : Str))) (aA (eC (.str ("fall 1000" : Str))) (aA (eC (.str ("fall 00" : Str))) (aA (eC (.str ("fall -1" : Str))) (aA (eC (.str ("rank 0 0" : Str))) (aA (eC (.str ("ask 0 0 0" : Str))) aD)))))))))) (aQ 8))
 (aJ (aO (aE a9 (aB 8) (dQ (aA (eC (.str ("- ! 0 0 1 1 ! 0 0 1 1" : Str))) (aA (eC (.str ("- ! 0 0 1 1 ; 0 0 2 1" : Str))) (aA (eC (.str ("- ! 0 0 1 1, 0 0 2 1" : Str))) (aA (eC (.str ("-  ! 0 0 1 1" : Str))) (aA (eC (.str ("--" : Str))) aD))))))) (aQ 8))
 (aJ (aO (aE a9 (aB 8) (dQ (aA (eC (.str ("fall 0 ! -" : Str))) (aA (eC (.str ("Fall 0" : Str))) (aA (eC (.str ("fall 0;fall 1" : Str))) (aA (eC (.str ("fall 1_0" : Str))) (aA (eC (.str ("- ! 0 0 +1 1" : Str))) (aA (aE a9 (eC (.str ("fall " : Str))) (aE qD (eC (.str ("1" : Str))) (eC (.int 5000)))) aD)))))))) (aQ 8))
 (aJ (aO (aE a9 (aB 8) (dQ (aA (aE a9 (eC (.str ("- ! 0 0 1 " : Str))) (aE qD (eC (.str ("2" : Str))) (eC (.int 5000)))) (aA (aE a9 (aE a9 (eC (.str ("tear 0," : Str))) (aE qD (eC (.str ("0" : Str))) (eC (.int 5000)))) (eC (.str (" -" : Str)))) aD)))) (aQ 8))
 (aJ (aO (aE a9 (aB 8) (dQ (aA (eC .non) (aA (eC (.bl true)) (aA (eC (.int 0)) (aA (aE IU (eC (.int 10)) (eC (.int 39))) (aA (bH aD) (aA (dQ (aA (eC (.str ("-" : Str))) aD)) (aA (bH (aA (eC (.str ("-" : Str))) aD)) (aA YF (aA (aE a9 (aE qD (eC (.str ("fall 0 ; " : Str))) (eC (.int 400))) (eC (.str ("fall 0" : Str)))) (aA (aE a9 (aE qD (eC (.str ("-\n" : Str))) (eC (.int 900))) (eC (.str ("x" : Str)))) aD)))))))))))) (aQ 8))
 (aU (aE eG (a8 (cK (aB 8)) [7] (aQ 7) (cS (dS (aH (cP k) 1 aM (aA (aB 7) aD)))) (aB 7)) (dQ aD))))))))))))))
def W6 (k : bE) : MF := bF (aDb k) aAO
theorem aIy : FnScope aAO aHo aHT := bM (by decide +kernel)
theorem aH7 {S : aR} (h : Fx S) : sH (S.body 10 aAO aHT) (defBody (top 54)) (aDb h.k) :=
 (aL (mG 1 (aW (ao rfl) (R7 h) (P8 h) rfl h.FU h.BM (aC (jv 0) aF)))
 (aL (jsc 2 (own := [(("_law_k" : Str), 3)]) (j3 rfl h.oN (aC aN aF)) (by kernel_rfl) (zP 3) cM (aW (ao rfl) (z0 h) (AD h) rfl h.rH h.pF (aC (aW (ao rfl) (NB h) (MV h) rfl h.BX h.zN (aC (jv 1) (aC (aT bG aN (aW (ao rfl) (bW h) (bX h) rfl h.b6 h.bT (aC (jv 1) (aC aN aF)))) aF))) aF)))
 (aL (LS (IW rfl h.qT (aC (jv 2) aF)) (DS (n := 2) (eI (NX 3) (eI (NX 4) yN))) (aX (LS (j3 rfl h.oN (aC aN aF)) (NX 5) (aL (mG 6 (pZ gT (aW (ao rfl) (bW h) (bX h) rfl h.b6 h.bT (aC (jv 1) (aC aN aF))) aN))
 (aL (mG 7 (aW (ao rfl) (CH h) (CY h) rfl h.yC h.uT (aC (jv 1) (aC (jv 4) (aC (fN (jv 2) (aT aCG (jv 3) aN)) aF)))))
 (aL (hY (eV (jv 6)) (aX (mG 7 (aW (ao rfl) (CH h) (CY h) rfl h.yC h.uT (aC (jv 1) (aC (jv 7) (aC (fN (jv 2) (aT aCG (jv 3) aN)) aF)))))) dC)
 (aX (hY (GR (zB (kW (eV (aW (ao rfl) (rM h) (rW h) rfl h.oM h.mN (aC (jv 7) aF)))) (zW (kW (eV (aW (ao rfl) (rM h) (rW h) rfl h.oM h.mN (aC (jv 4) aF))))))) (aX (bP xU)) dC))))))))
 (aL (mG 8 (cX (aC aK (aC aK (aC aK (aC aK (aC aK (aC aK (aC aK (aC aK (aC aK (aC aK (aC aK (aC aK aF))))))))))))))
 (aL (mG 8 (aT bG (jv 8) (cX (aC aK (aC aK (aC aK (aC aK (aC aK (aC aK (aC aK (aC aK aF)))))))))))
 (aL (mG 8 (aT bG (jv 8) (cX (aC aK (aC aK aF)))))
 (aL (mG 8 (aT bG (jv 8) (cX (aC aK (aC aK (aC aK (aC aK (aC aK (aC aK (aC aK (aC aK aF)))))))))))
 (aL (mG 8 (aT bG (jv 8) (cX (aC aK (aC aK (aC aK (aC aK (aC aK aF))))))))
 (aL (mG 8 (aT bG (jv 8) (cX (aC aK (aC aK (aC aK (aC aK (aC aK (aC (aT bG aK (aT BO aK aN)) aF)))))))))
 (aL (mG 8 (aT bG (jv 8) (cX (aC (aT bG aK (aT BO aK aN)) (aC (aT bG (aT bG aK (aT BO aK aN)) aK) aF)))))
 (aL (mG 8 (aT bG (jv 8) (cX (aC e9 (aC xU (aC aN (aC (aT aEa aN aN) (aC (dJ aF) (aC (cX (aC aK aF)) (aC (dJ (aC aK aF)) (aC aCV (aC (aT bG (aT BO aK aN) aK) (aC (aT bG (aT BO aK aN) aK) aF)))))))))))))
 (aX (bP (pZ gT (dA (own := [(("_law_it" : Str), 7)]) (fB (jv 8)) (by kernel_rfl) (zP 7) (aAR (kW (eV (aW (ao rfl) (rM h) (rW h) rfl h.oM h.mN (aC (jv 7) aF))))) (jv 7)) (cX aF)))))))))))))))
theorem aJ3 {S : aR} (h : Fx S) : fZ S.P S.w S.K S.mg S.base 11 h.PM h.aAZ aHo (W6 h.k) := fZ.of h.aHN aIy (aH7 h) fun _ _ _ => .iM
end K65
namespace K65
open PySem PySem.Spec PyProof.Rows L2 Pc Lb Lw Sx
abbrev sx (k : K65.bE) : Sx.bE := ⟨k.eZ, ()⟩
section
variable (k : K65.bE)
theorem RF : K65.bR k = lG := rfl
theorem aIc : K65.m6 k = KC := rfl
theorem aIJ : K65.wY k = aAm := rfl
theorem aGn : K65.fK k = Sx.fK (sx k) := rfl
theorem aI8 : K65.cL k = Sx.cL (sx k) := rfl
theorem aCP : K65.oG k = Sx.dP (sx k) k.bD := rfl
theorem aIT (x0 : D) : begin lA [x0] = [some x0, none] := rfl
theorem aH9 (x0 : D) : begin mH [x0] = [some x0, none, none] := rfl
theorem aJZ (x0 : D) : begin mM [x0] = [some x0, none, none, none, none] := rfl
theorem aFt (x0 : D) : begin k9 [x0] = [some x0, none, none, none, none, none, none, none, none] := rfl
theorem aI3 (x0 : D) : begin jR [x0] = [some x0, none, none, none, none] := rfl
theorem aF6 (x0 x1 x2 : D) : begin rF [x0, x1, x2] = [some x0, some x1, some x2, none, none, none, none, none, none, none, none, none, none, none] := rfl
theorem aEW (x0 : D) : begin oL [x0] = [some x0, none, none] := rfl
theorem aEb (x0 : D) : begin iL [x0] = [some x0, none, none, none] := rfl
theorem aJR (x0 : D) : begin aAO [x0] = [some x0, none, none, none, none, none, none, none, none] := rfl
variable {w w' w0 : W} {P : D → W → Prop} {PF : Fl → W → Prop} {PX : XD → W → Prop} {n l : Nat} {d : D}
theorem aCd {c : Nat} {z : Str} : T (HD (.str ⟨#[c]⟩) (.str z) w) P = P (.bl (!decide (c ∈ z.cps.toList))) w := by unfold T; rfl
theorem aAx : ("0" : Str).cps.toList = [48] := by decide +kernel
theorem aA1 : PyData.strOk ("0" : Str) = true := by decide +kernel
theorem str_list {x y : Str} : x = y ↔ x.cps.toList = y.cps.toList := ⟨fun h => by rw [h], fun h => TL.ext_tl h⟩
theorem atG {α : Type} {xs : List α} {j : Nat} {d : α} (e : xs[j]? = some d) : atI xs (j : Int) = some d := by
 have hl := (ar.mp e).1
 unfold atI ixN
 rw [if_pos (by omega), if_pos (by omega)]
 exact e
theorem aC6 {xs : List Nat} : (xs.filter fun c => !u5 c) = [] ↔ xs.all u5 = true := by
 rw [List.filter_eq_nil_iff, au]
 exact ⟨fun h c hc => by have := h c hc; simpa using this, fun h c hc => by rw [h c hc]; simp⟩
theorem DQ {x : Str} (hx : PyData.strOk x = true) (hl : x.length ≤ 1000000) : K65.eT k [.str x] w = .ok (nQ (iT x)) w := by
 refine pO ?_
 unfold K65.eT K65.qB
 rw [dM, aIT, a7]
 have ls : ∀ (PP : D → W → Prop) (w : W), T (cZ [.str x] w) PP = PP (.int x.length) w := fun PP w => aDA (by omega)
 by_cases c1 : 1 ≤ x.length ∧ x.length ≤ 3
 case neg =>
  have en : iT x = none := by
   unfold iT
   rw [if_neg fun h => c1 ⟨h.1, h.2.1⟩]
  rw [en]
  by_cases c2 : 1 ≤ x.length
  ·have d1 : decide ((1 : Int) ≤ (x.length : Nat)) = true := by rw [ai]; omega
   have d2 : decide ((x.length : Nat) ≤ (3 : Int)) = false := by rw [decide_eq_false_iff_not]; omega
   simp only [ls, d1, d2, cb, ck, zY, af, ae, reduceCtorEq]
   (first | exact ⟨rfl, rfl⟩ | rfl | exact trivial)
  ·have d1 : decide ((1 : Int) ≤ (x.length : Nat)) = false := by rw [decide_eq_false_iff_not]; omega
   simp only [ls, d1, cb, ck, zY, af, ae, reduceCtorEq]
   (first | exact ⟨rfl, rfl⟩ | rfl | exact trivial)
 have d1 : decide ((1 : Int) ≤ (x.length : Nat)) = true := by rw [ai]; omega
 have d2 : decide ((x.length : Nat) ≤ (3 : Int)) = true := by rw [ai]; omega
 have ld : x.cps.toList.length ≤ 3 := by rw [← TL.len_tl]; exact c1.2
 simp only [ls, aEC, aDu, d1, d2, cb, zY, af, ae, reduceCtorEq]
 refine ⟨lI _ (by rw [kN, av]; omega), ?_⟩
 refine aFi (it := ⟨kN x, always⟩) x.cps.toList (fun c => D.str ⟨#[c]⟩) (fun c => D.str ⟨#[c]⟩) (fun c => !u5 c) rfl trivial (fun c hc => ?_) ?_
 ·simp only [cQ, aCd, aAA, zY, af, ae, reduceCtorEq]
  exact fun _ => trivial
 have e0 : ((x.cps.toList.filter fun c => !u5 c).map fun c => D.str ⟨#[c]⟩).isEmpty = x.cps.toList.all u5 := by
  rw [Bool.eq_iff_iff, List.isEmpty_iff, List.map_eq_nil_iff, aC6]
 simp only [LF, KZ, e0, aj, bx, zY, af, ae, reduceCtorEq]
 cases hd : x.cps.toList.all u5 with
 | false =>
  have en : iT x = none := by
   unfold iT
   rw [if_neg fun h => by rw [hd] at h; exact absurd h.2.2 (by simp)]
  rw [en]
  simp only [ck, zY, af, ae, reduceCtorEq]
  (first | exact ⟨rfl, rfl⟩ | rfl | exact trivial)
 | true =>
 obtain ⟨i, ei, en⟩ := aFI c1.1 c1.2 hd
 have ti : ∀ (PP : D → W → Prop) (w : W), T (tM [.str x] w) PP = PP (.int i) w := fun PP w => by
  have : tM [.str x] w = .ok (.int i) w := by
   simp only [tM, ei, if_pos (show x.length ≤ 640 by omega)]
  rw [this, bZ]
 obtain ⟨h0, t0, eh⟩ : ∃ h0 t0, x.cps.toList = h0 :: t0 := di fun e => by
  have : x.length = 0 := dR (by rw [e]; rfl)
  omega
 have ix : ∀ (PP : D → W → Prop) (w : W), T (aY (.str x) (.int 0) w) PP = PP (.str ⟨#[h0]⟩) w := fun PP w => by
  have : aY (.str x) (.int 0) w = .ok (.str ⟨#[h0]⟩) w := by
   have e1 : atI (h0 :: t0) (0 : Int) = some h0 := atG (j := 0) rfl
   simp only [aY, Pc.atS, eh, e1, if_pos (show x.length ≤ sizeLine by rw [sizeLine_eq]; omega)]
  rw [this, bZ]
 have oh : PyData.strOk (⟨#[h0]⟩ : Str) = true := wF (x := x) (fun c hc => by rw [eh]; have := bp.mp hc; rw [this]; exact aw ..) hx
 have b1 : decide ((⟨#[h0]⟩ : Str) = ("0" : Str)) = (h0 == 48) := by
  rw [Bool.eq_iff_iff, ai, str_list, aAx, beq_iff_eq]
  simp
 have b2 : decide (x = ("0" : Str)) = (x.cps.toList == [48]) := by
  rw [Bool.eq_iff_iff, ai, str_list, aAx, beq_iff_eq]
 have hz : VW x.cps.toList = ((h0 == 48) && !(x.cps.toList == [48])) := by
  unfold VW
  rw [eh]
  congr 1
 simp only [cb, ix, nP, LF, cV oh aA1, cV hx aA1, b1, b2, aj, bx, zY, af, ae, reduceCtorEq]
 rw [en, hz]
 cases (h0 == 48)
 ·simp only [Bool.false_and, dc, ae, ti, nQ, zY, af, ae, reduceCtorEq]
 ·cases (x.cps.toList == [48])
  ·simp only [ck, Bool.true_and, af, nQ, zY, af, ae, reduceCtorEq]
  ·simp only [cb, Bool.true_and, dc, ae, ti, nQ, zY, af, ae, reduceCtorEq]
structure Nf (n : Nat) (x : D) : Prop where
 ex : ∃ q, (∀ f, x.e8 f = some q) ∧ q.canLay0 = true ∧ q.depth ≤ n ∧ PyData.eqv q .none = x.isNon
theorem Nf.mono {n n' : Nat} {x : D} (h : Nf n x) (h1 : n ≤ n') : Nf n' x := by
 obtain ⟨q, a, b, c, e⟩ := h.ex
 exact ⟨q, a, b, by omega, e⟩
theorem D5 : Nf 0 .non := ⟨.none, fun _ => rfl, rfl, by simp [PyData.depth], rfl⟩
theorem aIu {i : Int} : Nf 0 (.int i) := ⟨.int i, fun _ => rfl, rfl, by simp [PyData.depth], by simp [PyData.eqv, D.isNon]⟩
theorem Y6 {n m : Nat} {xs : List D} (h : dI n m (.tup xs)) : Nf m (.tup xs) := by
 obtain ⟨q, a, b, c, e⟩ := h.ex
 refine ⟨q, a, (plain_all q b).2.2.2, e, ?_⟩
 have := a fun _ => none
 simp only [D.e8, aq] at this
 obtain ⟨ps, _, rfl⟩ := this
 simp [PyData.eqv, D.isNon]
theorem nfs {n : Nat} : ∀ {xs : List D}, (∀ x ∈ xs, Nf n x) → ∃ qs, (∀ f, D.pysR f xs = some qs) ∧ PyData.canLayAll0 qs = true ∧ PyData.depthAll qs ≤ n ∧ (qs.any fun z => PyData.eqv z .none) = xs.any D.isNon
 | [], _ => ⟨[], fun _ => rfl, rfl, by simp [PyData.depthAll], rfl⟩
 | x :: xs, h => by
  obtain ⟨q, a1, a2, a3, a4⟩ := (h x (aw ..)).ex
  obtain ⟨qs, b1, b2, b3, b4⟩ := nfs fun y hy => h y (bc _ hy)
  exact ⟨q :: qs, fun f => by simp [D.pysR, a1, b1], by simp [PyData.canLayAll0, a2, b2], by simp only [PyData.depthAll]; omega, by rw [List.any_cons, List.any_cons, a4, b4]⟩
theorem aAB {n : Nat} {xs : List D} (h : ∀ x ∈ xs, Nf n x) (hn : n ≤ 30) {y : D} (hy : ∀ qs, (∀ f, D.pysR f xs = some qs) → D.py w y = some (.list qs)) : sJ .non y w = some (xs.any D.isNon) := by
 obtain ⟨qs, b1, b2, b3, b4⟩ := nfs h
 unfold sJ
 have e1 : D.py w .non = some .none := rfl
 have l1 : SeqAt.shaped .none = true := by simp [SeqAt.shaped, PyData.canLay0, PyData.depth]
 have l2 : SeqAt.shaped (.list qs) = true := by
  unfold SeqAt.shaped
  simp [PyData.canLay0, PyData.depth, b2]
  omega
 rw [e1, hy qs b1]
 simp only [l1, l2, and_self, af, b4]
theorem K1 {n : Nat} {xs : List D} (h : ∀ x ∈ xs, Nf n x) (hn : n ≤ 30) : inD .non (.lst xs) w = some (xs.any D.isNon) :=
 aAB h hn fun qs hq => by
  show (D.pysR _ xs).map PyData.list = _
  rw [hq]
  rfl
theorem aAf {n r : Nat} {xs : List D} (h : ∀ x ∈ xs, Nf n x) (hn : n ≤ 30) (hr : w[r]? = some (.lst xs)) : inD .non (.ref r) w = some (xs.any D.isNon) := by
 have e : inD .non (.ref r) w = sJ .non (.ref r) w := by
  unfold inD
  simp only [hr]
 rw [e]
 refine aAB h hn fun qs hq => ?_
 show MW 8 w r = _
 unfold MW
 simp only [hr, hq]
 rfl
theorem aJn {o : Option Int} : Nf 0 (nQ o) := by
 cases o
 ·exact D5
 ·exact aIu
theorem Q1 {os : List (Option Int)} : (os.map nQ).any D.isNon = os.any (·.isNone) := by
 rw [List.any_map]
 congr 1
 funext o
 cases o <;> rfl
theorem RP {os : List (Option Int)} : ∀ x ∈ os.map nQ, Nf 0 x := fun x hx => by
 obtain ⟨o, _, rfl⟩ := cg.mp hx
 exact aJn
theorem Q4 {os : List (Option Int)} : os.any (·.isNone) = (gX os).isNone := by
 rw [Bool.eq_iff_iff, ← oS, Option.isNone_iff_eq_none]
theorem YV {ws : List Str} {vs : List Nat} {g : MG} {e : ME} {σ : Sg} {PL : List D → W → Prop} (hw : ∀ x ∈ ws, PyData.strOk x = true ∧ x.length ≤ 1000000)
  (hg : ∀ y ∈ ws, T (g (.str y) (cQ σ vs) w) fun σ1 w1 => T (bA σ1 w1) fun b w2 => b = true ∧ T (e σ1 w2) fun z w3 => z = nQ (iT y) ∧ w3 = w) (hP : PL ((ws.map iT).map nQ) w) :
  T (jD ⟨ws.map D.str, always⟩ vs g bA e (ws.map D.str) σ w) PL := by
 refine fD (it := ⟨ws.map D.str, always⟩) ws D.str (fun x => nQ (iT x)) rfl trivial hg ?_
 have em : ws.map (fun x => nQ (iT x)) = (ws.map iT).map nQ := by rw [List.map_map]; rfl
 rw [em]
 exact hP
theorem aA9 {x y : D} {b : Bool} (h : inD x y w = some b) : T (L7 x y w) P = P (.bl b) w := by
 have : L7 x y w = .ok (.bl b) w := by simp only [L7, h]
 rw [this, bZ]
theorem xQ {ws : List Str} {ns : List Int} (h : f7 ws = some ns) : ∀ i ∈ ns, 0 ≤ i ∧ i ≤ 999 := fun i hi => by
 have m : some i ∈ ws.map iT := by
  rw [gA h]
  exact List.mem_map_of_mem hi
 obtain ⟨x, _, e⟩ := cg.mp m
 exact aAy e
theorem tK {ns : List Int} (h : ∀ i ∈ ns, 0 ≤ i ∧ i ≤ 999) : ∀ x ∈ ns.map D.int, iR x = true := fun x hx => by
 obtain ⟨i, hi, rfl⟩ := cg.mp hx
 simp only [rB, ak, ai]
 exact h i hi
theorem JQ : ∀ {ns : List Int}, SimDs (ns.map D.int)
 | [] => trivial
 | n :: ns => ⟨trivial, JQ⟩
theorem aFj {xs ys : List Int} (h1 : ∀ i ∈ xs, 0 ≤ i ∧ i ≤ 999) (h2 : ∀ i ∈ ys, 0 ≤ i ∧ i ≤ 999) : DX (.lst (xs.map D.int)) (.lst (ys.map D.int)) w = some (decide (xs = ys)) := by
 have f : ∀ {zs : List Int}, (∀ i ∈ zs, 0 ≤ i ∧ i ≤ 999) → fG ((zs.map D.int).length * (0 + 1)) 1 (zs.map D.int) := fun {zs} h => fG.all fun x hx => Q7 (tK h x hx)
 obtain ⟨b, e, _, q⟩ := aBZ (f h1) (f h2) (by omega) (by omega) JQ JQ
 rw [e w]
 congr 1
 rw [Bool.eq_iff_iff, q, ai]
 exact ⟨fun h => List.map_inj_right (fun a b hab => by cases hab; rfl) |>.mp h, fun h => by rw [h]⟩
def qN (x : Str) : D := match jW x with
 | some ns => if ns = fV ns then .tup (ns.map D.int) else .non
 | none => .non
theorem aA3 {x : Str} {ns : List Int} (h : jW x = some ns) : ∀ i ∈ ns, 0 ≤ i ∧ i ≤ 999 := by
 unfold jW at h
 split at h
 ·cases h
  exact fun i hi => nomatch hi
 ·exact xQ h
theorem aJp {ns : List Int} (hl : ns.length < 64) : T (wH (.lst (ns.map D.int)) w) P = P (.lst ((fV ns).map D.int)) w := by
 have : wH (.lst (ns.map D.int)) w = .ok (.lst ((fV ns).map D.int)) w := by
  simp only [wH, D.items, Option.bind_some, Pc.oZ, hl, af]
 rw [this, bZ]
theorem yO {ns : List Int} : (ns.map some).map nQ = ns.map D.int := by rw [List.map_map]; rfl
theorem aDP {x : Str} (hx : PyData.strOk x = true) (hl : x.length ≤ 900000) (hno : ∀ s ∈ TL.tl x, s ≠ 32 ∧ s ≠ 10) (hc : cm x ≤ 60) : K65.mL k [.str x] w = .ok (qN x) w := by
 refine pO ?_
 unfold K65.mL K65.rZ
 rw [dM, aH9, a7]
 simp only [nP, cV hx HE, aj, bx, zY, af, ae, reduceCtorEq]
 unfold qN jW
 by_cases c : x = ("-" : Str)
 ·(simp only [decide_eq_true c, if_pos c, dz, zY, af, ae, reduceCtorEq]) <;> (first | exact ⟨rfl, rfl⟩ | rfl | trivial)
 ·have p := bN (x := x) yH
  have pm := p.many
  have cnt := aBz (x := x) yH (s := 44) JZ
  have c44 := YJ (TL.tl x) 0 hno
  have cmx : fP 0 (TL.tl x) ≤ 60 := hc
  simp only [de c, if_neg c, zY, af, ae, reduceCtorEq]
  rw [a7]
  simp only [DM, fJ yH (show x.length ≤ 16000000 by omega), vM, zY, af, ae, reduceCtorEq]
  refine ⟨lI _ (by rw [av]; omega), ?_⟩
  refine YV (fun z hz => ⟨p.ok hx hz, by have := p.le hz; omega⟩) (fun y hy => ?_) ?_
  ·simp only [cQ, DQ k (p.ok hx hy) (show y.length ≤ 1000000 by have := p.le hy; omega), zY, af, ae, reduceCtorEq]
  rw [BB (K1 RP (by omega)), Q1, Q4]
  unfold f7
  cases h : gX ((Txt.split x ",").map iT) with
  | none =>
   (simp only [Option.isNone_none, cb, zY, af, ae, reduceCtorEq]) <;> (first | exact ⟨rfl, rfl⟩ | rfl | trivial)
  | some ns =>
   have hn := xQ (ws := Txt.split x ",") h
   have ln := j4 (ws := Txt.split x ",") h
   rw [gA h]
   simp only [Option.isNone_some, ck, yO, aJp (ns := ns) (by omega), nP, aFj hn (fun i hi => hn i (lS.mp hi)), aj, bx, vT, zY, af, ae, reduceCtorEq]
   by_cases cr : ns = fV ns
   ·rw [if_pos cr]
    simp only [decide_eq_true cr, yO, vT, zY, af, ae, reduceCtorEq]
   ·rw [if_neg cr]
    simp only [de cr, zY, af, ae, reduceCtorEq]
end
section
variable (k : K65.bE)
variable {w w' w0 : W} {P : D → W → Prop} {PF : Fl → W → Prop} {PX : XD → W → Prop} {n l : Nat} {d : D}
def kv8 : List (Key × D) := [(.inr ("fall" : Str), .int 1), (.inr ("stop" : Str), .int 1), (.inr ("rise" : Str), .int 1), (.inr ("down" : Str), .int 1), (.inr ("up" : Str), .int 1), (.inr ("rank" : Str), .int 3), (.inr ("heal" : Str), .int 0), (.inr ("ask" : Str), .int 2)]
theorem V2 {z : Str} : ∀ (l : List (Str × Int)) (n : Nat), ∃ m : Int, (jM (l.map fun p => ((Sum.inr p.1 : Key), D.int p.2)) (.inr z)).getD (.int (-1)) = .int m ∧ tG n ((l.map fun p => (p.1, some (D.int p.2))).lookup z) = ((n : Int) == m)
 | [], n => ⟨-1, rfl, by
  have : ((n : Int) == -1) = false := by rw [eb]; omega
  rw [this]
  rfl⟩
 | (y, i) :: l, n => by
  by_cases h : z = y
  ·subst h
   refine ⟨i, by simp [jM], ?_⟩
   simp only [bt, List.lookup_cons, beq_self_eq_true]
   show (i == (n : Int)) = _
   rw [Bool.eq_iff_iff, beq_iff_eq, beq_iff_eq]
   exact eq_comm
  ·obtain ⟨m, h1, h2⟩ := V2 l n
   have hk : ¬ (Sum.inr y : Key) = .inr z := fun e => h (Sum.inr.inj e).symm
   refine ⟨m, ?_, ?_⟩
   ·rw [bt, jM, if_neg hk]
    exact h1
   ·have hb : (z == y) = false := eb.mpr h
    rw [bt, List.lookup_cons, hb]
    exact h2
def aMi : List (Str × Int) := [("fall", 1), ("stop", 1), ("rise", 1), ("down", 1), ("up", 1), ("rank", 3), ("heal", 0), ("ask", 2)]
theorem aLE (z : Str) (n : Nat) : ∃ m : Int, (jM kv8 (.inr z)).getD (.int (-1)) = .int m ∧ tG n (Sx.cA.lookup z) = ((n : Int) == m) := V2 (z := z) aMi n
def QP (x : Str) : D := if dZ (AR x) = true then AR x else .non
theorem Q5 {c : Nat} {ns : List Int} (h : ∀ i ∈ ns, 0 ≤ i ∧ i ≤ 999) : iX c (.tup (ns.map D.int)) = (decide (c ≤ ns.length) && decide (ns = fV ns)) := by
 have e : (ns.map D.int).all iR = true := by
  rw [au]
  exact tK h
 simp only [iX, e, Sx.ints_map, av, Bool.true_and]
theorem aEv {a : D} {l : List D} : fO (.lst (a :: l)) (some 1) none w = .ok (.lst l) w := by
 have := U3 (a :: l) 1
 simp only [fO]
 rw [show (some (1 : Int)) = some ((1 : Nat) : Int) from rfl, this]
 rfl
theorem aF3 {x : Str} : Nf 5 (qN x) := by
 unfold qN
 split
 ·rename_i ns h
  split
  ·exact (Y6 (wG (tK (aA3 h)))).mono (by omega)
  ·exact D5.mono (by omega)
 ·exact D5.mono (by omega)
theorem yK (x : Str) : (qN x = .non ∧ ∀ c, iX c (gJ (jW x)) = false) ∨ ∃ ns, jW x = some ns ∧ ns = fV ns ∧ (∀ i ∈ ns, 0 ≤ i ∧ i ≤ 999) ∧ qN x = .tup (ns.map D.int) := by
 unfold qN
 cases h : jW x with
 | none => exact .inl ⟨rfl, fun c => rfl⟩
 | some ns =>
  have hn := aA3 h
  by_cases c : ns = fV ns
  ·exact .inr ⟨ns, rfl, c, hn, if_pos c⟩
  ·refine .inl ⟨if_neg c, fun c0 => ?_⟩
   show iX c0 (.tup (ns.map D.int)) = false
   rw [Q5 hn, de c, Bool.and_false]
theorem OX {u v : Str} : (D.tup [qN u, qN v] = .tup [qN u, qN v]) ∧ dZ (.tup [.str ("tear" : Str), gJ (jW u), gJ (jW v)]) = (!(qN u).isNon && (!(qN v).isNon && !(match qN u with | .tup xs => xs.isEmpty | _ => true))) ∧ ((qN u).isNon = false → qN u = gJ (jW u)) := by
 refine ⟨rfl, ?_, ?_⟩
 ·have e : dZ (.tup [.str ("tear" : Str), gJ (jW u), gJ (jW v)]) = (iX 1 (gJ (jW u)) && iX 0 (gJ (jW v))) := by
   simp only [dZ, af]
   rfl
  rw [e]
  rcases yK u with ⟨e1, e2⟩ | ⟨ns, e1, e2, e3, e4⟩
  ·rw [e1, e2]
   rfl
  ·rcases yK v with ⟨f1, f2⟩ | ⟨ms, f1, f2, f3, f4⟩
   ·rw [f1, f2, Bool.and_false, e4]
    rfl
   ·rw [e4, f4, e1, f1]
    show (iX 1 (.tup (ns.map D.int)) && iX 0 (.tup (ms.map D.int))) = _
    rw [Q5 e3, Q5 f3, decide_eq_true e2, decide_eq_true f2, decide_eq_true (Nat.zero_le _)]
    cases ns <;> simp [D.isNon]
 ·rcases yK u with ⟨e1, e2⟩ | ⟨ns, e1, e2, e3, e4⟩
  ·intro h
   rw [e1] at h
   cases h
  ·intro _
   rw [e4, e1]
   rfl
theorem V4 {u : Str} (h : (qN u).isNon = false) : qN u = gJ (jW u) := (OX (u := u) (v := u)).2.2 h
theorem aFq {x : Str} (hno : ∀ s ∈ TL.tl x, s ≠ 10) {p : Str} (hp : p ∈ Txt.split x " ") : ∀ s ∈ TL.tl p, s ≠ 32 ∧ s ≠ 10 := fun s hs => by
 have h32 := split_free gG Lw.U9 p hp
 exact ⟨fun e => h32 (e ▸ hs), hno s ((bN (x := x) gG).mem p hp s hs)⟩
theorem aEu {x : Str} (hx : PyData.strOk x = true) (hl : x.length ≤ 50000) (hno : ∀ s ∈ TL.tl x, s ≠ 10) (hc : cm x ≤ 60) (hP : ∀ w', Gr w w' → P (QP x) w') : T (K65.jP k [.str x] w) P := by
 have p := bN (x := x) gG
 have pm := p.many
 obtain ⟨z, ws, e⟩ : ∃ z ws, Txt.split x " " = z :: ws := di p.ne
 have hz : PyData.strOk z = true := p.ok hx (by rw [e]; exact aw ..)
 have mw : ∀ y ∈ ws, y ∈ Txt.split x " " := fun y hy => by rw [e]; exact bc _ hy
 have ea : AR x = RS (z :: ws) := by unfold AR; rw [e]
 unfold QP at hP
 rw [ea] at hP
 rw [e, bg] at pm
 unfold K65.jP K65.sC
 rw [dM, aJZ, a7]
 simp only [DM, fJ gG (show x.length ≤ 16000000 by omega), e, bt, zY, af, ae, reduceCtorEq]
 rw [a7]
 simp only [at0, nP, cV hz BL, aj, bx, zY, af, ae, reduceCtorEq]
 by_cases c : z = ("tear" : Str)
 ·subst c
  simp only [decide_true, zY, af, ae, reduceCtorEq]
  rw [a7]
  simp only [aEv, bZ, vM, zY, af, ae, reduceCtorEq]
  refine ⟨lI _ (by rw [av]; omega), ?_⟩
  refine fD (it := ⟨ws.map D.str, always⟩) ws D.str qN rfl trivial (fun y hy => ?_) ?_
  ·have py := mw y hy
   simp only [cQ, aDP k (p.ok hx py) (show y.length ≤ 900000 by have := p.le py; omega) (aFq hno py) (bq (qP gG py) hc), zY, af, ae, reduceCtorEq]
  simp only [SJ, av, nP, k7, aj, bx, zY, af, ae, reduceCtorEq]
  have e3 : RS (("tear" : Str) :: ws) = .tup (.str ("tear" : Str) :: ws.map fun y => gJ (jW y)) := by
   unfold RS
   simp only [af]
  rw [e3] at hP
  match ws, hP with
  | [u, v], hP =>
   obtain ⟨_, q2, _⟩ := OX (u := u) (v := v)
   have h1 : (((([u, v] : List Str).length : Nat) : Int) == 2) = true := rfl
   have nf : ∀ y ∈ ([u, v] : List Str).map qN, Nf 5 y := fun y hy => by
    obtain ⟨a, _, rfl⟩ := cg.mp hy
    exact aF3
   have hi := K1 (w := w) nf (by omega)
   have hP : P (if dZ (.tup [.str ("tear" : Str), gJ (jW u), gJ (jW v)]) = true then .tup [.str ("tear" : Str), gJ (jW u), gJ (jW v)] else .non) w := hP w ⟨[], by simp⟩
   rw [q2] at hP
   simp only [h1, bt, dz] at hi ⊢
   simp only [BB hi, zY, af, ae, reduceCtorEq]
   simp only [List.any_cons, List.any_nil, Bool.or_false] at hi ⊢
   cases n1 : (qN u).isNon with
   | true =>
    rw [n1] at hP
    simp only [Bool.true_or, cb, zY, af, ae, reduceCtorEq]
    exact hP
   | false =>
    cases n2 : (qN v).isNon with
    | true =>
     rw [n1, n2] at hP
     simp only [Bool.false_or, cb, zY, af, ae, reduceCtorEq]
     exact hP
    | false =>
     have eu := V4 n1
     have ev := V4 n2
     rw [n1, n2] at hP
     rw [← eu, ← ev] at hP
     rcases yK u with ⟨f1, _⟩ | ⟨ns, f1, f2, f3, f4⟩
     ·rw [f1] at n1
      cases n1
     rw [f4] at hP ⊢
     simp only [Bool.or_false, ck, at0, LF, yJ, vT, DR, aj, bx, zY, af, ae, reduceCtorEq]
     cases ns with
     | nil =>
      simp only [dz, List.isEmpty_nil, cb, zY, af, ae, reduceCtorEq]
      exact hP
     | cons a r =>
      simp only [bt, List.isEmpty_cons, ck, zY, af, ae, reduceCtorEq]
      exact hP
  | [], hP => exact hP w ⟨[], by simp⟩
  | [u], hP => exact hP w ⟨[], by simp⟩
  | u :: v :: t :: r, hP =>
   have h1 : ((((u :: v :: t :: r : List Str).length : Nat) : Int) == 2) = false := by
    rw [eb]
    simp only [bg]
    omega
   have h2 : dZ (.tup (.str ("tear" : Str) :: (u :: v :: t :: r).map fun y => gJ (jW y))) = false := by
    simp only [dZ, af]
    rfl
   rw [h2] at hP
   simp only [h1, zY, af, ae, reduceCtorEq]
   exact hP w ⟨[], by simp⟩
 ·simp only [de c, zY, af, ae, reduceCtorEq]
  rw [a7]
  simp only [aCN, SD, ZI, zY, af, ae, reduceCtorEq]
  refine ⟨kv8, rfl, by decide, ?_⟩
  obtain ⟨w2, e2⟩ : ∃ w2, w2 = w ++ [MO.dK kv8] := ⟨_, rfl⟩
  have hq : w2[w.length]? = some (.dK kv8) := by rw [e2]; exact AQ
  have g2 : Gr w w2 := ⟨_, e2⟩
  have e3 : w ++ [MO.dK (AM [] kv8)] = w2 := by rw [e2]; rfl
  rw [e3]
  have tyk : tyD (.ref w.length) w2 = some "dict" := by simp only [tyD, hq]
  obtain ⟨m, hm, hs⟩ := aLE z ws.length
  have gm : getM (.ref w.length) [.str z, .int (-1)] w2 = .ok (.int m) w2 := by
   have : qU (.dK kv8) (.str z) = some (jM kv8 (.inr z)) := rfl
   simp only [getM, hq, this, hm]
  simp only [tyk, at0, gm, aj, bx, zY, af, ae, reduceCtorEq]
  rw [a7]
  simp only [aEv, bZ, vM, zY, af, ae, reduceCtorEq]
  refine ⟨lI _ (by rw [av]; omega), ?_⟩
  refine YV (fun y hy => ⟨p.ok hx (mw y hy), by have := p.le (mw y hy); omega⟩) (fun y hy => ?_) ?_
  ·simp only [cQ, DQ k (p.ok hx (mw y hy)) (show y.length ≤ 1000000 by have := p.le (mw y hy); omega), zY, af, ae, reduceCtorEq]
  simp only [SJ, av, nP, k7, aj, bx, BB (K1 RP (by omega)), Q1, Q4, at0, vT, zY, af, ae, reduceCtorEq]
  have e4 : RS (z :: ws) = match f7 ws with
    | none => .tup []
    | some ns => .tup (.str z :: ns.map D.int) := by
   unfold RS
   (simp only [if_neg c]) <;> (cases f7 ws <;> rfl)
  rw [e4] at hP
  unfold f7 at hP
  cases h : gX (ws.map iT) with
  | none =>
   rw [h] at hP
   have : dZ (.tup []) = false := rfl
   simp only [this, dc, ae] at hP
   cases ((ws.length : Nat) : Int) == m
   ·simp only [zY, af, ae, reduceCtorEq]
    exact hP w2 g2
   ·simp only [Option.isNone_none, cb, zY, af, ae, reduceCtorEq]
    exact hP w2 g2
  | some ns =>
   rw [h] at hP
   have hn := xQ (ws := ws) h
   have ln := j4 (ws := ws) h
   have ab : dZ (.tup (.str z :: ns.map D.int)) = ((ws.length : Int) == m) := by
    have : dZ (.tup (.str z :: ns.map D.int)) = (tG (ns.map D.int).length (Sx.cA.lookup z) && (ns.map D.int).all iR) := by
     simp only [dZ, if_neg c]
    rw [this, av, ln, hs]
    have : (ns.map D.int).all iR = true := by
     rw [au]
     exact tK hn
    rw [this, Bool.and_true]
   simp only [ab] at hP
   rw [gA h]
   cases hb : ((ws.length : Nat) : Int) == m
   ·rw [hb] at hP
    simp only [zY, af, ae, reduceCtorEq]
    exact hP w2 g2
   ·rw [hb] at hP
    simp only [Option.isNone_some, ck, yO, DR, zY, af, ae, reduceCtorEq]
    exact ⟨lI _ (by omega), hP w2 g2⟩
end
section
variable (k : K65.bE)
variable {w w' w0 : W} {P : D → W → Prop} {PF : Fl → W → Prop} {PX : XD → W → Prop} {n l : Nat} {d : D}
def wO (u : Str) : List D := if u = ("-" : Str) then [] else (Txt.split u " ; ").map QP
def qM (p : Str) : D := match f7 (Txt.split p " ") with
 | some ns => if ns.length = 4 then .tup (ns.map D.int) else .non
 | none => .non
theorem aEs (p : Str) : (QP p).isNon = !dZ (AR p) := by
 unfold QP
 cases h : dZ (AR p) with
 | false => rfl
 | true =>
  obtain ⟨ys, e⟩ := aAN h
  rw [if_pos rfl, e]
  rfl
theorem SN {f g : Str → D} {q : D → Bool} (h : ∀ p, (f p).isNon = !q (g p)) : ∀ ps : List Str, (ps.map f).any D.isNon = !(ps.map g).all q
 | [] => rfl
 | p :: ps => by
  rw [bt, bt, List.any_cons, List.all_cons, SN h ps, h p, Bool.not_and]
theorem aE7 (u : Str) : (wO u).any D.isNon = !(jY u).all dZ := by
 unfold wO jY
 split
 ·rfl
 ·exact SN aEs _
theorem aB7 {u : Str} (h : (jY u).all dZ = true) : wO u = jY u := by
 unfold wO jY at *
 split
 ·rfl
 ·rename_i c
  rw [if_neg c] at h
  refine List.map_congr_left fun p hp => ?_
  rw [au] at h
  unfold QP
  rw [if_pos (h _ (List.mem_map_of_mem hp))]
theorem VX {ws : List Str} : gY (gJ (f7 ws)) = match f7 ws with
 | some ns => decide (ns.length = 4)
 | none => false := by
 cases h : f7 ws with
 | none => rfl
 | some ns =>
  have : (ns.map D.int).all iR = true := by
   rw [au]
   exact tK (xQ h)
  simp only [gJ, gY, this, av, Bool.and_true]
  rw [Bool.eq_iff_iff, beq_iff_eq, ai]
theorem aER (p : Str) : (qM p).isNon = !gY (gJ (f7 (Txt.split p " "))) := by
 rw [VX]
 unfold qM
 cases f7 (Txt.split p " ") with
 | none => rfl
 | some ns =>
  by_cases c : ns.length = 4
  ·simp only [if_pos c, decide_eq_true c]
   rfl
  ·simp only [if_neg c, de c]
   rfl
theorem aCg {y : Str} (h : (gP y).all gY = true) : (Txt.split y " , ").map qM = gP y := by
 unfold gP at *
 refine List.map_congr_left fun p hp => ?_
 rw [au] at h
 have := h _ (List.mem_map_of_mem hp)
 rw [VX] at this
 unfold qM
 cases hn : f7 (Txt.split p " ") with
 | none => rw [hn] at this; cases this
 | some ns =>
  rw [hn] at this
  simp only [ai] at this
  simp only [if_pos this]
  rfl
theorem aFn {p : Str} : Nf 5 (QP p) := by
 unfold QP
 split
 ·rename_i h
  have f := aBm h
  obtain ⟨ys, e⟩ := aAN h
  rw [e] at f ⊢
  exact (Y6 f).mono (by omega)
 ·exact D5.mono (by omega)
theorem aFh {p : Str} : Nf 5 (qM p) := by
 unfold qM
 split
 ·rename_i ns h
  split
  ·exact (Y6 (wG (tK (xQ h)))).mono (by omega)
  ·exact D5.mono (by omega)
 ·exact D5.mono (by omega)
def aHO : MS := (aJ (aO (a8 (cK (bB "str" splitM (aB 6) (aA (eC (.str (" " : Str))) aD))) [8] (aQ 8) bA (aH (eT k) 1 aM (aA (aB 8) aD))) (aQ 7))
 (cR (bB "list" cJ (aB 5) (aA (sQ (fU (aV (aE eG (aP cZ (aA (aB 7) aD)) (eC (.int 4)))) (aV (aE kO (eC .non) (aB 7)))) (aP cH (aA (aB 7) aD)) (eC .non)) aD))))
theorem aIz {ps : List Str} (hps : ∀ p ∈ ps, PyData.strOk p = true ∧ p.length ≤ 50000) (hl : ps.length ≤ 900000) {q : Nat} {x0 x1 x2 x3 x4 : D} {s6 s7 s8 : Option D} (hq : w[q]? = some (.lst []))
  (hP : ∀ s6 s7 s8, PF (.nx [some x0, some x1, some x2, some x3, some x4, some (.ref q), s6, s7, s8]) (w.set q (.lst (ps.map qM)))) :
  T (forL ⟨ps.map D.str, always⟩ (aQ 6) (aHO k) (ps.map D.str) [some x0, some x1, some x2, some x3, some x4, some (.ref q), s6, s7, s8] w) PF := by
 have hql := (ar.mp hq).1
 refine KU (it := ⟨ps.map D.str, always⟩) (fun j σ w' => w' = w.set q (.lst ((ps.take j).map qM)) ∧ ∃ s6 s7 s8, σ = [some x0, some x1, some x2, some x3, some x4, some (.ref q), s6, s7, s8]) (fun _ _ _ _ => trivial)
  ⟨by rw [List.take_zero]; exact set_nil hq, _, _, _, rfl⟩ (fun j x σ w' hx ⟨ew, s6, s7, s8, es⟩ => ?_) fun σ w' ⟨ew, s6, s7, s8, es⟩ => ?_
 case refine_2 =>
  subst es
  rw [av, List.take_length] at ew
  rw [ew]
  exact hP _ _ _
 subst es
 rw [da] at hx
 obtain ⟨z, hz, rfl⟩ := aq.mp hx
 have mz := cq hz
 obtain ⟨z1, z2⟩ := hps z mz
 have p := bN (x := z) gG
 have pm := p.many
 have hq' : w'[q]? = some (.lst ((ps.take j).map qM)) := by rw [ew]; exact cc hql
 unfold aHO
 rw [aI9, a7]
 simp only [DM, fJ gG (show z.length ≤ 16000000 by omega), vM, zY, af, ae, reduceCtorEq]
 refine ⟨lI _ (by rw [av]; omega), ?_⟩
 refine YV (fun y hy => ⟨p.ok z1 hy, by have := p.le hy; omega⟩) (fun y hy => ?_) ?_
 ·simp only [cQ, DQ k (p.ok z1 hy) (show y.length ≤ 1000000 by have := p.le hy; omega), zY, af, ae, reduceCtorEq]
 have e4 : qM z = match gX ((Txt.split z " ").map iT) with
  | some ns => if ns.length = 4 then .tup (ns.map D.int) else .non
  | none => .non := rfl
 have fin : ∀ v : D, v = qM z → ((ps.take j).length < sizeLine ∧ ∀ s6 s7 s8, (fun (j : Nat) (σ : Sg) (w' : W) => w' = w.set q (.lst ((ps.take j).map qM)) ∧ ∃ s6 s7 s8, σ = [some x0, some x1, some x2, some x3, some x4, some (.ref q), s6, s7, s8]) (j + 1) [some x0, some x1, some x2, some x3, some x4, some (.ref q), s6, s7, s8] (w'.set q (.lst ((ps.take j).map qM ++ [v])))) := fun v ev => by
  refine ⟨by rw [dn, sizeLine_eq]; omega, fun s6 s7 s8 => ⟨?_, _, _, _, rfl⟩⟩
  rw [ew, List.set_set, List.take_add_one, hz, ev, cj]
  rfl
 simp only [tyL hq', SJ, av, nP, k7, aj, bx, BB (K1 RP (by omega)), Q1, Q4, vT, kG hq', zY, af, ae, reduceCtorEq]
 cases h : gX ((Txt.split z " ").map iT) with
 | none =>
  obtain ⟨f1, f2⟩ := fin .non (by rw [e4, h])
  cases (((Txt.split z " ").length : Nat) : Int) == 4
  ·simp only [kG hq', zY, af, ae, reduceCtorEq]
   exact ⟨f1, f2 _ _ _⟩
  ·simp only [Option.isNone_none, cb, kG hq', zY, af, ae, reduceCtorEq]
   exact ⟨f1, f2 _ _ _⟩
 | some ns =>
  have ln := j4 (ws := Txt.split z " ") h
  rw [h] at e4
  rw [gA h]
  by_cases c : ns.length = 4
  ·have b4 : ((((Txt.split z " ").length : Nat) : Int) == 4) = true := by rw [beq_iff_eq]; omega
   simp only [if_pos c] at e4
   obtain ⟨f1, f2⟩ := fin _ e4.symm
   simp only [b4, Option.isNone_some, ck, yO, vT, kG hq', zY, af, ae, reduceCtorEq]
   exact ⟨f1, f2 _ _ _⟩
  ·have b4 : ((((Txt.split z " ").length : Nat) : Int) == 4) = false := by rw [eb]; omega
   simp only [if_neg c] at e4
   obtain ⟨f1, f2⟩ := fin _ e4.symm
   simp only [b4, kG hq', zY, af, ae, reduceCtorEq]
   exact ⟨f1, f2 _ _ _⟩
theorem aCT (x : Str) : cY x = if ((wO (Txt.partition x " ! ").1).any D.isNon || (((if (Txt.partition x " ! ").2.1 = ("" : Str) then [] else Txt.split (Txt.partition x " ! ").2.2 " , ").map qM).any D.isNon)) = true then .non else .tup [.tup (wO (Txt.partition x " ! ").1), .tup ((if (Txt.partition x " ! ").2.1 = ("" : Str) then [] else Txt.split (Txt.partition x " ! ").2.2 " , ").map qM)] := by
 unfold cY JH
 obtain ⟨⟨u, v, y⟩, ep⟩ : ∃ p, p = Txt.partition x " ! " := ⟨_, rfl⟩
 rw [← ep]
 simp only
 have e1 : (((if v = ("" : Str) then [] else Txt.split y " , ").map qM).any D.isNon) = !((if v = ("" : Str) then [] else gP y).all gY) := by
  split
  ·rfl
  ·exact SN aER _
 rw [aE7, e1]
 have e2 : fT (.tup [.tup (jY u), .tup (if v = ("" : Str) then [] else gP y)]) = ((jY u).all dZ && (if v = ("" : Str) then [] else gP y).all gY) := rfl
 rw [e2]
 cases h1 : (jY u).all dZ with
 | false => simp
 | true =>
  cases h2 : (if v = ("" : Str) then [] else gP y).all gY with
  | false => simp
  | true =>
   rw [aB7 h1]
   have e3 : (if v = ("" : Str) then [] else Txt.split y " , ").map qM = if v = ("" : Str) then [] else gP y := by
    split
    ·rfl
    ·rename_i c
     rw [if_neg c] at h2
     exact aCg h2
   rw [e3]
   simp
theorem aJx (g : Gr w w') : w.length ≤ w'.length := by
 obtain ⟨x, rfl⟩ := g
 rw [bw]
 omega
theorem aCR (g : Gr w w') {q : Nat} (hq : w.length ≤ q) {o : MO} : Gr w (w'.set q o) := by
 obtain ⟨x, rfl⟩ := g
 rw [List.set_append_right _ _ hq]
 exact ⟨_, rfl⟩
theorem aLC (g : Gr w w') {q : Nat} {o : MO} (h : w[q]? = some o) : w'[q]? = some o := by
 obtain ⟨x, rfl⟩ := g
 rw [bj (ar.mp h).1]
 exact h
theorem SX : Gr w w := ⟨[], by simp⟩
theorem aCp {x : Str} (hx : PyData.strOk x = true) (hl : x.length ≤ 50000) (hno : ∀ s ∈ TL.tl x, s ≠ 10) (hc : cm x ≤ 60) (hP : ∀ w', Gr w w' → P (cY x) w') : T (K65.iE k [.str x] w) P := by
 rw [aCT] at hP
 obtain ⟨c, cm3⟩ := mD (x := x) tX
 obtain ⟨k1, k2⟩ := YU (x := x) tX
 obtain ⟨⟨u, v, y⟩, ep⟩ : ∃ p, p = Txt.partition x " ! " := ⟨_, rfl⟩
 rw [← ep] at c cm3 hP k1 k2
 simp only at c cm3 hP k1 k2
 have h1 := c.len
 simp only at h1
 have hu : PyData.strOk u = true := wF c.m1 hx
 have hy : PyData.strOk y = true := wF c.m3 hx
 have nu : ∀ s ∈ TL.tl u, s ≠ 10 := fun s hs => hno s (c.m1 s hs)
 have hv : PyData.strOk v = true := by
  rcases cm3 with rfl | rfl
  ·exact exc_ok
  ·exact KL
 clear c cm3
 unfold K65.iE K65.qJ
 rw [dM, aFt, a7]
 simp only [DM, aAQ tX (show x.length ≤ 16000000 by omega), ← ep, zY, af, ae, reduceCtorEq]
 rw [a7]
 have aa : ∀ (PP : D → W → Prop) (s3 s4 s5 s6 s7 s8 : Option D), (∀ w', Gr w w' → PP (.lst (wO u)) w') → T (sQ (aV (aE eG (aB 1) (eC (.str ("-" : Str))))) (dQ aD) (a8 (cK (bB "str" splitM (aB 1) (aA (eC (.str (" ; " : Str))) aD))) [6] (aQ 6) bA (aH (jP k) 1 aM (aA (aB 6) aD))) [some (.str x), some (.str u), some (.str v), s3, s4, s5, s6, s7, s8] w) PP := fun PP s3 s4 s5 s6 s7 s8 hPP => by
  simp only [nP, cV hu HE, aj, bx, zY, af, ae, reduceCtorEq]
  unfold wO at hPP
  by_cases cu : u = ("-" : Str)
  ·rw [if_pos cu] at hPP
   simp only [decide_eq_true cu, zY, af, ae, reduceCtorEq]
   exact hPP w SX
  ·rw [if_neg cu] at hPP
   have p := bN (x := u) uQ
   have pm := p.many
   simp only [de cu, DM, fJ uQ (show u.length ≤ 16000000 by omega), vM, zY, af, ae, reduceCtorEq]
   refine ⟨lI _ (by rw [av]; omega), ?_⟩
   refine B6 (it := ⟨(Txt.split u " ; ").map D.str, always⟩) (fun j acc w' => Gr w w' ∧ acc = ((Txt.split u " ; ").take j).map QP) (fun _ _ _ _ => trivial) ⟨SX, rfl⟩ (fun j d acc w' hj ⟨g, ea⟩ => ?_) fun acc w' ⟨g, ea⟩ => ?_
   ·rw [da] at hj
    obtain ⟨z, hz, rfl⟩ := aq.mp hj
    have mz := cq hz
    simp only [cQ, zY, af, ae, reduceCtorEq]
    refine aEu k (p.ok hu mz) (by have := p.le mz; omega) (fun s hs => nu s (p.mem z mz s hs)) (bq (qP uQ mz) (bq k1 hc)) fun w2 g2 => ?_
    try simp only [zY, af, ae, reduceCtorEq]
    refine ⟨g.trans g2, ?_⟩
    rw [ea, List.take_add_one, hz, cj]
    rfl
   ·rw [show (⟨(Txt.split u " ; ").map D.str, always⟩ : lO).xs.length = (Txt.split u " ; ").length from av .., List.take_length] at ea
    rw [ea]
    exact hPP w' g
 rw [U8]
 refine aa _ _ _ _ _ _ _ fun w1 g1 => ?_
 simp only [zY, af, ae, reduceCtorEq]
 rw [a7]
 simp only [zY, af, ae, reduceCtorEq]
 obtain ⟨q, eq⟩ : ∃ q, q = w1.length := ⟨_, rfl⟩
 obtain ⟨w2, e2⟩ : ∃ w2, w2 = w1 ++ [MO.lst []] := ⟨_, rfl⟩
 have hq : w2[q]? = some (.lst []) := by rw [e2, eq]; exact AQ
 have g2 : Gr w w2 := g1.trans ⟨_, e2⟩
 have lq : w.length ≤ q := by rw [eq]; exact aJx g1
 rw [← e2, ← eq, a7, US]
 obtain ⟨ps, eps⟩ : ∃ ps, ps = if v = ("" : Str) then [] else Txt.split y " , " := ⟨_, rfl⟩
 rw [← eps] at hP
 have bb : ∀ (PI : lO → W → Prop) (s4 s5 s6 s7 s8 : Option D), PI ⟨ps.map D.str, always⟩ w2 → T (cK (sQ (aV (aE oX (aB 2) (eC (.str ("" : Str))))) (bB "str" splitM (aB 3) (aA (eC (.str (" , " : Str))) aD)) (dQ aD)) [some (.str x), some (.str u), some (.str v), some (.str y), s4, s5, s6, s7, s8] w2) PI := fun PI s4 s5 s6 s7 s8 hPI => by
  simp only [LF, cV hv KL, aj, bx, zY, af, ae, reduceCtorEq]
  by_cases cv : v = ("" : Str)
  ·rw [if_pos cv] at eps
   rw [eps] at hPI
   simp only [decide_eq_true cv, cb, vM, zY, af, ae, reduceCtorEq]
   exact hPI
  ·rw [if_neg cv] at eps
   rw [eps] at hPI
   simp only [de cv, ck, DM, fJ yT (show y.length ≤ 16000000 by omega), vM, zY, af, ae, reduceCtorEq]
   exact hPI
 refine bb _ _ _ _ _ _ ?_
 have hps : (∀ p ∈ ps, PyData.strOk p = true ∧ p.length ≤ 50000) ∧ ps.length ≤ 900000 := by
  rw [eps]
  split
  ·exact ⟨fun p hp => (nomatch hp), Nat.zero_le _⟩
  ·have p := bN (x := y) yT
   have pm := p.many
   exact ⟨fun z hz => ⟨p.ok hy hz, by have := p.le hz; omega⟩, by omega⟩
 refine aIz k hps.1 hps.2 hq fun s6 s7 s8 => ?_
 rw [A7]
 have hq3 : (w2.set q (.lst (ps.map qM)))[q]? = some (.lst (ps.map qM)) := cc (ar.mp hq).1
 have g3 : Gr w (w2.set q (.lst (ps.map qM))) := aCR g2 lq
 have n1 : ∀ x ∈ wO u, Nf 5 x := fun x hx => by
  unfold wO at hx
  split at hx
  ·cases hx
  ·obtain ⟨a, _, rfl⟩ := cg.mp hx
   exact aFn
 have n2 : ∀ x ∈ ps.map qM, Nf 5 x := fun x hx => by
  obtain ⟨a, _, rfl⟩ := cg.mp hx
  exact aFh
 simp only [aA9 (K1 n1 (by omega)), aA9 (aAf n2 (by omega) hq3), vT, aJd hq3, zY, af, ae, reduceCtorEq]
 cases hb : (wO u).any D.isNon with
 | true =>
  rw [hb] at hP
  simp only [zY, af, ae, reduceCtorEq]
  exact hP _ g3
 | false =>
  rw [hb] at hP
  cases hb2 : (ps.map qM).any D.isNon with
  | true =>
   rw [hb2] at hP
   simp only [aA9 (aAf n2 (by omega) hq3), hb2, zY, af, ae, reduceCtorEq]
   exact hP _ g3
  | false =>
   rw [hb2] at hP
   simp only [aA9 (aAf n2 (by omega) hq3), hb2, vT, aJd hq3, zY, af, ae, reduceCtorEq]
   exact hP _ g3
end
section
variable (k : K65.bE)
variable {w w' w0 : W} {P : D → W → Prop} {PF : Fl → W → Prop} {PX : XD → W → Prop} {n l : Nat} {d : D}
structure XO (x : Str) : Prop where
 ch : ∀ c ∈ x.cps.toList, c < 127
 len : x.length ≤ 12000
 few : cm x ≤ 60
theorem XO.ok {x : Str} (h : XO x) : PyData.strOk x = true := aJc h.ch
def y7 : List Str → Option Nat
 | [] => none
 | y :: r => if (cY y).isNon = true then some 0 else (y7 r).map (· + 1)
def aEV (x : Str) : D := match y7 (gD x) with
 | none => .tup ((gD x).map cY)
 | some j => .int (j : Nat)
theorem K9 : ∀ {ls : List Str}, y7 ls = none → ∀ y ∈ ls, (cY y).isNon = false
 | [], _, y, hy => nomatch hy
 | a :: r, h, y, hy => by
  unfold y7 at h
  split at h
  ·cases h
  ·rename_i c
   rw [Option.map_eq_none_iff] at h
   rcases ay.mp hy with rfl | hy
   ·simpa using c
   ·exact K9 h y hy
theorem LV : ∀ {ls : List Str} {j : Nat}, y7 ls = some j → ∃ as bad bs, ls = as ++ bad :: bs ∧ as.length = j ∧ (∀ y ∈ as, (cY y).isNon = false) ∧ (cY bad).isNon = true
 | [], _, h => by cases h
 | a :: r, j, h => by
  unfold y7 at h
  split at h
  ·rename_i c
   cases h
   exact ⟨[], a, r, rfl, rfl, fun y hy => (nomatch hy), c⟩
  ·rename_i c
   rw [aq] at h
   obtain ⟨i, e, rfl⟩ := h
   obtain ⟨as, bad, bs, rfl, rfl, q1, q2⟩ := LV e
   refine ⟨a :: as, bad, bs, rfl, rfl, fun y hy => ?_, q2⟩
   rcases ay.mp hy with rfl | hy
   ·simpa using c
   ·exact q1 y hy
structure aIr (y : Str) : Prop where
 ok : PyData.strOk y = true
 len : y.length ≤ 12000
 no : ∀ s ∈ TL.tl y, s ≠ 10
 few : cm y ≤ 60
theorem LN : TL.tl ("\n" : Str) = [10] := ES
theorem XO.lines {x : Str} (h : XO x) : ∀ y ∈ gD x, aIr y := fun y hy => by
 unfold gD at hy
 split at hy
 ·cases hy
 ·have p := bN (x := x) pK
  have fr := split_free pK LN y hy
  have hl := h.len
  exact ⟨p.ok h.ok hy, by have := p.le hy; omega, fun s hs e => fr (e ▸ hs), bq (qP pK hy) h.few⟩
def aHl : MS := (aJ (aO (aH (iE k) 1 aM (aA (aB 3) aD)) (aQ 4))
 (aJ (dH (aV (aE isM (aB 4) (eC .non))) (aU (aB 2)) aZ)
 (cR (bB "list" cJ (aB 1) (aA (aB 4) aD)))))
theorem aA4 : ∀ {ls : List Str}, (∀ y ∈ ls, (cY y).isNon = false) → y7 ls = none
 | [], _ => rfl
 | a :: r, h => by
  unfold y7
  rw [h a (aw ..), aA4 fun y hy => h y (bc _ hy)]
  rfl
theorem aDQ : ∀ {ls : List Str} {j : Nat} {z : Str}, ls[j]? = some z → (∀ y ∈ ls.take j, (cY y).isNon = false) → (cY z).isNon = true → y7 ls = some j
 | [], _, _, h, _, _ => by simp at h
 | a :: r, 0, z, h, _, hz => by
  simp only [List.getElem?_cons_zero, aj] at h
  unfold y7
  rw [h, if_pos hz]
 | a :: r, j + 1, z, h, hh, hz => by
  rw [List.getElem?_cons_succ] at h
  rw [List.take_succ_cons] at hh
  unfold y7
  rw [hh a (aw ..), aDQ h (fun y hy => hh y (bc _ hy)) hz]
  rfl
theorem M5 {ls : List Str} (hl : ∀ y ∈ ls, aIr y) (hn : ls.length ≤ 20000) {q : Nat} {x0 : D} {s2 s3 s4 : Option D} {w1 : W} (g : Gr w w1) (lq : w.length ≤ q) (hq : w1[q]? = some (.lst []))
  (k1 : y7 ls = none → ∀ w2 s2 s3 s4, Gr w w2 → w2[q]? = some (.lst (ls.map cY)) → PF (.nx [some x0, some (.ref q), s2, s3, s4]) w2)
  (k2 : ∀ j, y7 ls = some j → ∀ w2, Gr w w2 → PF (.rt (.int (j : Nat))) w2) :
  T (forL ⟨Sx.dE (ls.map D.str), always⟩ (bV 2 (aI (aQ 2) (aI (aQ 3) bO))) (aHl k) (Sx.dE (ls.map D.str)) [some x0, some (.ref q), s2, s3, s4] w1) PF := by
 refine KU (it := ⟨Sx.dE (ls.map D.str), always⟩) (fun j σ w' => Gr w w' ∧ w'[q]? = some (.lst ((ls.take j).map cY)) ∧ (∀ y ∈ ls.take j, (cY y).isNon = false) ∧ ∃ s2 s3 s4, σ = [some x0, some (.ref q), s2, s3, s4]) (fun _ _ _ _ => trivial)
  ⟨g, hq, by simp, _, _, _, rfl⟩ (fun j x σ w' hx ⟨g2, h2, gd, s2, s3, s4, es⟩ => ?_) fun σ w' ⟨g2, h2, gd, s2, s3, s4, es⟩ => ?_
 case refine_2 =>
  subst es
  rw [show (⟨Sx.dE (ls.map D.str), always⟩ : lO).xs.length = ls.length from by show (Sx.dE (ls.map D.str)).length = _; rw [Sx.pairs_len, av], List.take_length] at h2 gd
  exact k1 (aA4 gd) _ _ _ _ g2 h2
 subst es
 obtain ⟨y, hy, rfl⟩ := Sx.pairs_at hx
 rw [da] at hy
 obtain ⟨z, hz, rfl⟩ := aq.mp hy
 have lz := hl z (cq hz)
 simp only [nL, zY, af, ae, reduceCtorEq]
 unfold aHl
 rw [a7]
 simp only [zY, af, ae, reduceCtorEq]
 refine aCp k lz.ok (by have := lz.len; omega) lz.no lz.few fun w3 g3 => ?_
 have g4 := g2.trans g3
 have h3 := aLC g3 h2
 try simp only [zY, af, ae, reduceCtorEq]
 rw [a7]
 cases hb : (cY z).isNon with
 | true =>
  simp only [WM, hb, zY, af, ae, reduceCtorEq]
  exact k2 j (aDQ hz gd hb) _ g4
 | false =>
  simp only [WM, hb, zY, af, ae, reduceCtorEq]
  simp only [tyL h3, kG h3, zY, af, ae, reduceCtorEq]
  refine ⟨by rw [sizeLine_eq, av, dn]; omega, aCR g4 lq, ?_, fun y hy => ?_, _, _, _, rfl⟩
  ·rw [cc (ar.mp h3).1, List.take_add_one, hz, cj]
   rfl
  ·rw [List.take_add_one, hz] at hy
   rcases bh.mp hy with hy | hy
   ·exact gd y hy
   ·rw [show y = z from by simpa using hy]
    exact hb
theorem ZN {x : Str} (h : XO x) (hP : ∀ w', Gr w w' → P (aEV x) w') : T (K65.jS k [.str x] w) P := by
 have hl := h.len
 have ll := yQ (x := x)
 unfold aEV at hP
 unfold K65.jS K65.nO
 rw [dM, aI3, a7]
 simp only [zY, af, ae, reduceCtorEq]
 rw [a7]
 have hq : (w ++ [MO.lst []])[w.length]? = some (.lst []) := AQ
 obtain ⟨q, eq⟩ : ∃ q, q = w.length := ⟨_, rfl⟩
 obtain ⟨w1, e1⟩ : ∃ w1, w1 = w ++ [MO.lst []] := ⟨_, rfl⟩
 rw [← e1] at hq
 rw [← eq] at hq
 rw [← e1, ← eq]
 rw [US, IM]
 simp only [BP, IP]
 refine L5 h.ok (by omega) ?_
 simp only [Sx.H7]
 refine M5 k (w := w) h.lines (by omega) ⟨_, e1⟩ (by omega) hq (fun hb w2 s2 s3 s4 g2 h2 => ?_) fun j hb w2 g2 => ?_
 ·rw [A7]
  simp only [aJd h2, zY, af, ae, reduceCtorEq]
  rw [hb] at hP
  exact hP w2 g2
 ·rw [hb] at hP
  exact hP w2 g2
theorem b5 {A B : Addr} (h : ¬ A = B) : (lT.o A == lT.o B) = false := by
 rw [eb]
 intro e
 injection e with e
 exact h e
theorem I9 {A : Addr} {z : String} : (lT.o A == lT.b z) = false := by
 rw [eb]
 intro e
 cases e
theorem t9 {K : KxT} {c : D} {x : XD} {r : Bool} {σ : Sg} (e : LI K c x = some r) : T (GZ K (eC c) x σ w) P = P (.bl r) w := by
 simp only [GZ, eC, Res.bind, e]
 first | rw [bZ] | rfl
def C6 : D := .lst [.bl false, .bl true, .bl false, .bl false, .bl false, .bl false, .bl true, .bl true, .bl false]
theorem aJr {mb : XD → MS} {N : List Str} {x : XD} : T (Pc.YL mb N x w) P = T (mb x (List.replicate N.length none) w) fun f w1 => match f with
  | .nx _ => P .non w1
  | .rt d => P d w1
  | _ => False := by
 unfold Pc.YL
 rw [bQ]
 congr 1
 funext f w1
 cases f <;> simp only [bZ, aKI]
theorem WO {a c : List D} (h : a.length + c.length ≤ 1000) : T (LP (.lst a) (.lst c) w) P = P (.lst (a ++ c)) w := by
 have : LP (.lst a) (.lst c) w = .ok (.lst (a ++ c)) w := by
  simp only [LP, if_pos (show a.length + c.length ≤ sizeLine by rw [sizeLine_eq]; omega)]
 rw [this, bZ]
theorem aBG (GV : Dis k) {v : D} : T (kZ k ⟨.ref k.bD, some [(("line" : Str), v)]⟩ w) P = P C6 w := by
 have d0 := GV
 unfold Dis at d0
 simp only [List.nodup_cons, ay, br, df, not_or] at d0
 obtain ⟨⟨d1, d2, d3, d4, d5, d6⟩, ⟨d7, d8, d9, d10, d11⟩, ⟨d12, d13, d14, d15⟩, ⟨d16, d17, d18⟩, ⟨d19, d20⟩, d21, _⟩ := d0
 obtain ⟨x0, ex⟩ : ∃ x0 : XD, x0 = ⟨.ref k.bD, some [(("line" : Str), v)]⟩ := ⟨_, rfl⟩
 have kx1 : ∀ c, L9 k k.bD c = [(lT.b "IndexError", false), (.o k.eR, true), (.o k.jL, false), (.o k.jH, false), (.o k.jC, false), (.o k.mC, false), (.o k.bD, true), (.o k.gN, false), (.b "ValueError", true)].lookup c := fun c => by
  unfold L9 kxT
  simp
 have n1 := b5 d1; have n2 := b5 d2; have n3 := b5 d3; have n4 := b5 d4; have n5 := b5 d5; have n6 := b5 d6; have n7 := b5 d7
 have n8 := b5 d8; have n9 := b5 d9; have n10 := b5 d10; have n11 := b5 d11; have n12 := b5 d12; have n13 := b5 d13; have n14 := b5 d14
 have n15 := b5 d15; have n16 := b5 d16; have n17 := b5 d17; have n18 := b5 d18; have n19 := b5 d19; have n20 := b5 d20; have n21 := b5 d21
 have r1 := b5 (Ne.symm d1); have r2 := b5 (Ne.symm d2); have r3 := b5 (Ne.symm d3); have r4 := b5 (Ne.symm d4); have r5 := b5 (Ne.symm d5); have r6 := b5 (Ne.symm d6); have r7 := b5 (Ne.symm d7)
 have r8 := b5 (Ne.symm d8); have r9 := b5 (Ne.symm d9); have r10 := b5 (Ne.symm d10); have r11 := b5 (Ne.symm d11); have r12 := b5 (Ne.symm d12); have r13 := b5 (Ne.symm d13); have r14 := b5 (Ne.symm d14)
 have r15 := b5 (Ne.symm d15); have r16 := b5 (Ne.symm d16); have r17 := b5 (Ne.symm d17); have r18 := b5 (Ne.symm d18); have r19 := b5 (Ne.symm d19); have r20 := b5 (Ne.symm d20); have r21 := b5 (Ne.symm d21)
 have i1 : LI (L9 k) (.con k.jC) x0 = some false := by
  rw [ex]
  unfold LI
  simp only [kx1]
  simp [List.lookup, I9, n1, n2, n3, n4, n5, n6, n7, n8, n9, n10, n11, n12, n13, n14, n15, n16, n17, n18, n19, n20, n21, r1, r2, r3, r4, r5, r6, r7, r8, r9, r10, r11, r12, r13, r14, r15, r16, r17, r18, r19, r20, r21]
 have i2 : LI (L9 k) (.con k.bD) x0 = some true := by
  rw [ex]
  unfold LI
  simp only [kx1]
  simp [List.lookup, I9, n1, n2, n3, n4, n5, n6, n7, n8, n9, n10, n11, n12, n13, n14, n15, n16, n17, n18, n19, n20, n21, r1, r2, r3, r4, r5, r6, r7, r8, r9, r10, r11, r12, r13, r14, r15, r16, r17, r18, r19, r20, r21]
 have i3 : LI (L9 k) (.con k.jL) x0 = some false := by
  rw [ex]
  unfold LI
  simp only [kx1]
  simp [List.lookup, I9, n1, n2, n3, n4, n5, n6, n7, n8, n9, n10, n11, n12, n13, n14, n15, n16, n17, n18, n19, n20, n21, r1, r2, r3, r4, r5, r6, r7, r8, r9, r10, r11, r12, r13, r14, r15, r16, r17, r18, r19, r20, r21]
 have i4 : LI (L9 k) (.con k.jH) x0 = some false := by
  rw [ex]
  unfold LI
  simp only [kx1]
  simp [List.lookup, I9, n1, n2, n3, n4, n5, n6, n7, n8, n9, n10, n11, n12, n13, n14, n15, n16, n17, n18, n19, n20, n21, r1, r2, r3, r4, r5, r6, r7, r8, r9, r10, r11, r12, r13, r14, r15, r16, r17, r18, r19, r20, r21]
 have i5 : LI (L9 k) (.con k.gN) x0 = some false := by
  rw [ex]
  unfold LI
  simp only [kx1]
  simp [List.lookup, I9, n1, n2, n3, n4, n5, n6, n7, n8, n9, n10, n11, n12, n13, n14, n15, n16, n17, n18, n19, n20, n21, r1, r2, r3, r4, r5, r6, r7, r8, r9, r10, r11, r12, r13, r14, r15, r16, r17, r18, r19, r20, r21]
 have i6 : LI (L9 k) (.con k.mC) x0 = some false := by
  rw [ex]
  unfold LI
  simp only [kx1]
  simp [List.lookup, I9, n1, n2, n3, n4, n5, n6, n7, n8, n9, n10, n11, n12, n13, n14, n15, n16, n17, n18, n19, n20, n21, r1, r2, r3, r4, r5, r6, r7, r8, r9, r10, r11, r12, r13, r14, r15, r16, r17, r18, r19, r20, r21]
 have i7 : LI (L9 k) (.con k.eR) x0 = some true := by
  rw [ex]
  unfold LI
  simp only [kx1]
  simp [List.lookup, I9, n1, n2, n3, n4, n5, n6, n7, n8, n9, n10, n11, n12, n13, n14, n15, n16, n17, n18, n19, n20, n21, r1, r2, r3, r4, r5, r6, r7, r8, r9, r10, r11, r12, r13, r14, r15, r16, r17, r18, r19, r20, r21]
 have i8 : LI (L9 k) (.ty "ValueError") x0 = some true := by
  rw [ex]
  unfold LI
  simp only [kx1]
  rfl
 have i9 : LI (L9 k) (.ty "IndexError") x0 = some false := by
  rw [ex]
  unfold LI
  simp only [kx1]
  rfl
 rw [← ex]
 unfold kZ qC
 rw [aJr]
 rw [show List.replicate kK.length (none : Option D) = [none, none] from rfl]
 rw [a7]
 simp only [t9 i1, t9 i2, t9 i3, t9 i4, zY, af, ae, reduceCtorEq]
 rw [a7]
 simp only [t9 i5, t9 i6, zY, af, ae, reduceCtorEq]
 rw [WO (by simp)]
 simp only [t9 i7, t9 i8, t9 i9, zY, af, ae, reduceCtorEq]
 rw [WO (by simp)]
 rfl
theorem aIv {v : D} {σ : Sg} : T (eFX (hU k) ("line" : Str) ⟨.ref k.bD, some [(("line" : Str), v)]⟩ σ w) P = P v w := by
 have f0 : AE (hU k) ("line" : Str) ⟨.ref k.bD, some [(("line" : Str), v)]⟩ = some v := by
  unfold AE hU
  simp
 unfold eFX
 rw [f0, bZ]
theorem aBf {c : D} {e : ME} {σ : Sg} (h : TX (e σ w) PX) : TX (bH (aA (eC c) (aA e aD)) σ w) PX := by
 refine TX.vB ?_
 unfold aA
 refine TX.bind ?_
 show T (Res.ok c w) _
 rw [bZ]
 exact TX.vB (TX.vB h)
theorem O7 (GV : Dis k) {y v : D} (h : ∀ PX : XD → W → Prop, (∀ w', Gr w w' → PX ⟨.ref k.bD, some [(("line" : Str), v)]⟩ w') → TX (dP (sx k) k.bD [y] w) PX) (hP : ∀ w', Gr w w' → P (.tup [C6, v]) w') : T (K65.iS k [y] w) P := by
 unfold K65.iS K65.oQ
 rw [dM, aEW, a7]
 simp only [zY, af, ae, reduceCtorEq]
 rw [a7]
 refine aD3 (aFB (aBf (aFz ?_)))
 simp only [zY, af, ae, reduceCtorEq]
 rw [← aCP] at h
 refine h _ fun w' g => ?_
 refine ⟨by simp [kmL, DW], ?_⟩
 simp only [Pc.unI, Pc.forget, List.replicate, bg, cw, List.set_cons_zero, List.set_cons_succ, Y7, aBG k GV, aIv, zY, af, ae, reduceCtorEq]
 exact hP w' g
end
section
variable (k : K65.bE)
variable {w w' w0 : W} {P : D → W → Prop} {PF : Fl → W → Prop} {PX : XD → W → Prop} {n l : Nat} {d : D}
theorem aEg {x : Str} (h : XO x) (hb : y7 (gD x) = none) (hP : ∀ w', Gr w w' → P (.tup [.str ("read" : Str), .tup ((gD x).map cY)]) w') : T (K65.iS k [.str x] w) P := by
 unfold K65.iS K65.oQ
 rw [dM, aEW, a7]
 simp only [zY, af, ae, reduceCtorEq]
 rw [a7]
 refine aDM ?_
 simp only [aCP, zY, af, ae, reduceCtorEq]
 refine aFQ (sx k) _ h.ok (by have := h.len; omega) (fun y hy => ?_) fun w' g => ?_
 ·have ly := h.lines y hy
  exact ⟨⟨ly.ok, by have := ly.len; omega⟩, K9 hb y hy⟩
 ·try simp only [zY, af, ae, reduceCtorEq]
  exact hP w' g
theorem aGl {x : Str} {j : Nat} (h : XO x) (hb : y7 (gD x) = some j) (hP : ∀ w', Gr w w' → PX ⟨.ref k.bD, some [(("line" : Str), .int (j : Nat))]⟩ w') : TX (dP (sx k) k.bD [.str x] w) PX := by
 obtain ⟨as, bad, bs, e, rfl, h1, h2⟩ := LV hb
 have lin : ∀ y ∈ as ++ bad :: bs, aIr y := fun y hy => h.lines y (by rw [e]; exact hy)
 refine aG5 (sx k) _ h.ok (by have := h.len; omega) e (fun y hy => ?_) ?_ h2 hP
 ·have ly := lin y (List.mem_append_left _ hy)
  exact ⟨⟨ly.ok, by have := ly.len; omega⟩, h1 y hy⟩
 ·have ly := lin bad (by simp)
  exact ⟨ly.ok, by have := ly.len; omega⟩
theorem aGW {y : D} (e : oB n y = true) (hs : D9 y = false) (hP : ∀ w', Gr w w' → PX ⟨.ref k.bD, some [(("line" : Str), .int 0)]⟩ w') : TX (dP (sx k) k.bD [y] w) PX := by
 unfold dP lW
 refine aEc ?_
 rw [Sx.sM]
 refine TR (aHD ?_)
 simp only [aDZ e, hs, ck, zY, af, ae, reduceCtorEq]
 refine WU ?_
 simp only [zY, af, ae, reduceCtorEq]
 exact hP w SX
theorem aG0 : dI 9 2 C6 := by
 have : ∀ x ∈ [D.bl false, .bl true, .bl false, .bl false, .bl false, .bl false, .bl true, .bl true, .bl false], dI 0 1 x := fun x hx => by
  simp only [ay, br, df] at hx
  rcases hx with rfl | rfl | rfl | rfl | rfl | rfl | rfl | rfl | rfl <;> exact dI.bl
 exact dI.lst (fG.all this)
theorem aBb {j : Nat} (hj : j ≤ 100000) : ∃ z, PyData.strOk z = true ∧ ∀ (w : W) (P : D → W → Prop), T (kD [.tup [C6, .int (j : Nat)]] w) P = P (.str z) w :=
 WQ (n := 20) (d := 3) ((dI.tup (fG.cons aG0 (fG.cons ((dI.int (by omega)).mono (n' := 0) (d' := 2) (az _) (by omega)) (fG.nil.mono (az _) (by omega))))).mono (by omega) (by omega)) (by omega) (by omega)
theorem aCZ {ts : List D} (ht : ∀ x ∈ ts, fT x = true) (hw : wtDs ts ≤ 150000) : ∃ z, PyData.strOk z = true ∧ ∀ (w : W) (P : D → W → Prop), T (kD [.tup [.str ("read" : Str), .tup ts]] w) P = P (.str z) w :=
 WQ (n := 199000) (d := 8) ((dI.tup (fG.cons ((dI.str (by decide +kernel)).mono (n' := 100) (d' := 6) (az _) (by omega)) (fG.cons (BI (d := 5) fun y hy => aD4 (ht y hy)) (fG.nil.mono (az _) (by omega))))).mono (by omega) (by omega)) (by omega) (by omega)
theorem aFs {y : Str} (h : (cY y).isNon = false) : fT (cY y) = true := by
 unfold cY at h ⊢
 split at h
 ·rename_i c
  rw [if_pos c]
  exact c
 ·cases h
theorem aLM : T (mulM (.lst [.bl false]) (.int 4) w) P = P (.lst [.bl false, .bl false, .bl false, .bl false]) w := by
 have : mulM (.lst [.bl false]) (.int 4) w = .ok (.lst [.bl false, .bl false, .bl false, .bl false]) w := by
  unfold mulM
  simp only []
  rw [if_pos (by rw [sizeLine_eq]; simp)]
  rfl
 rw [this, bZ]
theorem aF8 {xs : List D} : T (gQ g6 [.tup xs, .ty "tuple"] w) P = P (.bl true) w := by unfold T; rfl
theorem P5 {i : Int} : T (gQ g6 [.int i, .ty "tuple"] w) P = P (.bl false) w := by unfold T; rfl
theorem pM (GV : Dis k) {x : Str} (h : XO x) (hP : ∀ w', Gr w w' → P (.bl true) w') : T (K65.cP k [.str x] w) P := by
 have hl := h.len
 have rx : ∀ (w : W) (P : D → W → Prop), T (kD [.str x] w) P = P (.str (reprText x)) w := fun w P => aEp h.ch (by omega)
 have ox := LH h.ch
 have ll := yQ (x := x)
 unfold K65.cP K65.iN
 rw [dM, aEb, a7]
 simp only [rx, zY, af, ae, reduceCtorEq]
 rw [a7]
 simp only [TM, zY, af, ae, reduceCtorEq]
 refine ZN k h fun w1 g1 => ?_
 try simp only [zY, af, ae, reduceCtorEq]
 rw [a7]
 simp only [zY, af, ae, reduceCtorEq]
 rw [a7]
 unfold aEV
 cases hb : y7 (gD x) with
 | none =>
  have tb : ∀ y ∈ (gD x).map cY, fT y = true := fun y hy => by
   obtain ⟨a, ha, rfl⟩ := cg.mp hy
   exact aFs (K9 hb a ha)
  obtain ⟨z, hz, rz⟩ := aCZ tb (by have := aE5 (x := x); omega)
  simp only [aF8, cb, zY, af, ae, reduceCtorEq]
  refine aEg k h hb fun w2 g2 => ?_
  simp only [rz, rx, nP, cV hz hz, cV ox ox, aj, bx, decide_true, zY, af, ae, reduceCtorEq]
  exact hP w2 (g1.trans g2)
 | some j =>
  have jl : j ≤ 20000 := by
   obtain ⟨as, bad, bs, e, rfl, _⟩ := LV hb
   rw [e, bw] at ll
   omega
  obtain ⟨z, hz, rz⟩ := aBb (j := j) (by omega)
  simp only [P5, ck, aLM, zY, af, ae, reduceCtorEq]
  refine ⟨lI _ (by simp), ?_⟩
  refine O7 k GV (v := .int (j : Nat)) (fun PX hPX => aGl k h hb hPX) fun w2 g2 => ?_
  simp only [bf, bz] at rz ⊢
  unfold C6 at rz ⊢
  simp only [rz, rx, nP, cV hz hz, cV ox ox, aj, bx, decide_true, zY, af, ae, reduceCtorEq]
  exact hP w2 (g1.trans g2)
theorem aBC (GV : Dis k) {y : D} (h : HX 5 0 y = true) (hw : jA y ≤ 1000) (hs : D9 y = false) (hP : ∀ w', Gr w w' → P (.bl true) w') : T (K65.cP k [y] w) P := by
 obtain ⟨zx, ox, rx⟩ := aE2 h (by omega) (by omega) (by omega)
 have ok := SG h (by omega)
 obtain ⟨z, hz, rz⟩ := aBb (j := 0) (by omega)
 have rz : ∀ (w : W) (P : D → W → Prop), T (kD [.tup [C6, .int 0]] w) P = P (.str z) w := rz
 unfold K65.cP K65.iN
 rw [dM, aEb, a7]
 simp only [rx, zY, af, ae, reduceCtorEq]
 rw [a7]
 simp only [aDZ ok, hs, zY, af, ae, reduceCtorEq]
 rw [a7]
 simp only [zY, af, ae, reduceCtorEq]
 rw [a7]
 simp only [P5, ck, aLM, zY, af, ae, reduceCtorEq]
 refine ⟨lI _ (by simp), ?_⟩
 refine O7 k GV (v := .int 0) (fun PX hPX => aGW k ok hs hPX) fun w2 g2 => ?_
 simp only [bf, bz] at rz ⊢
 unfold C6 at rz ⊢
 simp only [rz, rx, nP, cV hz hz, cV ox ox, aj, bx, decide_true, zY, af, ae, reduceCtorEq]
 exact hP w2 g2
end
section
variable (k : K65.bE)
variable {w w' w0 : W} {P : D → W → Prop} {PF : Fl → W → Prop} {PX : XD → W → Prop} {n l : Nat} {d : D} {u0 : W}
structure EE (L C : Nat) (x : Str) : Prop where
 ch : ∀ c ∈ x.cps.toList, c < 127
 len : x.length ≤ L
 few : cm x ≤ C
theorem aLK (z : Str) (j : Nat) : TL.tl (cutS z none (some (j : Int))) = (TL.tl z).take j := by
 show (z.cps.toList.drop (HT.sIx z.length 0 none)).take (HT.sIx z.length z.length (some (j : Int)) - HT.sIx z.length 0 none) = z.cps.toList.take j
 rw [HT.sIx_none, HT.sIx_nat, dk, Nat.sub_zero]
 have lz : z.length = z.cps.toList.length := TL.len_tl z
 by_cases h : j ≤ z.length
 ·rw [Nat.min_eq_left h]
 ·rw [Nat.min_eq_right (by omega), dh (by omega), dh (by omega)]
theorem aG9 (z : Str) (j : Nat) : TL.tl (cutS z (some (j : Int)) none) = (TL.tl z).drop j := by
 show (z.cps.toList.drop (HT.sIx z.length 0 (some (j : Int)))).take (HT.sIx z.length z.length none - HT.sIx z.length 0 (some (j : Int))) = z.cps.toList.drop j
 rw [HT.sIx_none, HT.sIx_nat]
 have lz : z.length = z.cps.toList.length := TL.len_tl z
 rcases Nat.lt_or_ge j z.length with c | c
 ·rw [Nat.min_eq_left (by omega), dh (by rw [dq]; omega)]
 ·rw [Nat.min_eq_right c, List.drop_of_length_le (by omega), List.drop_of_length_le (by omega)]
  simp
theorem aGB (xs : List D) (j : Nat) : Pc.cutD xs (some (j : Int)) (some ((j + 2 : Nat) : Int)) = (xs.drop j).take 2 := by
 unfold Pc.cutD
 rw [HT.sIx_nat, HT.sIx_nat]
 rcases Nat.lt_or_ge j xs.length with c | c
 ·rw [Nat.min_eq_left (show j ≤ xs.length by omega)]
  rcases Nat.lt_or_ge (j + 2) xs.length with c2 | c2
  ·rw [Nat.min_eq_left (by omega)]
   congr 1
   omega
  ·rw [Nat.min_eq_right c2, dh (by rw [dq]; omega), dh (by rw [dq]; omega)]
 ·rw [Nat.min_eq_right c, Nat.min_eq_right (by omega), List.drop_of_length_le (az _), List.drop_of_length_le c]
  simp
def sm (ys : List Str) : Nat := (ys.map fun p => p.length + 1).sum
theorem gR {a b : List Str} : sm (a ++ b) = sm a + sm b := by
 unfold sm
 rw [cj, List.sum_append]
theorem u4 (j : Nat) (ys : List Str) : sm (ys.take j) + sm (ys.drop j) = sm ys := by rw [← gR, List.take_append_drop]
theorem aEm (ys : List Str) : sm ys.reverse = sm ys := by
 unfold sm
 rw [List.map_reverse, List.sum_reverse]
theorem QC {y : Str} : sm [y] = y.length + 1 := by simp [sm]
theorem aC1 {ys : List Str} {j : Nat} {y : Str} (h : ys[j]? = some y) : sm (ys.take j) + (y.length + 1) + sm (ys.drop (j + 1)) = sm ys := by
 have h1 := u4 j ys
 have hl := (ar.mp h)
 obtain ⟨h2, h3⟩ := hl
 have : ys.drop j = [y] ++ ys.drop (j + 1) := by
  rw [List.drop_eq_getElem_cons h2, h3]
  rfl
 rw [this, gR, QC] at h1
 omega
theorem RG (ys : List Str) : ys.length ≤ sm ys := RW (az 1)
structure E5 (S C : Nat) (ys : List Str) : Prop where
 each : ∀ y ∈ ys, (∀ c ∈ y.cps.toList, c < 127) ∧ cm y ≤ C
 sum : sm ys ≤ S
theorem EH {x y : Str} {L C : Nat} (h : EE L C x) (hy : Sep y) (h1 : y.length = 1) : E5 (x.length + 1) C (Txt.split x y) := by
 have p := bN (x := x) hy
 have se := nC (x := x) hy
 rw [h1] at se
 exact ⟨fun z hz => ⟨fun c hc => h.ch c (p.mem z hz c hc), bq (qP hy hz) h.few⟩, by unfold sm; omega⟩
theorem K3 {y : Str} {s S C : Nat} {ys : List Str} (h : E5 S C ys) (hy : TL.tl y = [s]) (hs : s = 32 ∨ s = 10) : EE S C (Txt.join y ys) := by
 have ly : y.length = 1 := by rw [TL.len_tl, hy]; rfl
 refine ⟨fun c hc => ?_, ?_, LD (by rcases hs with rfl | rfl; exact .inl hy; exact .inr hy) fun p hp => (h.each p hp).2⟩
 ·rcases pI hc with hc | ⟨p, hp, hc⟩
  ·have hc : c ∈ TL.tl y := hc
   rw [hy] at hc
   have := bp.mp hc
   omega
  ·exact (h.each p hp).1 c hc
 ·have := LX y ys
  rw [ly] at this
  have := h.sum
  unfold sm at this
  omega
theorem QB {y : Str} {ys : List Str} {S C : Nat} {s : Nat} (h : E5 S C ys) (hS : S ≤ 100000) (hy : TL.tl y = [s]) : T (joinM (.str y) [.lst (ys.map D.str)] w) P = P (.str (Txt.join y ys)) w := by
 refine q7 ?_
 have ly : y.length = 1 := by rw [TL.len_tl, hy]; rfl
 have := h.sum
 unfold sm at this
 rw [ly]
 omega
theorem E5.sub {S S' C : Nat} {ys zs : List Str} (h : E5 S C ys) (hz : ∀ z ∈ zs, z ∈ ys) (hs : sm zs ≤ S') : E5 S' C zs := ⟨fun z m => h.each z (hz z m), hs⟩
theorem E5.up {S S' C C' : Nat} {ys : List Str} (h : E5 S C ys) (hs : S ≤ S') (hc : C ≤ C') : E5 S' C' ys := ⟨fun z m => ⟨(h.each z m).1, bq (h.each z m).2 hc⟩, bq h.sum hs⟩
theorem E5.app {S S' C : Nat} {ys zs : List Str} (h : E5 S C ys) (g : E5 S' C zs) : E5 (S + S') C (ys ++ zs) := ⟨fun z m => by
 rcases bh.mp m with m | m
 ·exact h.each z m
 ·exact g.each z m, by rw [gR]; have := h.sum; have := g.sum; omega⟩
theorem aCa {a : List Str} {j : Nat} : fO (.lst (a.map D.str)) none (some (j : Int)) w = .ok (.lst ((a.take j).map D.str)) w := by simp only [fO, aJN, List.map_take]
theorem DU {a : List Str} {j : Nat} : fO (.lst (a.map D.str)) (some (j : Int)) none w = .ok (.lst ((a.drop j).map D.str)) w := by simp only [fO, U3, List.map_drop]
theorem aHi {a : List Str} {j : Nat} : fO (.lst (a.map D.str)) (some (j : Int)) (some ((j + 2 : Nat) : Int)) w = .ok (.lst (((a.drop j).take 2).map D.str)) w := by simp only [fO, aGB, List.map_take, List.map_drop]
theorem aHV {a : List Str} : VU (.lst (a.map D.str)) w = .ok (.lst (a.reverse.map D.str)) w := by
 have : tL (.lst (a.map D.str)) w = some (a.map D.str) := rfl
 simp only [VU, this, List.map_reverse]
abbrev SIG : Str := "0123456789 \n-;!,aforst"
theorem Z6 : SIG.cps.toList = [48, 49, 50, 51, 52, 53, 54, 55, 56, 57, 32, 10, 45, 59, 33, 44, 97, 102, 111, 114, 115, 116] := by decide +kernel
theorem aGA : SIG.length = 22 := by rw [TL.len_tl]; show SIG.cps.toList.length = 22; rw [Z6]; rfl
theorem aJs {v : Int} (h0 : 0 ≤ v) (h1 : v < 22) : ∃ c, c < 127 ∧ ∀ (w : W) (P : D → W → Prop), T (aY (.str SIG) (.int v) w) P = P (.str ⟨#[c]⟩) w := by
 obtain ⟨j, rfl⟩ : ∃ j : Nat, v = (j : Int) := ⟨v.toNat, by omega⟩
 have hj : j < SIG.cps.toList.length := by rw [Z6]; show j < 22; omega
 have e1 : atI SIG.cps.toList (j : Int) = some (SIG.cps.toList[j]) := atG (bo hj)
 refine ⟨SIG.cps.toList[j], ?_, fun w P => ?_⟩
 ·have all : ∀ c ∈ SIG.cps.toList, c < 127 := by
   rw [Z6]
   decide
  exact all _ (List.getElem_mem hj)
 ·have : aY (.str SIG) (.int (j : Int)) w = .ok (.str ⟨#[SIG.cps.toList[j]]⟩) w := by
   simp only [aY, Pc.atS, e1, if_pos (show SIG.length ≤ sizeLine by rw [sizeLine_eq, aGA]; omega)]
  rw [this, bZ]
theorem aII (c : Nat) : fP 0 [c] ≤ 1 := by
 unfold fP
 split
 ·exact Nat.zero_le _
 ·split
  ·exact az 1
  ·exact Nat.zero_le _
theorem aCn {L C : Nat} {x m : Str} {a b : Nat} (h : EE L C x) (hab : a ≤ b) (hm : (∀ c ∈ m.cps.toList, c < 127) ∧ m.length ≤ 1 ∧ cm m ≤ 1) : EE (L + 1) (2 * C + 1) (Txt.join "" [cutS x none (some (a : Int)), m, cutS x (some (b : Int)) none]) := by
 have e : TL.tl (Txt.join "" [cutS x none (some (a : Int)), m, cutS x (some (b : Int)) none]) = (TL.tl x).take a ++ (TL.tl m ++ (TL.tl x).drop b) := by
  rw [sU]
  show TL.tl (cutS x none (some (a : Int))) ++ ([] ++ (TL.tl m ++ ([] ++ TL.tl (cutS x (some (b : Int)) none)))) = _
  rw [aLK, aG9, bz, bz]
 have hc : fP 0 (TL.tl x) ≤ C := h.few
 refine ⟨fun c hc => ?_, ?_, ?_⟩
 ·have hc : c ∈ TL.tl (Txt.join "" [cutS x none (some (a : Int)), m, cutS x (some (b : Int)) none]) := hc
  rw [e] at hc
  rcases bh.mp hc with hc | hc
  ·exact h.ch c (dy hc)
  ·rcases bh.mp hc with hc | hc
   ·exact hm.1 c hc
   ·exact h.ch c (List.mem_of_mem_drop hc)
 ·rw [TL.len_tl, e, bw, bw, dn, dq]
  have l1 := h.len
  rw [TL.len_tl] at l1
  have l2 := hm.2.1
  rw [TL.len_tl] at l2
  omega
 ·show fP 0 (TL.tl (Txt.join "" [cutS x none (some (a : Int)), m, cutS x (some (b : Int)) none])) ≤ _
  rw [e]
  have h1 := AA ((TL.tl x).take a) 0 (TL.tl m ++ (TL.tl x).drop b)
  have h2 := AA (TL.tl m) 0 ((TL.tl x).drop b)
  have h3 := DI ((TL.tl x).take a) 0 ((TL.tl x).drop a)
  have h4 := v3 ((TL.tl x).take b) 0 ((TL.tl x).drop b)
  rw [List.take_append_drop] at h3 h4
  have h5 : fP 0 (TL.tl m) ≤ 1 := hm.2.2
  omega
def aJ2 : List Str := ["0", "00", "01", "1000", "999", "-1", "-", "", ";", "!", ",", "fall", "heal", "tear", "0,1", "1,0"]
theorem aJj : (aJ2.all fun y => y.cps.toList.all (fun c => decide (c < 127)) && (decide (cm y ≤ 1) && decide (y.length ≤ 4))) = true := by decide +kernel
theorem aCB {ps : List Str} (h : (ps.map fun p => p.length).sum ≤ 1000000) (hl : ps.length ≤ 1000) : T (joinM (.str ("" : Str)) [.lst (ps.map D.str)] w) P = P (.str (Txt.join "" ps)) w := by
 refine q7 ?_
 have : ("" : Str).length = 0 := by decide +kernel
 rw [this]
 simp only [Nat.add_zero]
 omega
end
section
variable (k : K65.bE)
variable {w w' w0 : W} {P : D → W → Prop} {PF : Fl → W → Prop} {PX : XD → W → Prop} {n l : Nat} {d : D} {u0 : W}
theorem aIb {ys : List Str} {j : Nat} {y : Str} (h : ys[j]? = some y) : ∀ (w : W) (P : D → W → Prop), T (aY (.lst (ys.map D.str)) (.int (j : Int)) w) P = P (.str y) w := fun w P => by
 have e : atI (ys.map D.str) (j : Int) = some (.str y) := aE1 (by rw [da, h]; rfl)
 have : aY (.lst (ys.map D.str)) (.int (j : Int)) w = .ok (.str y) w := by simp only [aY, atM, e]
 rw [this, bZ]
theorem aMR {u v : Int} : T (oX (.int u) (.int v) w) P = P (.bl (!(u == v))) w := by simp only [LF, k7, aj, bx]
theorem aLH {b : Bool} : T (MY [.bl b] w) P = P (.int (if b then 1 else 0)) w := by unfold T; rfl
theorem aBt : ∀ y ∈ aJ2, (∀ c ∈ y.cps.toList, c < 127) ∧ cm y ≤ 1 ∧ y.length ≤ 4 := fun y hy => by
 have a := aJj
 rw [au] at a
 have b := a y hy
 simp only [ak, ai, au] at b
 exact ⟨b.1, b.2.1, b.2.2⟩
def aHu : MS := (aJ (aO (bB "str" splitM (aE aY (aB 6) (aB 7)) (aA (eC (.str (" " : Str))) aD)) (aQ 8))
 (aJ (aO (aH lG 2 aM (aA (aB 0) (aA (aP cZ (aA (aB 8) aD)) aD))) (aQ 9))
 (aJ (aO (dQ (aA (eC (.str ("0" : Str))) (aA (eC (.str ("00" : Str))) (aA (eC (.str ("01" : Str))) (aA (eC (.str ("1000" : Str))) (aA (eC (.str ("999" : Str))) (aA (eC (.str ("-1" : Str))) (aA (eC (.str ("-" : Str))) (aA (eC (.str ("" : Str))) (aA (eC (.str (";" : Str))) (aA (eC (.str ("!" : Str))) (aA (eC (.str ("," : Str))) (aA (eC (.str ("fall" : Str))) (aA (eC (.str ("heal" : Str))) (aA (eC (.str ("tear" : Str))) (aA (eC (.str ("0,1" : Str))) (aA (eC (.str ("1,0" : Str))) aD))))))))))))))))) (aQ 10))
 (aJ (aO (eNew (aA (aE a9 (iU fO (aB 8) bS (bK (aB 9))) (iU fO (aB 8) (bK (aE a9 (aB 9) (eC (.int 1)))) bS)) (aA (aE a9 (iU fO (aB 8) bS (bK (aE a9 (aB 9) (eC (.int 1))))) (iU fO (aB 8) (bK (aB 9)) bS)) aD))) (aQ 11))
 (aJ (cR (bB "list" cJ (aB 11) (aA (aE a9 (aE a9 (iU fO (aB 8) bS (bK (aB 9))) (AZ VU (iU fO (aB 8) (bK (aB 9)) (bK (aE a9 (aB 9) (eC (.int 2))))))) (iU fO (aB 8) (bK (aE a9 (aB 9) (eC (.int 2)))) bS)) aD)))
 (aJ (cR (bB "list" cJ (aB 11) (aA (aE a9 (aE a9 (iU fO (aB 8) bS (bK (aB 9))) (dQ (aA (aH (m6 k) 2 aM (aA (aB 0) (aA (aB 10) aD))) aD))) (iU fO (aB 8) (bK (aE a9 (aB 9) (eC (.int 1)))) bS)) aD)))
 (aJ (aO (aE aY (aB 11) (aH lG 2 aM (aA (aB 0) (aA (eC (.int 4)) aD)))) (aQ 12))
 (aU (bB "str" joinM (eC (.str ("\n" : Str))) (aA (aE a9 (aE a9 (iU fO (aB 6) bS (bK (aB 7))) (dQ (aA (bB "str" joinM (eC (.str (" " : Str))) (aA (aB 12) aD)) aD))) (iU fO (aB 6) (bK (aE a9 (aB 7) (eC (.int 1)))) bS)) aD))))))))))
theorem aAj {b L C L2 C2 kk : Nat} {x o y : Str} {wy sp : Int} {s5 : Option D} {lines : List Str} (hx : EE L C x) (PL : E5 (x.length + 1) C lines) (hy : lines[kk]? = some y) (h1 : 2 * L + 12 ≤ L2) (h3 : 2 * C + 1 ≤ C2) (h5 : L2 ≤ 12000) (hd : eD w 1 0 (b + 3)) (hP : ∀ y w', EE L2 C2 y → eD w' 1 0 b → PF (.rt (.str y)) w') :
  T (aHu k [some (.ref 1), some (.str x), some (.str o), some (.int wy), some (.int sp), s5, some (.lst (lines.map D.str)), some (.int (kk : Nat)), none, none, none, none, none, none] w) PF := by
 have hl := hx.len
 have my := cq hy
 have sy := aC1 hy
 have sL := PL.sum
 have yl : y.length ≤ 12000 := by omega
 have TY : EE y.length C y := ⟨(PL.each y my).1, az _, (PL.each y my).2⟩
 have PW := EH TY gG sp1
 have pw := bN (x := y) gG
 obtain ⟨ws, ews⟩ : ∃ ws, ws = Txt.split y " " := ⟨_, rfl⟩
 unfold aHu
 rw [a7]
 simp only [aIb hy, DM, fJ gG (show y.length ≤ 16000000 by omega), ← ews, zY, af, ae, reduceCtorEq]
 rw [← ews] at PW pw
 have lw := RG ws
 have sw := PW.sum
 have w1 : 1 ≤ ws.length := List.length_pos_iff.mpr pw.ne
 rw [a7]
 simp only [RF, SJ, av, zY, af, ae, reduceCtorEq]
 refine kY (b := b + 2) hd (by omega) (by omega) fun jv w1 j0 j1 d1 k1 => ?_
 obtain ⟨j, rfl⟩ : ∃ j : Nat, jv = (j : Int) := ⟨jv.toNat, by omega⟩
 have jl : j < ws.length := by omega
 obtain ⟨z, hz⟩ : ∃ z, ws[j]? = some z := ⟨ws[j], bo jl⟩
 have sz := aC1 hz
 have mz := cq hz
 have c1 := u4 j ws
 have c2 := u4 (j + 1) ws
 have i1 : (j : Int) + 1 = ((j + 1 : Nat) : Int) := by omega
 have i2 : (j : Int) + 2 = ((j + 2 : Nat) : Int) := by omega
 have tm : ∀ {i : Nat} {s : Str}, s ∈ ws.take i → s ∈ ws := fun h => dy h
 have dm : ∀ {i : Nat} {s : Str}, s ∈ ws.drop i → s ∈ ws := fun h => List.mem_of_mem_drop h
 have lt : ∀ i, (ws.take i).length ≤ ws.length := fun i => by rw [dn]; omega
 have ld : ∀ i, (ws.drop i).length ≤ ws.length := fun i => by rw [dq]; omega
 obtain ⟨S, eS⟩ : ∃ S, S = 2 * (y.length + 1) + 5 := ⟨_, rfl⟩
 have p1 : E5 S (C + 1) (ws.take j ++ ws.drop (j + 1)) := (PW.sub (S' := S) (fun s hs => by rcases bh.mp hs with hs | hs; exact tm hs; exact dm hs) (by rw [gR]; omega)).up (az _) (by omega)
 have p2 : E5 S (C + 1) (ws.take (j + 1) ++ ws.drop j) := (PW.sub (S' := S) (fun s hs => by rcases bh.mp hs with hs | hs; exact tm hs; exact dm hs) (by rw [gR]; omega)).up (az _) (by omega)
 have p3 : E5 S (C + 1) ((ws.take j ++ ((ws.drop j).take 2).reverse) ++ ws.drop (j + 2)) := (PW.sub (S' := S) (fun s hs => by
   rcases bh.mp hs with hs | hs
   ·rcases bh.mp hs with hs | hs
    ·exact tm hs
    ·exact dm (dy (List.mem_reverse.mp hs))
   ·exact dm hs) (by
   have := u4 2 (ws.drop j)
   rw [List.drop_drop] at this
   rw [gR, gR, aEm]
   omega)).up (az _) (by omega)
 try simp only [zY, af, ae, reduceCtorEq]
 rw [a7]
 simp only [zY, af, ae, reduceCtorEq]
 rw [a7]
 simp only [i1, aCa, DU, bZ, zY, af, ae, reduceCtorEq]
 have addok : ∀ {a b : List Str}, a.length ≤ ws.length → b.length ≤ ws.length + 10 → (a.map D.str).length + (b.map D.str).length ≤ sizeLine := fun {a b} ha hb => lI _ (by rw [av, av]; omega)
 refine ⟨lI _ (by omega), addok (lt _) (by have := ld (j + 1); omega), addok (lt _) (by have := ld j; omega), ?_⟩
 rw [← cj, ← cj]
 obtain ⟨q, eq⟩ : ∃ q, q = w1.length := ⟨_, rfl⟩
 obtain ⟨A, eA⟩ : ∃ A, A = D.lst ((ws.take j ++ ws.drop (j + 1)).map D.str) := ⟨_, rfl⟩
 obtain ⟨B, eB⟩ : ∃ B, B = D.lst ((ws.take (j + 1) ++ ws.drop j).map D.str) := ⟨_, rfl⟩
 rw [← eA, ← eB, ← eq]
 obtain ⟨w2, e2⟩ : ∃ w2, w2 = w1 ++ [MO.lst [A, B]] := ⟨_, rfl⟩
 have hq : w2[q]? = some (.lst [A, B]) := by rw [e2, eq]; exact AQ
 have d2 : eD w2 1 0 (b + 2) := HA d1 ⟨_, e2⟩
 have q2 : 2 ≤ q := by rw [eq]; exact aBd d1
 rw [← e2, a7]
 clear e2
 simp only [i2, tyL hq, aCa, DU, aHi, aHV, bZ, kG hq, zY, af, ae, reduceCtorEq]
 have l2 : ((ws.drop j).take 2).length ≤ 2 := by rw [dn]; omega
 have l3 := lt j
 have l4 := ld (j + 2)
 have l5 := ld (j + 1)
 refine ⟨lI _ (by simp only [av, List.length_reverse]; omega), lI _ (by simp only [bw, av, List.length_reverse]; omega), by rw [sizeLine_eq]; omega, ?_⟩
 obtain ⟨C3, eC⟩ : ∃ C3, C3 = D.lst (((ws.take j ++ ((ws.drop j).take 2).reverse) ++ ws.drop (j + 2)).map D.str) := ⟨_, rfl⟩
 have eC' : D.lst ((ws.take j).map D.str ++ (((ws.drop j).take 2).reverse.map D.str) ++ (ws.drop (j + 2)).map D.str) = C3 := by
  rw [eC, cj, cj]
 rw [eC']
 obtain ⟨w3, e3⟩ : ∃ w3, w3 = w2.set q (.lst ([A, B] ++ [C3])) := ⟨_, rfl⟩
 have hq3 : w3[q]? = some (.lst [A, B, C3]) := by rw [e3]; exact cc (ar.mp hq).1
 have d3 : eD w3 1 0 (b + 2) := by rw [e3]; exact JV d2 q2
 rw [← e3, a7]
 clear e3
 simp only [i1, aIc, tyL hq3, aCa, DU, bZ, zY, af, ae, reduceCtorEq]
 refine aAF (b := b + 1) d3 (by simp) (by simp) fun od w4 hod d4 k4 => ?_
 have hod : od ∈ aJ2.map D.str := hod
 obtain ⟨ow, how, rfl⟩ := cg.mp hod
 clear hod
 have q3 := (ar.mp hq3).1
 have hq4 : w4[q]? = some (.lst [A, B, C3]) := by
  rw [k4.2 q (by omega) (by omega)]
  exact hq3
 obtain ⟨o1, o2, o3⟩ := aBt ow how
 have p4 : E5 S (C + 1) ((ws.take j ++ [ow]) ++ ws.drop (j + 1)) := ⟨fun s hs => by
  rcases bh.mp hs with hs | hs
  ·rcases bh.mp hs with hs | hs
   ·have := PW.each s (tm hs)
    exact ⟨this.1, by omega⟩
   ·rw [bp.mp hs]
    exact ⟨o1, by omega⟩
  ·have := PW.each s (dm hs)
   exact ⟨this.1, by omega⟩, by rw [gR, gR, QC]; omega⟩
 obtain ⟨E4, eE⟩ : ∃ E4, E4 = D.lst (((ws.take j ++ [ow]) ++ ws.drop (j + 1)).map D.str) := ⟨_, rfl⟩
 have eE' : D.lst ((ws.take j).map D.str ++ [D.str ow] ++ (ws.drop (j + 1)).map D.str) = E4 := by
  rw [eE, cj, cj]
  rfl
 simp only [aCa, DU, bZ, eE', kG hq4, zY, af, ae, reduceCtorEq]
 refine ⟨lI _ (by simp only [av]; omega), lI _ (by simp only [bw, av, dj]; omega), by rw [sizeLine_eq]; omega, ?_⟩
 obtain ⟨w5, e5⟩ : ∃ w5, w5 = w4.set q (.lst ([A, B, C3] ++ [E4])) := ⟨_, rfl⟩
 have hq5 : w5[q]? = some (.lst [A, B, C3, E4]) := by rw [e5]; exact cc (ar.mp hq4).1
 have d5 : eD w5 1 0 (b + 1) := by rw [e5]; exact JV d4 q2
 rw [← e5, a7]
 clear e5
 simp only [zY, af, ae, reduceCtorEq]
 refine kY (b := b) d5 (by omega) (by omega) fun vv w6 v0 v1 d6 k6 => ?_
 have hq6 : w6[q]? = some (.lst [A, B, C3, E4]) := by
  rw [k6.2 q (by omega) (by omega)]
  exact hq5
 obtain ⟨fd, hat, ys, rfl, PY⟩ := UK (xs := [A, B, C3, E4]) (Q := fun d => ∃ ys, d = .lst (ys.map D.str) ∧ E5 S (C + 1) ys) v0 (by simp; omega) fun m hm => by
  simp only [ay, br, df] at hm
  rcases hm with rfl | rfl | rfl | rfl
  ·exact ⟨_, eA, p1⟩
  ·exact ⟨_, eB, p2⟩
  ·exact ⟨_, eC, p3⟩
  ·exact ⟨_, eE, p4⟩
 have ixq : ∀ P : D → W → Prop, T (aY (.ref q) (.int vv) w6) P = P (.lst (ys.map D.str)) w6 := fun P => by
  have : aY (.ref q) (.int vv) w6 = .ok (.lst (ys.map D.str)) w6 := by simp only [aY, hq6, atM, hat]
  rw [this, bZ]
 have TF := K3 PY Lw.U9 (.inl rfl)
 obtain ⟨f, ef⟩ : ∃ f, f = Txt.join " " ys := ⟨_, rfl⟩
 have fl := TF.len
 have jF : ∀ (w : W) (P : D → W → Prop), T (joinM (.str (" " : Str)) [.lst (ys.map D.str)] w) P = P (.str f) w := fun w P => by rw [ef, QB PY (by omega) Lw.U9]
 rw [← ef] at TF fl
 have k1' : (kk : Int) + 1 = ((kk + 1 : Nat) : Int) := by omega
 have ll := RG lines
 have l6 : (lines.take kk).length ≤ lines.length := by rw [dn]; omega
 have l7 : (lines.drop (kk + 1)).length ≤ lines.length := by rw [dq]; omega
 simp only [ixq, DM, k1', aCa, DU, jF, bZ, zY, af, ae, reduceCtorEq]
 refine ⟨lI _ (by simp only [av]; omega), lI _ (by simp only [bw, av, dj]; omega), ?_⟩
 have PN : E5 L2 C2 ((lines.take kk ++ [f]) ++ lines.drop (kk + 1)) := ⟨fun s hs => by
  rcases bh.mp hs with hs | hs
  ·rcases bh.mp hs with hs | hs
   ·have := PL.each s (dy hs)
    exact ⟨this.1, by omega⟩
   ·rw [bp.mp hs]
    have := TF.few
    exact ⟨TF.ch, by omega⟩
  ·have := PL.each s (List.mem_of_mem_drop hs)
   exact ⟨this.1, by omega⟩, by rw [gR, gR, QC]; omega⟩
 have eN : D.lst ((lines.take kk).map D.str ++ [D.str f] ++ (lines.drop (kk + 1)).map D.str) = .lst (((lines.take kk ++ [f]) ++ lines.drop (kk + 1)).map D.str) := by
  rw [cj, cj]
  rfl
 rw [eN, QB PN (by omega) LN]
 exact hP _ w6 (K3 PN LN (.inr rfl)) d6
end
section
variable (k : K65.bE)
variable {w w' w0 : W} {P : D → W → Prop} {PF : Fl → W → Prop} {PX : XD → W → Prop} {n l : Nat} {d : D} {u0 : W}
theorem aBs {c : Nat} (h : c < 127) : (∀ s ∈ (⟨#[c]⟩ : Str).cps.toList, s < 127) ∧ (⟨#[c]⟩ : Str).length ≤ 1 ∧ cm (⟨#[c]⟩ : Str) ≤ 1 :=
 ⟨fun s hs => by have := bp.mp hs; omega, az 1, aII c⟩
theorem HF : (∀ s ∈ ("" : Str).cps.toList, s < 127) ∧ ("" : Str).length ≤ 1 ∧ cm ("" : Str) ≤ 1 := ⟨fun s hs => (by cases hs), (by decide +kernel), (by decide +kernel)⟩
theorem aDX {b L C L' C' L2 C2 : Nat} {x o : Str} (hx : EE L C x) (ho : EE L' C' o) (h1 : 2 * L + 12 ≤ L2) (h2 : L + L' + 12 ≤ L2) (h3 : 2 * C + 1 ≤ C2) (h4 : C' ≤ C2) (h5 : L2 ≤ 12000) (hd : eD w 1 0 (b + 10)) (hP : ∀ y w', EE L2 C2 y → eD w' 1 0 b → P (.str y) w') : T (K65.iF k [.ref 1, .str x, .str o] w) P := by
 have hl := hx.len
 have hl' := ho.len
 have ls : ∀ (PP : D → W → Prop) (w : W), T (cZ [.str x] w) PP = PP (.int x.length) w := fun PP w => aDA (by omega)
 unfold K65.iF K65.wV
 rw [dM, aF6, a7]
 simp only [RF, zY, af, ae, reduceCtorEq]
 refine kY (b := b + 9) hd (by omega) (by omega) fun wy w1 y0 y1 d1 k1 => ?_
 try simp only [zY, af, ae, reduceCtorEq]
 rw [a7]
 simp only [ls, zY, af, ae, reduceCtorEq]
 refine kY (b := b + 8) d1 (by omega) (by omega) fun sv w2 s0 s1 d2 k2 => ?_
 obtain ⟨sp, rfl⟩ : ∃ sp : Nat, sv = (sp : Int) := ⟨sv.toNat, by omega⟩
 try simp only [zY, af, ae, reduceCtorEq]
 rw [a7]
 simp only [aBo, zY, af, ae, reduceCtorEq]
 by_cases c3 : wy < 3
 ·have e3 : decide (wy < 3) = true := by rw [ai]; exact c3
  simp only [e3, zY, af, ae, reduceCtorEq]
  rw [a7]
  simp only [zY, af, ae, reduceCtorEq]
  refine kY (b := b + 7) d2 (by omega) (by omega) fun gv w3 g0 g1 d3 k3 => ?_
  obtain ⟨c, c127, hc⟩ := aJs g0 g1
  obtain ⟨m, hat, hm⟩ := UK (xs := [D.str ("" : Str), D.str ⟨#[c]⟩, D.str ⟨#[c]⟩]) (Q := fun d => ∃ m, d = .str m ∧ ((∀ s ∈ m.cps.toList, s < 127) ∧ m.length ≤ 1 ∧ cm m ≤ 1)) y0 (by simp; omega) fun m hm => by
   simp only [ay, br, df] at hm
   rcases hm with rfl | rfl | rfl
   ·exact ⟨_, rfl, HF⟩
   ·exact ⟨_, rfl, aBs c127⟩
   ·exact ⟨_, rfl, aBs c127⟩
  obtain ⟨m, rfl, hm⟩ := hm
  have slS : ∀ (lo hi : Option Int) (w : W), fO (.str x) lo hi w = .ok (.str (cutS x lo hi)) w := fun lo hi w => by
   simp only [fO, if_pos (show x.length ≤ sizeLine by rw [sizeLine_eq]; omega)]
  obtain ⟨sq, hsq, hle⟩ : ∃ sq : Nat, (sp : Int) + (if (!(wy == 1)) = true then 1 else 0) = (sq : Int) ∧ sp ≤ sq := by
   cases (wy == 1)
   ·exact ⟨sp + 1, by simp, by omega⟩
   ·exact ⟨sp, by simp, az _⟩
  have TB := aCn (a := sp) (b := sq) hx hle hm
  try simp only [hc, zY, af, ae, reduceCtorEq]
  simp only [slS, aMR, aLH, hsq, DM, bZ, zY, af, ae, reduceCtorEq]
  have jj : ∀ (w : W) (P : D → W → Prop), T (joinM (.str ("" : Str)) [.lst [.str (cutS x none (some (sp : Int))), .str m, .str (cutS x (some (sq : Int)) none)]] w) P = P (.str (Txt.join "" [cutS x none (some (sp : Int)), m, cutS x (some (sq : Int)) none])) w := fun w P => by
   have l1 := cutS_length x none (some (sp : Int))
   have l2 := cutS_length x (some (sq : Int)) none
   have l3 := hm.2.1
   exact aCB (ps := [cutS x none (some (sp : Int)), m, cutS x (some (sq : Int)) none]) (by simp only [bt, dz, List.sum_cons, List.sum_nil]; omega) (by simp)
  refine ⟨_, hat, ?_⟩
  rw [jj]
  have TB' : EE L2 C2 (Txt.join "" [cutS x none (some (sp : Int)), m, cutS x (some (sq : Int)) none]) := ⟨TB.ch, by have := TB.len; omega, by have := TB.few; omega⟩
  exact hP _ w3 TB' (d3.less (by omega))
 ·have e3 : decide (wy < 3) = false := by rw [decide_eq_false_iff_not]; exact c3
  have PL := EH hx pK aH0
  have pl := bN (x := x) pK
  obtain ⟨lines, el⟩ : ∃ lines, lines = Txt.split x "\n" := ⟨_, rfl⟩
  simp only [e3, zY, af, ae, reduceCtorEq]
  rw [a7]
  simp only [DM, fJ pK (show x.length ≤ 16000000 by omega), ← el, zY, af, ae, reduceCtorEq]
  rw [← el] at PL pl
  have ll := RG lines
  have sL := PL.sum
  have l1 : 1 ≤ lines.length := List.length_pos_iff.mpr pl.ne
  rw [a7]
  simp only [SJ, av, zY, af, ae, reduceCtorEq]
  refine kY (b := b + 7) d2 (by omega) (by omega) fun kv w3 k0 k1 d3 k3 => ?_
  obtain ⟨kk, rfl⟩ : ∃ kk : Nat, kv = (kk : Int) := ⟨kv.toNat, by omega⟩
  have kl : kk < lines.length := by omega
  obtain ⟨y, hy⟩ : ∃ y, lines[kk]? = some y := ⟨lines[kk], bo kl⟩
  try simp only [zY, af, ae, reduceCtorEq]
  rw [a7]
  simp only [aBo, zY, af, ae, reduceCtorEq]
  by_cases c7 : wy < 7
  ·have e7 : decide (wy < 7) = true := by rw [ai]; exact c7
   simp only [e7, zY, af, ae, reduceCtorEq]
   exact aAj k (b := b) hx PL hy h1 h3 h5 (d3.less (by omega)) hP
  ·have e7 : decide (wy < 7) = false := by rw [decide_eq_false_iff_not]; exact c7
   simp only [e7, zY, af, ae, reduceCtorEq]
   rw [a7]
   have PO := EH ho pK aH0
   obtain ⟨oth, eo⟩ : ∃ oth, oth = Txt.split o "\n" := ⟨_, rfl⟩
   simp only [DM, fJ pK (show o.length ≤ 16000000 by omega), ← eo, zY, af, ae, reduceCtorEq]
   rw [← eo] at PO
   have lo := RG oth
   have sO := PO.sum
   have i1 : (kk : Int) + 1 = ((kk + 1 : Nat) : Int) := by omega
   have i2 : (kk : Int) + 2 = ((kk + 2 : Nat) : Int) := by omega
   have tm : ∀ {i : Nat} {s : Str}, s ∈ lines.take i → s ∈ lines := fun h => dy h
   have dm : ∀ {i : Nat} {s : Str}, s ∈ lines.drop i → s ∈ lines := fun h => List.mem_of_mem_drop h
   have lt : ∀ i, (lines.take i).length ≤ lines.length := fun i => by rw [dn]; omega
   have ld : ∀ i, (lines.drop i).length ≤ lines.length := fun i => by rw [dq]; omega
   have lod : ∀ i, (oth.drop i).length ≤ oth.length := fun i => by rw [dq]; omega
   have c1 := u4 kk lines
   have c2 := u4 (kk + 1) lines
   have c3 := u4 (kk + 2) lines
   have c4 := u4 kk oth
   have p1 : E5 L2 C2 (lines.take kk ++ lines.drop (kk + 1)) := (PL.sub (S' := L2) (fun s hs => by rcases bh.mp hs with hs | hs; exact tm hs; exact dm hs) (by have := aC1 hy; rw [gR]; omega)).up (az _) (by omega)
   have p2 : E5 L2 C2 (lines.take (kk + 1) ++ lines.drop kk) := (PL.sub (S' := L2) (fun s hs => by rcases bh.mp hs with hs | hs; exact tm hs; exact dm hs) (by rw [gR]; omega)).up (az _) (by omega)
   have p3 : E5 L2 C2 ((lines.take kk ++ ((lines.drop kk).take 2).reverse) ++ lines.drop (kk + 2)) := (PL.sub (S' := L2) (fun s hs => by
     rcases bh.mp hs with hs | hs
     ·rcases bh.mp hs with hs | hs
      ·exact tm hs
      ·exact dm (dy (List.mem_reverse.mp hs))
     ·exact dm hs) (by
     have := u4 2 (lines.drop kk)
     rw [List.drop_drop] at this
     rw [gR, gR, aEm]
     omega)).up (az _) (by omega)
   have p4 : E5 L2 C2 (lines.take kk ++ oth.drop kk) := ⟨fun s hs => by
    rcases bh.mp hs with hs | hs
    ·have := PL.each s (tm hs)
     exact ⟨this.1, by omega⟩
    ·have := PO.each s (List.mem_of_mem_drop hs)
     exact ⟨this.1, by omega⟩, by rw [gR]; omega⟩
   have p5 : E5 L2 C2 ((lines.take kk ++ [("" : Str)]) ++ lines.drop kk) := ⟨fun s hs => by
    rcases bh.mp hs with hs | hs
    ·rcases bh.mp hs with hs | hs
     ·have := PL.each s (tm hs)
      exact ⟨this.1, by omega⟩
     ·rw [bp.mp hs]
      exact ⟨HF.1, by have := HF.2.2; omega⟩
    ·have := PL.each s (dm hs)
     exact ⟨this.1, by omega⟩, by
     have : ("" : Str).length ≤ 1 := HF.2.1
     rw [gR, gR, QC]
     omega⟩
   rw [a7]
   have l2 : ((lines.drop kk).take 2).length ≤ 2 := by rw [dn]; omega
   have l3 := lt kk
   have l4 := lt (kk + 1)
   have l5 := ld kk
   have l6 := ld (kk + 1)
   have l7 := ld (kk + 2)
   have l8 := lod kk
   simp only [i1, i2, aCa, DU, aHi, aHV, bZ, zY, af, ae, reduceCtorEq]
   have sz : ∀ {a b : Nat}, a ≤ 30000 → b ≤ 30000 → a + b ≤ sizeLine := fun {a b} ha hb => lI _ (by omega)
   have lm : ∀ {a : List Str} {c : Nat}, a.length ≤ c → (a.map D.str).length ≤ c := fun {a c} h => by rw [av]; exact h
   refine ⟨sz (lm (by omega)) (lm (by omega)), sz (lm (by omega)) (lm (by omega)), sz (lm (by omega)) (lm (by rw [List.length_reverse]; omega)), sz (by simp only [bw, av, List.length_reverse]; omega) (lm (by omega)), rfl, sz (lm (by omega)) (lm (by omega)), sz (lm (by omega)) (by omega), sz (by simp only [bw, av, dj]; omega) (lm (by omega)), ?_⟩
   refine kY (b := b) (d3.less (by omega)) (by omega) (by omega) fun vv w4 v0 v1 d4 k4 => ?_
   have fin : ∀ {ys : List Str}, E5 L2 C2 ys → T (joinM (.str ("\n" : Str)) [.lst (ys.map D.str)] w4) fun d w1 => P d w1 := fun {ys} PY => by
    rw [QB PY (by omega) LN]
    exact hP _ w4 (K3 PY LN (.inr rfl)) d4
   rw [← cj, ← cj, ← cj, ← cj, ← cj]
   rw [aEt]
   refine UK (Q := fun d => T (joinM (.str ("\n" : Str)) [d] w4) fun d w1 => P d w1) v0 (by simp; omega) fun m hm => ?_
   simp only [bf, bz, ay, br, df] at hm
   have e5 : (lines.take kk).map D.str ++ [D.str ("" : Str)] ++ (lines.drop kk).map D.str = ((lines.take kk ++ [("" : Str)]) ++ lines.drop kk).map D.str := by
    rw [cj, cj]
    rfl
   rcases hm with rfl | rfl | rfl | rfl | rfl
   ·exact fin p1
   ·exact fin p2
   ·exact fin p3
   ·exact fin p4
   ·rw [e5]
    exact fin p5
end
section
variable (k : K65.bE)
variable {w w' w0 : W} {P : D → W → Prop} {PF : Fl → W → Prop} {PX : XD → W → Prop} {n l : Nat} {d : D} {u0 : W}
def S1 : List D := [.str ("" : Str), .str ("\n" : Str), .str ("-" : Str), .str ("-\n" : Str), .str ("- ! " : Str), .str ("- !" : Str), .str ("- ! 0 0 1 1" : Str), .str ("- ! 0 0 1" : Str), .str ("heal" : Str), .str ("heal 0" : Str), .str ("tear 0 -" : Str), .str ("tear - 0" : Str)]
def S2 : List D := [.str ("tear 0,1 0,1" : Str), .str ("tear 1,0 -" : Str), .str ("tear 0,0 -" : Str), .str ("tear 0, -" : Str), .str ("tear - -" : Str), .str ("tear 0" : Str), .str ("fall 0 ; - " : Str), .str (" -" : Str)]
def S3 : List D := [.str ("fall 0 ; -" : Str), .str ("- ; heal" : Str)]
def S4 : List D := [.str ("fall 0 ; " : Str), .str (" ; fall 0" : Str), .str ("fall 999" : Str), .str ("fall 1000" : Str), .str ("fall 00" : Str), .str ("fall -1" : Str), .str ("rank 0 0" : Str), .str ("ask 0 0 0" : Str)]
def S5 : List D := [.str ("- ! 0 0 1 1 ! 0 0 1 1" : Str), .str ("- ! 0 0 1 1 ; 0 0 2 1" : Str), .str ("- ! 0 0 1 1, 0 0 2 1" : Str), .str ("-  ! 0 0 1 1" : Str), .str ("--" : Str)]
def S6 : List D := [.str ("fall 0 ! -" : Str), .str ("Fall 0" : Str), .str ("fall 0;fall 1" : Str), .str ("fall 1_0" : Str), .str ("- ! 0 0 +1 1" : Str), .str (("fall " : Str) ++ Txt.mul ("1" : Str) 5000)]
def S7 : List D := [.str (("- ! 0 0 1 " : Str) ++ Txt.mul ("2" : Str) 5000), .str ((("tear 0," : Str) ++ Txt.mul ("0" : Str) 5000) ++ (" -" : Str))]
def S8 : List D := [.non, .bl true, .int 0, .int (10 ^ 39), .tup [], .lst [.str ("-" : Str)], .tup [.str ("-" : Str)], .EZ [] [], .str (Txt.mul ("fall 0 ; " : Str) 400 ++ ("fall 0" : Str)), .str (Txt.mul ("-\n" : Str) 900 ++ ("x" : Str))]
def aFl (x : D) : Prop := (∃ s, x = .str s ∧ XO s) ∨ (HX 5 0 x = true ∧ jA x ≤ 1000 ∧ D9 x = false)
def w9 : D → Bool
 | .str s => s.cps.toList.all (fun c => decide (c < 127)) && (decide (s.length ≤ 12000) && decide (cm s ≤ 60))
 | x => HX 5 0 x && (decide (jA x ≤ 1000) && !D9 x)
theorem aGh {x : D} (h : w9 x = true) : aFl x := by
 cases x
 case str s =>
  simp only [w9, ak, ai, au] at h
  exact .inl ⟨s, rfl, h.1, h.2.1, h.2.2⟩
 all_goals
  simp only [w9, ak, ai, Bool.not_eq_true'] at h
  exact .inr ⟨h.1, h.2.1, h.2.2⟩
theorem f1 : S1.all w9 = true := by decide +kernel
theorem f2 : S2.all w9 = true := by decide +kernel
theorem f3 : S3.all w9 = true := by decide +kernel
theorem f4 : S4.all w9 = true := by decide +kernel
theorem f5 : S5.all w9 = true := by decide +kernel
theorem f6 : (S6.take 5).all w9 = true := by decide +kernel
theorem f8 : (S8.take 8).all w9 = true := by decide +kernel
theorem XA {a : Array Nat} {c : Nat} : ∀ (m : Nat) (acc : Array Nat), c ∈ ((List.replicate m a).foldl (· ++ ·) acc).toList → c ∈ acc.toList ∨ c ∈ a.toList
 | 0, acc, h => .inl h
 | m + 1, acc, h => by
  rw [List.replicate_succ, List.foldl_cons] at h
  rcases XA m _ h with h | h
  ·rw [Array.toList_append] at h
   exact bh.mp h
  ·exact .inr h
theorem aAY {a : Str} {m : Int} (hm : 2 ≤ m) {c : Nat} (h : c ∈ (Txt.mul a m).cps.toList) : c ∈ a.cps.toList := by
 unfold Txt.mul at h
 rw [if_neg (by omega)] at h
 split at h
 ·exact h
 ·rcases XA _ _ h with h | h
  ·cases h
  ·exact h
theorem aGI {a : Str} {m : Nat} : (Txt.mul a (m : Int)).length = a.length * m := by
 have := len_mul a (m : Int)
 rw [if_neg (by simp)] at this
 exact_mod_cast this
theorem y6 {a b : Str} {L L' C C' : Nat} (h : EE L C a) (g : EE L' C' b) : EE (L + L') (C + C') (a ++ b) := by
 have e : TL.tl (a ++ b) = TL.tl a ++ TL.tl b := TL.tl_append a b
 refine ⟨fun c hc => ?_, ?_, ?_⟩
 ·have hc : c ∈ TL.tl (a ++ b) := hc
  rw [e] at hc
  rcases bh.mp hc with hc | hc
  ·exact h.ch c hc
  ·exact g.ch c hc
 ·rw [TL.len_tl, e, bw, ← TL.len_tl, ← TL.len_tl]
  have := h.len
  have := g.len
  omega
 ·show fP 0 (TL.tl (a ++ b)) ≤ _
  rw [e]
  have h1 := AA (TL.tl a) 0 (TL.tl b)
  have h2 : fP 0 (TL.tl a) ≤ C := h.few
  have h3 : fP 0 (TL.tl b) ≤ C' := g.few
  omega
def aLO (L C : Nat) (s : Str) : Bool := s.cps.toList.all (fun c => decide (c < 127)) && (decide (s.length ≤ L) && decide (cm s ≤ C))
theorem nR {L C : Nat} {s : Str} (h : aLO L C s = true) : EE L C s := by
 simp only [aLO, ak, ai, au] at h
 exact ⟨h.1, h.2.1, h.2.2⟩
def aF0 (l : Nat) (s : Str) : Bool := s.cps.toList.all (fun c => decide (c < 127) && decide (c ≠ 44)) && decide (s.length ≤ l)
theorem mE {a : Str} {m l : Nat} (h : aF0 l a = true) (hm : 2 ≤ m) : EE (l * m) 0 (Txt.mul a (m : Int)) := by
 simp only [aF0, ak, ai, au] at h
 have hm' : (2 : Int) ≤ (m : Int) := by omega
 refine ⟨fun c hc => (h.1 c (aAY hm' hc)).1, by rw [aGI]; exact dw _ h.2, ?_⟩
 show fP 0 (TL.tl (Txt.mul a (m : Int))) ≤ 0
 rw [HC _ 0 fun hc => (h.1 44 (aAY hm' hc)).2 rfl]
 exact az 0
theorem EE.o {L C : Nat} {s : Str} (h : EE L C s) (h1 : L ≤ 12000) (h2 : C ≤ 60) : XO s := ⟨h.ch, bq h.len h1, bq h.few h2⟩
theorem aMp : XO (("fall " : Str) ++ Txt.mul ("1" : Str) 5000) := (y6 (L := 5) (C := 0) (nR (by decide +kernel)) (mE (a := "1") (m := 5000) (l := 1) (by decide +kernel) (by omega))).o (by omega) (by omega)
theorem aMU : XO (("- ! 0 0 1 " : Str) ++ Txt.mul ("2" : Str) 5000) := (y6 (L := 10) (C := 0) (nR (by decide +kernel)) (mE (a := "2") (m := 5000) (l := 1) (by decide +kernel) (by omega))).o (by omega) (by omega)
theorem aMO : XO ((("tear 0," : Str) ++ Txt.mul ("0" : Str) 5000) ++ (" -" : Str)) := (y6 (y6 (L := 7) (C := 1) (nR (by decide +kernel)) (mE (a := "0") (m := 5000) (l := 1) (by decide +kernel) (by omega))) (nR (L := 2) (C := 0) (by decide +kernel))).o (by omega) (by omega)
theorem aMM : XO (Txt.mul ("fall 0 ; " : Str) 400 ++ ("fall 0" : Str)) := (y6 (mE (a := "fall 0 ; ") (m := 400) (l := 9) (by decide +kernel) (by omega)) (nR (L := 6) (C := 0) (by decide +kernel))).o (by omega) (by omega)
theorem aMq : XO (Txt.mul ("-\n" : Str) 900 ++ ("x" : Str)) := (y6 (mE (a := "-\n") (m := 900) (l := 2) (by decide +kernel) (by omega)) (nR (L := 1) (C := 0) (by decide +kernel))).o (by omega) (by omega)
theorem pX {xs : List D} (h : xs.all w9 = true) : ∀ x ∈ xs, aFl x := fun x hx => by
 rw [au] at h
 exact aGh (h x hx)
abbrev SS : List D := ((((((S1 ++ S2) ++ S3) ++ S4) ++ S5) ++ S6) ++ S7) ++ S8
theorem aFL : ∀ x ∈ SS, aFl x := fun x hx => by
 simp only [SS, bh] at hx
 rcases hx with ((((((hx | hx) | hx) | hx) | hx) | hx) | hx) | hx
 ·exact pX f1 x hx
 ·exact pX f2 x hx
 ·exact pX f3 x hx
 ·exact pX f4 x hx
 ·exact pX f5 x hx
 ·rw [show S6 = S6.take 5 ++ [.str (("fall " : Str) ++ Txt.mul ("1" : Str) 5000)] from rfl] at hx
  rcases bh.mp hx with hx | hx
  ·exact pX f6 x hx
  ·rw [bp.mp hx]
   exact .inl ⟨_, rfl, aMp⟩
 ·simp only [S7, ay, br, df] at hx
  rcases hx with rfl | rfl
  ·exact .inl ⟨_, rfl, aMU⟩
  ·exact .inl ⟨_, rfl, aMO⟩
 ·rw [show S8 = S8.take 8 ++ [.str (Txt.mul ("fall 0 ; " : Str) 400 ++ ("fall 0" : Str)), .str (Txt.mul ("-\n" : Str) 900 ++ ("x" : Str))] from rfl] at hx
  rcases bh.mp hx with hx | hx
  ·exact pX f8 x hx
  ·simp only [ay, br, df] at hx
   rcases hx with rfl | rfl
   ·exact .inl ⟨_, rfl, aMM⟩
   ·exact .inl ⟨_, rfl, aMq⟩
theorem XR (GV : Dis k) {x : D} (h : aFl x) (hP : ∀ w', Gr w w' → P (.bl true) w') : T (K65.cP k [x] w) P := by
 rcases h with ⟨s, rfl, h⟩ | ⟨h1, h2, h3⟩
 ·exact pM k GV h hP
 ·exact aBC k GV h1 h2 h3 hP
end
section
variable (k : K65.bE)
variable {w w' w0 : W} {P : D → W → Prop} {PF : Fl → W → Prop} {PX : XD → W → Prop} {n l : Nat} {d : D} {u0 : W}
theorem aKq : T (IU (.int 10) (.int 39) w) P = P (.int (10 ^ 39)) w := by
 have : IU (.int 10) (.int 39) w = .ok (.int (10 ^ 39)) w := by unfold IU; rfl
 rw [this, bZ]
theorem IL {a : Str} {m : Int} (h : 2 ≤ m ∧ m ≤ 100000 ∧ a.length * m.toNat ≤ 1000000) : T (qD (.str a) (.int m) w) P = P (.str (Txt.mul a m)) w := by
 have : qD (.str a) (.int m) w = .ok (.str (Txt.mul a m)) w := by simp only [qD, if_pos h]
 rw [this, bZ]
theorem aBV {a : Str} {l : Nat} (h : aF0 l a = true) : a.length ≤ l := by
 simp only [aF0, ak, ai] at h
 exact h.2
theorem text_of {ys : List D} (h : ∀ y ∈ ys, N8 y) (hl : ys.length ≤ 6) : uO (.tup ys) = true ∧ jA (.tup ys) ≤ 726 ∧ EE 2904 13 (AK (.tup ys)) := by
 have st : uO (.tup ys) = true := by
  simp only [uO, au]
  intro y hy
  obtain ⟨a, f, rfl, _, ht, _⟩ := h y hy
  exact ht
 have wt : jA (.tup ys) ≤ 726 := by
  have h1 : wtDs ys ≤ ys.length * (120 + 1) := YC fun y hy => by
   obtain ⟨a, f, _, _, _, hw⟩ := h y hy
   exact hw
  show wtDs ys ≤ 726
  have : ys.length * (120 + 1) ≤ 6 * (120 + 1) := dw _ hl
  omega
 exact ⟨st, wt, aEJ st, by have := aBL st; omega, aDz h⟩
theorem aGU {s0 s3 s4 s5 s6 s7 s8 : Option D} (hd : eD w 1 0 (2 ^ 59)) (hP : ∀ a b c w', EE 2904 13 a → EE 2904 13 b → EE 2904 13 c → eD w' 1 0 100000 → P (.lst [.str a, .str b, .str c]) w') :
  T (a8 (dB iO (aA (eC (.int 3)) aD)) [3] (aQ 3) bA (aH (cL k) 1 aM (aA (aH (fK k) 2 aM (aA (aB 1) (aA (aE a9 (eC (.int 1)) (aH (bR k) 2 aM (aA (aB 1) (aA (eC (.int 6)) aD)))) aD))) aD)) [s0, some (.ref 1), none, s3, s4, s5, s6, s7, s8] w) P := by
 have lr : (fW 0 (3 : Int).toNat).xs.length = 3 := by rw [j5]; rfl
 simp only [wX (n := 3) (by omega) (by omega), zY, af, ae, reduceCtorEq]
 refine ⟨lI _ (by rw [lr]; omega), ?_⟩
 refine B6 (it := fW 0 (3 : Int).toNat) (fun j acc w' => eD w' 1 0 (100000 + 20000 * (3 - j)) ∧ ∃ ts : List Str, acc = ts.map D.str ∧ ts.length = j ∧ ∀ t ∈ ts, EE 2904 13 t) (fun _ _ _ _ => trivial) ⟨hd.less (by omega), [], rfl, rfl, fun t ht => nomatch ht⟩ (fun j d acc w1 hj ⟨d1, ts, ea, lt, ht⟩ => ?_) fun acc w1 ⟨d1, ts, ea, lt, ht⟩ => ?_
 ·have hj3 : j < 3 := by
   have := (ar.mp hj).1
   rw [lr] at this
   exact this
  simp only [cQ, RF, aGn, aI8, zY, af, ae, reduceCtorEq]
  refine kY (b := 100000 + 20000 * (3 - (j + 1)) + 18000) (d1.less (by omega)) (by omega) (by omega) fun v w2 v0 v1 d2 k2 => ?_
  obtain ⟨m, em, hm⟩ : ∃ m : Nat, 1 + v = (m : Int) ∧ m ≤ 6 := ⟨(1 + v).toNat, by omega, by omega⟩
  simp only [A2, em, zY, af, ae, reduceCtorEq]
  refine aDO (sx k) (u0 := w2) (b := 100000 + 20000 * (3 - (j + 1))) (by omega) ⟨d2, .refl⟩ fun ys w3 ly hy d3 => ?_
  obtain ⟨st, wt, tx⟩ := text_of hy (by omega)
  have lt : ∀ w : W, Sx.cL (sx k) [.tup ys] w = .ok (.str (AK (.tup ys))) w := fun w => QJ (sx k) st (by omega)
  simp only [lt, zY, af, ae, reduceCtorEq]
  refine ⟨d3.1, ts ++ [AK (.tup ys)], by rw [ea, cj]; rfl, by rw [bw]; simp; omega, fun t hmem => ?_⟩
  rcases bh.mp hmem with hmem | hmem
  ·exact ht t hmem
  ·rw [bp.mp hmem]
   exact tx
 ·rw [lr] at lt d1
  match ts, lt, ea, ht with
  | [a, b, c], _, ea, ht =>
   rw [ea]
   exact hP a b c w1 (ht a (by simp)) (ht b (by simp)) (ht c (by simp)) (d1.less (by omega))
theorem aBS (GV : Dis k) {b : Nat} {s0 s5 s6 s7 s8 : Option D} {ts : List D} {i : Nat} {g o : Str} (hg : EE 2904 13 g) (ho : EE 2904 13 o) (hat : atI ts ((i : Int) - 1) = some (.str o)) (hd : eD w 1 0 (b + 30))
  (hP : ∀ w' s5 s6 s7, eD w' 1 0 b → PF (.nx [s0, some (.ref 1), some (.lst ts), some (.int (i : Nat)), some (.str g), s5, s6, s7, s8]) w') :
  T ((aJ (aO (aE eG (aH (bR k) 2 aM (aA (aB 1) (aA (eC (.int 3)) aD))) (eC (.int 0))) (aQ 6))
 (aJ (aO (aH (iF k) 3 aM (aA (aB 1) (aA (aB 4) (aA (aE aY (aB 2) (aE nK (aB 3) (eC (.int 1)))) aD)))) (aQ 7))
 (aJ (dH (dS (aB 6)) (aO (aH (iF k) 3 aM (aA (aB 1) (aA (aB 7) (aA (aE aY (aB 2) (aE nK (aB 3) (eC (.int 1)))) aD)))) (aQ 7)) aZ)
 (dH (iB (cS (dS (aH (cP k) 1 aM (aA (aB 7) aD)))) (cS (dS (aH (cP k) 1 aM (aA (aB 4) aD))))) (aU (eC (.bl false))) aZ)))) [s0, some (.ref 1), some (.lst ts), some (.int (i : Nat)), some (.str g), s5, s6, s7, s8] w) PF := by
 have og : XO g := hg.o (by omega) (by omega)
 have ixo : ∀ (w : W) (P : D → W → Prop), T (aY (.lst ts) (.int ((i : Int) - 1)) w) P = P (.str o) w := fun w P => by
  have : aY (.lst ts) (.int ((i : Int) - 1)) w = .ok (.str o) w := by simp only [aY, atM, hat]
  rw [this, bZ]
 have sub1 : ∀ (w : W) (P : D → W → Prop), T (nK (.int (i : Int)) (.int 1) w) P = P (.int ((i : Int) - 1)) w := fun w P => by unfold T; rfl
 rw [a7]
 simp only [RF, zY, af, ae, reduceCtorEq]
 refine kY (b := b + 29) hd (by omega) (by omega) fun v w1 v0 v1 d1 k1 => ?_
 simp only [nP, k7, aj, bx, zY, af, ae, reduceCtorEq]
 rw [a7]
 simp only [sub1, ixo, zY, af, ae, reduceCtorEq]
 refine aDX k (b := b + 19) (L2 := 5820) (C2 := 27) hg ho (by omega) (by omega) (by omega) (by omega) (by omega) d1 fun y w2 hy d2 => ?_
 try simp only [zY, af, ae, reduceCtorEq]
 rw [a7]
 cases (v == 0)
 ·simp only [zY, af, ae, reduceCtorEq]
  refine pM k GV (hy.o (by omega) (by omega)) fun w4 g4 => ?_
  simp only [cb, zY, af, ae, reduceCtorEq]
  refine pM k GV og fun w5 g5 => ?_
  simp only [cb, zY, af, ae, reduceCtorEq]
  exact hP w5 _ _ _ (HA (d2.less (by omega)) (g4.trans g5))
 ·simp only [sub1, ixo, zY, af, ae, reduceCtorEq]
  refine aDX k (b := b + 9) (L2 := 11652) (C2 := 55) hy ho (by omega) (by omega) (by omega) (by omega) (by omega) d2 fun z w3 hz d3 => ?_
  try simp only [zY, af, ae, reduceCtorEq]
  refine pM k GV (hz.o (by omega) (by omega)) fun w4 g4 => ?_
  simp only [cb, zY, af, ae, reduceCtorEq]
  refine pM k GV og fun w5 g5 => ?_
  simp only [cb, zY, af, ae, reduceCtorEq]
  exact hP w5 _ _ _ (HA (d3.less (by omega)) (g4.trans g5))
theorem aFF (GV : Dis k) {s0 s1 s2 s3 s4 s5 s6 s7 : Option D} (hP : ∀ w', P (.bl true) w') :
  SS.length ≤ sizeLine ∧ T (jD ⟨SS, always⟩ [7] (aQ 7) (cS (dS (aH (cP k) 1 aM (aA (aB 7) aD)))) (aB 7) SS [s0, s1, s2, s3, s4, s5, s6, s7, some (.lst SS)] w) fun ys w2 => T (eG (.lst ys) (.lst []) w2) fun d w1 => P d w1 := by
 refine ⟨lI _ (by show SS.length ≤ 1000000; decide), ?_⟩
 refine B6 (it := ⟨SS, always⟩) (fun j acc w' => acc = []) (fun _ _ _ _ => trivial) rfl (fun j x acc w1 hx ea => ?_) fun acc w1 ea => ?_
 ·have hf := aFL x (cq hx)
  simp only [cQ, zY, af, ae, reduceCtorEq]
  refine XR k GV hf fun w2 g2 => ?_
  simp only [cb, zY, af, ae, reduceCtorEq]
  exact ea
 ·subst ea
  simp only [nP, KZ, List.isEmpty_nil, aj, bx, zY, af, ae, reduceCtorEq]
  exact hP w1
theorem good (GV : Dis k) (ns : List Int) (hl : ns.length ≤ 63) (hP : ∀ w', P (.bl true) w') : T (K65.W6 k [.qK (ns.map D.int)] []) P := by
 unfold K65.W6 K65.aDb
 rw [dM, aJR, a7]
 simp only [aIJ, zY, af, ae, reduceCtorEq]
 refine (aFM hl).mono fun r w0 _ ⟨er, l0, d0⟩ => ?_
 subst er
 try simp only [zY, af, ae, reduceCtorEq]
 rw [a7, U8]
 refine aGU k d0 fun a b c w1 ha hb hc d1 => ?_
 simp only [zY, af, ae, reduceCtorEq]
 rw [a7, US, IM]
 simp only [BP, IP, T_V, Sx.H7, aj, bx, zY, af, ae, reduceCtorEq]
 refine KU (it := ⟨Sx.dE ([a, b, c].map D.str), always⟩) (fun j σ w' => eD w' 1 0 (1000 * (3 - j)) ∧ ∃ s3 s4 s5 s6 s7, σ = [some (.qK (ns.map D.int)), some (.ref 1), some (.lst ([a, b, c].map D.str)), s3, s4, s5, s6, s7, none]) (fun _ _ _ _ => trivial) ⟨d1.less (by omega), _, _, _, _, _, rfl⟩ (fun j x σ w2 hx ⟨d2, s3, s4, s5, s6, s7, es⟩ => ?_) fun σ w2 ⟨d2, s3, s4, s5, s6, s7, es⟩ => ?_
 case refine_2 =>
  subst es
  rw [A7, a7]
  simp only [zY, af, ae, reduceCtorEq]
  rw [a7]
  simp only [zY, af, ae, reduceCtorEq]
  refine ⟨lI _ (by simp), ?_⟩
  rw [a7]
  simp only [zY, af, ae, reduceCtorEq]
  refine ⟨lI _ (by simp), ?_⟩
  rw [a7]
  simp only [zY, af, ae, reduceCtorEq]
  refine ⟨lI _ (by simp), ?_⟩
  rw [a7]
  simp only [zY, af, ae, reduceCtorEq]
  refine ⟨lI _ (by simp), ?_⟩
  rw [a7]
  have n1 : ("1" : Str).length ≤ 1 := aBV (by decide +kernel)
  have n2 : ("2" : Str).length ≤ 1 := aBV (by decide +kernel)
  have n0 : ("0" : Str).length ≤ 1 := aBV (by decide +kernel)
  have n9 : ("fall 0 ; " : Str).length ≤ 9 := aBV (by decide +kernel)
  have n3 : ("-\n" : Str).length ≤ 2 := aBV (by decide +kernel)
  have m1 : ∀ (w : W) (P : D → W → Prop), T (qD (.str ("1" : Str)) (.int 5000) w) P = P (.str (Txt.mul ("1" : Str) 5000)) w := fun w P => IL ⟨by omega, by omega, (bq (dw 5000 n1) (by omega) : _ * 5000 ≤ 1000000)⟩
  have m2 : ∀ (w : W) (P : D → W → Prop), T (qD (.str ("2" : Str)) (.int 5000) w) P = P (.str (Txt.mul ("2" : Str) 5000)) w := fun w P => IL ⟨by omega, by omega, (bq (dw 5000 n2) (by omega) : _ * 5000 ≤ 1000000)⟩
  have m0 : ∀ (w : W) (P : D → W → Prop), T (qD (.str ("0" : Str)) (.int 5000) w) P = P (.str (Txt.mul ("0" : Str) 5000)) w := fun w P => IL ⟨by omega, by omega, (bq (dw 5000 n0) (by omega) : _ * 5000 ≤ 1000000)⟩
  have m9 : ∀ (w : W) (P : D → W → Prop), T (qD (.str ("fall 0 ; " : Str)) (.int 400) w) P = P (.str (Txt.mul ("fall 0 ; " : Str) 400)) w := fun w P => IL ⟨by omega, by omega, (bq (dw 400 n9) (by omega) : _ * 400 ≤ 1000000)⟩
  have m3 : ∀ (w : W) (P : D → W → Prop), T (qD (.str ("-\n" : Str)) (.int 900) w) P = P (.str (Txt.mul ("-\n" : Str) 900)) w := fun w P => IL ⟨by omega, by omega, (bq (dw 900 n3) (by omega) : _ * 900 ≤ 1000000)⟩
  have b1 := (mE (a := "1") (m := 5000) (l := 1) (by decide +kernel) (by omega)).len
  have b2 := (mE (a := "2") (m := 5000) (l := 1) (by decide +kernel) (by omega)).len
  have b0 := (mE (a := "0") (m := 5000) (l := 1) (by decide +kernel) (by omega)).len
  have b9 := (mE (a := "fall 0 ; ") (m := 400) (l := 9) (by decide +kernel) (by omega)).len
  have b3 := (mE (a := "-\n") (m := 900) (l := 2) (by decide +kernel) (by omega)).len
  have c1 := (nR (L := 5) (C := 0) (s := "fall ") (by decide +kernel)).len
  have c2 := (nR (L := 10) (C := 0) (s := "- ! 0 0 1 ") (by decide +kernel)).len
  have c3 := (nR (L := 7) (C := 1) (s := "tear 0,") (by decide +kernel)).len
  have c4 := (nR (L := 2) (C := 0) (s := " -") (by decide +kernel)).len
  have c5 := (nR (L := 6) (C := 0) (s := "fall 0") (by decide +kernel)).len
  have c6 := (nR (L := 1) (C := 0) (s := "x") (by decide +kernel)).len
  have a1 : ∀ (w : W) (P : D → W → Prop), T (a9 (.str ("fall " : Str)) (.str (Txt.mul ("1" : Str) 5000)) w) P = P (.str (("fall " : Str) ++ Txt.mul ("1" : Str) 5000)) w := fun w P => qY (bq (Nat.add_le_add c1 b1) (by omega))
  have a2 : ∀ (w : W) (P : D → W → Prop), T (a9 (.str ("- ! 0 0 1 " : Str)) (.str (Txt.mul ("2" : Str) 5000)) w) P = P (.str (("- ! 0 0 1 " : Str) ++ Txt.mul ("2" : Str) 5000)) w := fun w P => qY (bq (Nat.add_le_add c2 b2) (by omega))
  have a3 : ∀ (w : W) (P : D → W → Prop), T (a9 (.str ("tear 0," : Str)) (.str (Txt.mul ("0" : Str) 5000)) w) P = P (.str (("tear 0," : Str) ++ Txt.mul ("0" : Str) 5000)) w := fun w P => qY (bq (Nat.add_le_add c3 b0) (by omega))
  have a4 : ∀ (w : W) (P : D → W → Prop), T (a9 (.str (("tear 0," : Str) ++ Txt.mul ("0" : Str) 5000)) (.str (" -" : Str)) w) P = P (.str ((("tear 0," : Str) ++ Txt.mul ("0" : Str) 5000) ++ (" -" : Str))) w := fun w P => qY (by rw [HG]; exact bq (Nat.add_le_add (Nat.add_le_add c3 b0) c4) (by omega))
  have a5 : ∀ (w : W) (P : D → W → Prop), T (a9 (.str (Txt.mul ("fall 0 ; " : Str) 400)) (.str ("fall 0" : Str)) w) P = P (.str (Txt.mul ("fall 0 ; " : Str) 400 ++ ("fall 0" : Str))) w := fun w P => qY (bq (Nat.add_le_add b9 c5) (by omega))
  have a6 : ∀ (w : W) (P : D → W → Prop), T (a9 (.str (Txt.mul ("-\n" : Str) 900)) (.str ("x" : Str)) w) P = P (.str (Txt.mul ("-\n" : Str) 900 ++ ("x" : Str))) w := fun w P => qY (bq (Nat.add_le_add b3 c6) (by omega))
  clear b1 b2 b0 b9 b3 c1 c2 c3 c4 c5 c6 n1 n2 n0 n9 n3
  simp only [m1, m2, m0, m9, m3, a1, a2, a3, a4, a5, a6, zY, af, ae, reduceCtorEq]
  refine ⟨lI _ (by simp), ?_⟩
  rw [a7]
  simp only [m1, m2, m0, m9, m3, a1, a2, a3, a4, a5, a6, zY, af, ae, reduceCtorEq]
  refine ⟨lI _ (by simp), ?_⟩
  rw [a7]
  simp only [m1, m2, m0, m9, m3, a1, a2, a3, a4, a5, a6, aKq, YF, zY, af, ae, reduceCtorEq]
  refine ⟨lI _ (by simp), ?_⟩
  exact aFF k GV hP
 subst es
 obtain ⟨yd, hy, rfl⟩ := Sx.pairs_at hx
 rw [da] at hy
 obtain ⟨g, hg, rfl⟩ := aq.mp hy
 have hj3 : j < 3 := (ar.mp hg).1
 have Tg : EE 2904 13 g := by
  have := cq hg
  simp only [ay, br, df] at this
  rcases this with rfl | rfl | rfl
  ·exact ha
  ·exact hb
  ·exact hc
 obtain ⟨o, hat, To⟩ : ∃ o, atI ([a, b, c].map D.str) ((j : Int) - 1) = some (.str o) ∧ EE 2904 13 o := by
  have : j = 0 ∨ j = 1 ∨ j = 2 := by omega
  rcases this with rfl | rfl | rfl
  ·exact ⟨c, rfl, hc⟩
  ·exact ⟨a, rfl, ha⟩
  ·exact ⟨b, rfl, hb⟩
 simp only [nL, zY, af, ae, reduceCtorEq]
 have lr : (fW 0 (20 : Int).toNat).xs.length = 20 := by rw [j5]; rfl
 simp only [wX (n := 20) (by omega) (by omega), zY, af, ae, reduceCtorEq]
 refine KU (it := fW 0 (20 : Int).toNat) (fun i σ w' => eD w' 1 0 (1000 * (3 - (j + 1)) + 30 * (20 - i)) ∧ ∃ s5 s6 s7, σ = [some (.qK (ns.map D.int)), some (.ref 1), some (.lst ([a, b, c].map D.str)), some (.int (j : Nat)), some (.str g), s5, s6, s7, none]) (fun _ _ _ _ => trivial) ⟨d2.less (by omega), _, _, _, rfl⟩ (fun i x σ w3 hx ⟨d3, s5, s6, s7, es⟩ => ?_) fun σ w3 ⟨d3, s5, s6, s7, es⟩ => ?_
 case refine_2 =>
  subst es
  rw [lr] at d3
  exact ⟨d3.less (by omega), _, _, _, _, _, rfl⟩
 subst es
 have hi : i < 20 := by
  have := (ar.mp hx).1
  rw [lr] at this
  exact this
 rw [aI9]
 try simp only [List.set_cons_zero, List.set_cons_succ]
 refine aBS k GV (b := 1000 * (3 - (j + 1)) + 30 * (20 - (i + 1))) Tg To hat (d3.less (by omega)) fun w4 s5 s6 s7 d4 => ?_
 exact ⟨d4, _, _, _, rfl⟩
end
theorem aEh (k : K65.bE) (GV : K65.Dis k) (ns : List Int) (h : ns.length ≤ 63) : ∃ w', K65.W6 k [.qK (ns.map Pc.D.int)] [] = .ok (.bl true) w' := by
 obtain ⟨a, w, e, p⟩ := (good k GV (P := fun d _ => d = .bl true) ns h fun _ => rfl).ex
 exact ⟨w, by rw [e, p]⟩
end K65
namespace K65H
open PySem PySem.Spec PyProof.Rows L2 Pc K65
open PySem PySem.W PySem.Calls PyProof.Rows HandSHeadRun in
open PySem PySem.W PySem.Calls PyProof.Rows in
open PySem PySem.W PySem.Calls PyProof.Rows in
open PySem PySem.W PySem.Calls PyProof.Rows in
open PySem PySem.W PySem.Calls PyProof.Rows in
abbrev St (w : World) (K : PySem.W.Frag) (mg : Str → Option Value) (base : Heap) : aR := ⟨PySem.Challenge.pw_onemaster_k65_texts_of_no_story, w, K, mg, base, 0, [], defScope (top 54), fun _ => true⟩
theorem facts {w : World} {K : PySem.W.Frag} {h : Heap} {mg : Str → Option Value} (X : K.In h) (G : h.Ns mainGlobals mg) (c : He.SaysX fa fn ts [] ex w h K) :
  ∃ (d : FuncData) (kk : bE), (FunD K ("law" : Str) ("law" : Str) (defArgs (top 54)) (defBody (top 54)) (defScope (top 54)) [] [] (He.ga K "law") d) ∧ ∀ base, ∃ x : Fx (St w K mg base), x.k = kk ∧ x.PM = He.ga K "law" ∧ x.aAZ = d := by
 obtain ⟨d0, F0⟩ := c.t.d.def_ 0 (d := yB) rfl
 obtain ⟨d1, F1⟩ := c.t.d.def_ 1 (d := xH) rfl
 obtain ⟨d2, F2⟩ := c.t.d.def_ 2 (d := x5) rfl
 obtain ⟨d3, F3⟩ := c.t.d.def_ 3 (d := vZ) rfl
 obtain ⟨d4, F4⟩ := c.t.d.def_ 4 (d := pD) rfl
 obtain ⟨d5, F5⟩ := c.t.d.def_ 5 (d := nB) rfl
 obtain ⟨d6, F6⟩ := c.t.d.def_ 6 (d := iK) rfl
 obtain ⟨d7, F7⟩ := c.t.d.def_ 7 (d := nG) rfl
 obtain ⟨d8, F8⟩ := c.t.d.def_ 8 (d := tQ) rfl
 obtain ⟨d9, F9⟩ := c.t.d.def_ 9 (d := AL) rfl
 obtain ⟨d10, F10⟩ := c.t.d.def_ 10 (d := xG) rfl
 obtain ⟨d11, F11⟩ := c.t.d.def_ 11 (d := rX) rfl
 obtain ⟨d12, F12⟩ := c.t.d.def_ 12 (d := DB) rfl
 obtain ⟨d13, F13⟩ := c.t.d.def_ 13 (d := xA) rfl
 obtain ⟨d14, F14⟩ := c.t.d.def_ 14 (d := DO) rfl
 obtain ⟨d15, F15⟩ := c.t.d.def_ 15 (d := EL) rfl
 obtain ⟨d16, F16⟩ := c.t.d.def_ 16 (d := o6) rfl
 obtain ⟨d17, F17⟩ := c.t.d.def_ 17 (d := uZ) rfl
 obtain ⟨d18, F18⟩ := c.t.d.def_ 18 (d := uW) rfl
 obtain ⟨d19, F19⟩ := c.t.d.def_ 19 (d := pG) rfl
 obtain ⟨d20, F20⟩ := c.t.d.def_ 20 (d := sE) rfl
 obtain ⟨d21, F21⟩ := c.t.d.def_ 21 (d := rV) rfl
 obtain ⟨d22, F22⟩ := c.t.d.def_ 22 (d := pC) rfl
 obtain ⟨d23, F23⟩ := c.t.d.def_ 23 (d := nW) rfl
 obtain ⟨d24, F24⟩ := c.t.d.def_ 24 (d := uP) rfl
 obtain ⟨d25, F25⟩ := c.t.d.def_ 25 (d := sG) rfl
 obtain ⟨d26, F26⟩ := c.t.d.def_ 26 (d := AB) rfl
 obtain ⟨d27, F27⟩ := c.t.d.def_ 27 (d := AJ) rfl
 obtain ⟨d28, F28⟩ := c.t.d.def_ 28 (d := xO) rfl
 obtain ⟨d29, F29⟩ := c.t.d.def_ 29 (d := uK) rfl
 obtain ⟨d30, F30⟩ := c.t.d.def_ 30 (d := nN) rfl
 obtain ⟨d31, F31⟩ := c.t.d.def_ 31 (d := lM) rfl
 obtain ⟨d32, F32⟩ := c.t.d.def_ 32 (d := k8) rfl
 obtain ⟨d33, F33⟩ := c.t.d.def_ 33 (d := aE9) rfl
 obtain ⟨d34, F34⟩ := c.t.d.def_ 34 (d := mS) rfl
 refine ⟨d33, { eR := He.ga K "NetError", jL := He.ga K "NoDeed", jH := He.ga K "NoFate", jC := He.ga K "NoPlan", mC := He.ga K "NoRow", bD := He.ga K "NoText", gN := He.ga K "TooMany", eZ := He.ga K "FORMS" }, F33, fun base => ⟨{
  k := { eR := He.ga K "NetError", jL := He.ga K "NoDeed", jH := He.ga K "NoFate", jC := He.ga K "NoPlan", mC := He.ga K "NoRow", bD := He.ga K "NoText", gN := He.ga K "TooMany", eZ := He.ga K "FORMS" },
  CD := He.free_ok X G (c.t.d.fact 0 (f := .free "IndexError") rfl),
  BK := He.free_ok X G (c.t.d.fact 1 (f := .free "ValueError") rfl),
  I7 := He.free_ok X G (c.t.d.fact 2 (f := .free "all") rfl),
  aEM := He.free_ok X G (c.t.d.fact 3 (f := .free "bool") rfl),
  qT := He.free_ok X G (c.t.d.fact 4 (f := .free "enumerate") rfl),
  OY := He.free_ok X G (c.t.d.fact 5 (f := .free "int") rfl),
  bL := He.free_ok X G (c.t.d.fact 6 (f := .free "isinstance") rfl),
  oD := He.free_ok X G (c.t.d.fact 7 (f := .free "len") rfl),
  aCu := He.free_ok X G (c.t.d.fact 8 (f := .free "list") rfl),
  oN := He.free_ok X G (c.t.d.fact 9 (f := .free "range") rfl),
  LL := He.free_ok X G (c.t.d.fact 10 (f := .free "repr") rfl),
  aCC := He.free_ok X G (c.t.d.fact 11 (f := .free "set") rfl),
  I0 := He.free_ok X G (c.t.d.fact 12 (f := .free "sorted") rfl),
  FX := He.free_ok X G (c.t.d.fact 13 (f := .free "str") rfl),
  aHp := He.free_ok X G (c.t.d.fact 14 (f := .free "sum") rfl),
  cW := He.free_ok X G (c.t.d.fact 15 (f := .free "tuple") rfl),
  aHM := He.free_ok X G (c.t.d.fact 16 (f := .free "zip") rfl),
  tE := oK X G (gS c.more 0 rfl),
  vE := oK X G (gS c.more 1 rfl),
  vL := oK X G (gS c.more 2 rfl),
  NT := oK X G (gS c.more 3 rfl),
  OZ := oK X G (gS c.more 4 rfl),
  zG := oK X G (gS c.more 5 rfl),
  ZU := oK X G (gS c.more 6 rfl),
  E8 := oK X G (gS c.more 7 rfl),
  ZX := oK X G (gS c.more 8 rfl),
  Q2 := ⟨.ref _, .ref _, He.glo_ok X G (c.t.d.fact 51 (f := .glo "FORMS") rfl), rfl, fun _ _ => by simp [aG]⟩,
  RM := aEy (c.t.tab 0 rfl) (gS c.more 9 rfl),
  wU := He.glo_ok X G (c.t.d.fact 52 (f := .glo "NetError") rfl),
  Z8 := ⟨.ref _, .ref _, He.glo_ok X G (c.t.d.fact 52 (f := .glo "NetError") rfl), rfl, fun _ _ => by simp [aG]⟩,
  PR := He.glo_ok X G (c.t.d.fact 53 (f := .glo "NoDeed") rfl),
  aC4 := ⟨.ref _, .ref _, He.glo_ok X G (c.t.d.fact 53 (f := .glo "NoDeed") rfl), rfl, fun _ _ => by simp [aG]⟩,
  N4 := He.glo_ok X G (c.t.d.fact 54 (f := .glo "NoFate") rfl),
  aEY := ⟨.ref _, .ref _, He.glo_ok X G (c.t.d.fact 54 (f := .glo "NoFate") rfl), rfl, fun _ _ => by simp [aG]⟩,
  OS := He.glo_ok X G (c.t.d.fact 55 (f := .glo "NoPlan") rfl),
  aCQ := ⟨.ref _, .ref _, He.glo_ok X G (c.t.d.fact 55 (f := .glo "NoPlan") rfl), rfl, fun _ _ => by simp [aG]⟩,
  WS := He.glo_ok X G (c.t.d.fact 56 (f := .glo "NoRow") rfl),
  aGc := ⟨.ref _, .ref _, He.glo_ok X G (c.t.d.fact 56 (f := .glo "NoRow") rfl), rfl, fun _ _ => by simp [aG]⟩,
  tU := He.glo_ok X G (c.t.d.fact 57 (f := .glo "NoText") rfl),
  aC2 := ⟨.ref _, .ref _, He.glo_ok X G (c.t.d.fact 57 (f := .glo "NoText") rfl), rfl, fun _ _ => by simp [aG]⟩,
  KH := He.glo_ok X G (c.t.d.fact 58 (f := .glo "TooMany") rfl),
  aBI := ⟨.ref _, .ref _, He.glo_ok X G (c.t.d.fact 58 (f := .glo "TooMany") rfl), rfl, fun _ _ => by simp [aG]⟩,
  m7 := He.fAd K yB.at_,
  rA := d0,
  wQ := F0,
  b6 := He.glo_ok X G (c.t.d.fact 17 (f := .glo "_law_draw") rfl),
  bT := F0.kp,
  mV := He.fAd K xH.at_,
  rD := d1,
  vW := F1,
  w7 := He.glo_ok X G (c.t.d.fact 18 (f := .glo "_law_pick") rfl),
  uA := F1.kp,
  nF := He.fAd K x5.at_,
  qW := d2,
  w8 := F2,
  yC := He.glo_ok X G (c.t.d.fact 19 (f := .glo "_law_bent") rfl),
  uT := F2.kp,
  nJ := He.fAd K vZ.at_,
  qV := d3,
  yA := F3,
  FU := He.glo_ok X G (c.t.d.fact 20 (f := .glo "_law_deck") rfl),
  BM := F3.kp,
  iA := He.fAd K pD.at_,
  lE := d4,
  o9 := F4,
  wL := He.glo_ok X G (c.t.d.fact 21 (f := .glo "_law_classes") rfl),
  vH := F4.kp,
  nE := He.fAd K nB.at_,
  q8 := d5,
  vX := F5,
  GJ := He.glo_ok X G (c.t.d.fact 22 (f := .glo "number_in") rfl),
  CM := F5.kp,
  kL := He.fAd K iK.at_,
  oO := d6,
  u6 := F6,
  lB := He.glo_ok X G (c.t.d.fact 23 (f := .glo "numbers_in") rfl),
  jN := F6.kp,
  nA := He.fAd K nG.at_,
  qZ := d7,
  v8 := F7,
  FN := He.glo_ok X G (c.t.d.fact 24 (f := .glo "listed_in") rfl),
  BN := F7.kp,
  sS := He.fAd K tQ.at_,
  y4 := d8,
  EU := F8,
  OE := He.glo_ok X G (c.t.d.fact 25 (f := .glo "deed_in") rfl),
  IC := F8.kp,
  pR := He.fAd K AL.at_,
  t5 := d9,
  AY := F9,
  J4 := He.glo_ok X G (c.t.d.fact 26 (f := .glo "is_whole") rfl),
  FR := F9.kp,
  mX := He.fAd K xG.at_,
  qQ := d10,
  xW := F10,
  GF := He.glo_ok X G (c.t.d.fact 27 (f := .glo "is_within") rfl),
  CV := F10.kp,
  jK := He.fAd K rX.at_,
  lX := d11,
  rS := F11,
  mI := He.glo_ok X G (c.t.d.fact 28 (f := .glo "are_numbers") rfl),
  kQ := F11.kp,
  sY := He.fAd K DB.at_,
  y5 := d12,
  C7 := F12,
  PZ := He.glo_ok X G (c.t.d.fact 29 (f := .glo "is_fate") rfl),
  L4 := F12.kp,
  mZ := He.fAd K xA.at_,
  rG := d13,
  wK := F13,
  wW := He.glo_ok X G (c.t.d.fact 30 (f := .glo "is_rising") rfl),
  uN := F13.kp,
  tW := He.fAd K DO.at_,
  yM := d14,
  D4 := F14,
  NU := He.glo_ok X G (c.t.d.fact 31 (f := .glo "is_form") rfl),
  J6 := F14.kp,
  sR := He.fAd K EL.at_,
  yY := d15,
  C9 := F15,
  O9 := He.glo_ok X G (c.t.d.fact 32 (f := .glo "is_turn") rfl),
  JY := F15.kp,
  tD := He.fAd K o6.at_,
  yS := d16,
  DD := F16,
  N5 := He.glo_ok X G (c.t.d.fact 33 (f := .glo "turn_in") rfl),
  IF := F16.kp,
  kP := He.fAd K uZ.at_,
  oT := d17,
  uD := F17,
  BS := He.glo_ok X G (c.t.d.fact 34 (f := .glo "read_story") rfl),
  zR := F17.kp,
  kF := He.fAd K uW.at_,
  oR := d18,
  t8 := F18,
  BH := He.glo_ok X G (c.t.d.fact 35 (f := .glo "_law_heard") rfl),
  zF := F18.kp,
  iD := He.fAd K pG.at_,
  kT := d19,
  pL := F19,
  kH := He.glo_ok X G (c.t.d.fact 36 (f := .glo "_law_figures") rfl),
  jU := F19.kp,
  jJ := He.fAd K sE.at_,
  lZ := d20,
  rL := F20,
  zQ := He.glo_ok X G (c.t.d.fact 37 (f := .glo "_law_lot_in") rfl),
  xV := F20.kp,
  jG := He.fAd K rV.at_,
  mQ := d21,
  rO := F21,
  zS := He.glo_ok X G (c.t.d.fact 38 (f := .glo "_law_act_in") rfl),
  yE := F21.kp,
  iG := He.fAd K pC.at_,
  kJ := d22,
  qH := F22,
  wN := He.glo_ok X G (c.t.d.fact 39 (f := .glo "_law_turn_in") rfl),
  vA := F22.kp,
  gI := He.fAd K nW.at_,
  jT := d23,
  nZ := F23,
  vO := He.glo_ok X G (c.t.d.fact 40 (f := .glo "_law_story_in") rfl),
  tN := F23.kp,
  kR := He.fAd K uP.at_,
  oJ := d24,
  uC := F24,
  oM := He.glo_ok X G (c.t.d.fact 41 (f := .glo "_law_right") rfl),
  mN := F24.kp,
  jE := He.fAd K sG.at_,
  lY := d25,
  rN := F25,
  mB := He.glo_ok X G (c.t.d.fact 42 (f := .glo "_law_number") rfl),
  kM := F25.kp,
  qE := He.fAd K AB.at_,
  uG := d26,
  zX := F26,
  AO := He.glo_ok X G (c.t.d.fact 43 (f := .glo "_law_lot") rfl),
  v5 := F26.kp,
  pP := He.fAd K AJ.at_,
  uE := d27,
  AW := F27,
  LZ := He.glo_ok X G (c.t.d.fact 44 (f := .glo "_law_act") rfl),
  FW := F27.kp,
  mU := He.fAd K xO.at_,
  qS := d28,
  xC := F28,
  GB := He.glo_ok X G (c.t.d.fact 45 (f := .glo "_law_turn") rfl),
  CT := F28.kp,
  kI := He.fAd K uK.at_,
  oH := d29,
  u3 := F29,
  BX := He.glo_ok X G (c.t.d.fact 46 (f := .glo "_law_story") rfl),
  zN := F29.kp,
  gH := He.fAd K nN.at_,
  jQ := d30,
  nS := F30,
  vD := He.glo_ok X G (c.t.d.fact 47 (f := .glo "_law_act_text") rfl),
  tH := F30.kp,
  fY := He.fAd K lM.at_,
  iW := d31,
  lL := F31,
  tT := He.glo_ok X G (c.t.d.fact 48 (f := .glo "_law_turn_text") rfl),
  q0 := F31.kp,
  fH := He.fAd K k8.at_,
  gW := d32,
  kX := F32,
  rH := He.glo_ok X G (c.t.d.fact 49 (f := .glo "_law_story_text") rfl),
  pF := F32.kp,
  PM := He.fAd K aE9.at_,
  aAZ := d33,
  aHN := F33,
  aHz := He.glo_ok X G (c.t.d.fact 50 (f := .glo "law") rfl),
  aJf := F33.kp,
  mP := He.fAd K mS.at_,
  mO := d34,
  sP := F34,
  wJ := aGm (gS c.more 10 rfl),
  vP := aGj (gS c.more 11 rfl),
  OJ := PySem.W.aI7 (gS c.more 12 rfl),
  oC := of_decide_eq_true (gS c.more 13 rfl),
  qO := of_decide_eq_true (gS c.more 14 rfl),
  u9 := of_decide_eq_true (gS c.more 15 rfl),
  u7 := of_decide_eq_true (gS c.more 16 rfl),
  vI := of_decide_eq_true (gS c.more 17 rfl),
  xI := of_decide_eq_true (gS c.more 18 rfl),
  vF := of_decide_eq_true (gS c.more 19 rfl),
  sT := of_decide_eq_true (gS c.more 20 rfl),
  oE := of_decide_eq_true (gS c.more 21 rfl),
  GV := of_decide_eq_true (gS c.more 22 rfl),
  aEE := aGb (gS c.more 23 rfl) }, rfl, rfl, rfl⟩⟩
end K65H
set_option maxHeartbeats 0
open PySem PySem.W PySem.Calls PyProof.Rows
theorem PySem.Challenge.cw_onemaster_k65_texts_of_no_story_holds : PySem.Challenge.rw_onemaster_k65_texts_of_no_story.Holds := by
 refine K65H.early.2 ?_
 ·refine Pc.aEd (l := PySem.Challenge.rw_onemaster_k65_texts_of_no_story) (n := 63) (k := 11) (x := "_law_script") rfl (by decide) (by kernel_rfl) ⟨rfl, by decide, by decide⟩ ?F
  intro w mg fa h Y G hmg0
  obtain ⟨K, KX, c⟩ := Y
  have hmg : mg ("law" : PySem.Str) = some (.ref fa) := by
   have e : (HandSHeadRun.topDef (OpenLaw.row PySem.Challenge.rw_onemaster_k65_texts_of_no_story).prog 54).name = ("law" : PySem.Str) := by kernel_rfl
   rw [← e]
   exact hmg0
  obtain ⟨d, kk, F, fx⟩ := K65H.facts KX G c
  have hx : fa = He.ga K "law" := by
   obtain ⟨x0, _, e1, _⟩ := fx {}
   have z := x0.aHz
   rw [e1] at z
   have z2 := hmg.symm.trans z
   cases z2
   rfl
  have bd := L2.FunD.bindsA (ps := ["_law_script"]) F fun _ _ _ _ _ _ us hl => match us, hl with | [_], _ => rfl
  refine ⟨K, d, K65.W6 kk, KX, fun s v => bd s [v] rfl, fun ns hl => K65.aEh kk (by obtain ⟨x0, e0, _, _⟩ := fx {}; rw [← e0]; exact x0.GV) ns hl, fun base _ _ => ?_⟩
  obtain ⟨x, e0, e1, e2⟩ := fx base
  have z := K65.aJ3 x
  rw [e0, e1, e2] at z
  rw [hx]
  exact z
end
