import PyProof.Rows.All
import Wide.All
import OpenK.AllK
import Wide.FinOn
import HandS.ForMost
import HandS.ForExc
import HandS.TupAny
import HandS.Style
import HandS.Flow
import HandS.Deep
import PyProof.NeKinds
import HandS.Defaults
import HandS.WordsDict
import HandS.IsInst
import HandS.Conv
import KE.SortKeyHeap
import HandS.MakeKwOnly
import HandS.More
import HandS.ListItems
import HandS.Zip
import KE.GoesEnumKw
import HandS.Head0
import HandS.Head1
import HandS.Head2
import HandS.HeadEnd
import HandS.HeadHook1
import HandS.HeadHook2
import HandS.HeadHook3
import HandS.HeadHook4
import HandS.NamedTupGet
import PyProof.FactsLen
import HandS.TupMul
import KE.GoesEnum
import HandS.Zip0
import HandS.SetFor
import HandS.Strs
import KE.DataAny
import KE.KDictPairs
import HandS.DictComp
import HandS.NoneIn
import KE.KEqDict
import HandS.TupLe
import KE.KAssignIn
import HandS.Finally
import HandS.SlotsOwn
import PyProof.InstNe
import HandS.Dict
import HandS.Iter
import KE.KDictCopyH
import KE.DataMinMax
import KE.SortData
import PyProof.Rows.RowBridgeK
import HandS.Exc
import HandS.ExcInit
import HandS.ExcField
import HandS.ClsMeth
import HandS.Text
import HandS.TryMany
import HandS.ExcIs
import HandS.RaiseMore
import HandS.DictTup
import PyProof.ExcBaseAll.IndexError
import HandS.ExcBuiltin
import KE.KExcInit
import KE.SortUse
import HandS.SortKw
import HandS.TupLen
import PyProof.Rows.IntBool
import HandS.FStr
import KE.KCallOwn
import PyProof.Walks
import HandS.Ends
import PySem.Challenge.RW_onemaster_k64_stories_written_and_read
import KE.KStateDown
import PyProof.Rows.ReprOcc
noncomputable section
set_option linter.all false
def ab := @if_false
def ae := @if_true
def af := @Option.some.injEq
def ag := @Bool.and_eq_true
def ah := @Nat.le_of_ble_eq_true
def ai := @decide_eq_true_eq
def aj := @Option.map_eq_some_iff
def ak := @List.getElem?_eq_some_iff
def ao := @List.all_eq_true
def aq := @List.mem_cons_self
def au := @List.mem_cons
def av := @List.mem_cons_of_mem
def aw := @List.getElem?_append_left
def ay := @List.length_map
def az := @Nat.le_refl
def bc := @List.getElem?_set_ne
def bf := @List.getElem?_eq_getElem
def bg := @List.not_mem_nil
def bh := @List.mem_singleton
def bj := @exists_eq_left'
def bo := @List.append_assoc
def bp := @List.getElem?_append_right
def bq := @List.mem_append
def br := @Nat.le_trans
def bt := @List.mem_map
def bu := @List.getElem?_set_self
def bw := @decide_eq_false
def bx := @List.length_append
def bz := @Bool.false_eq_true
def cc := @List.mem_of_getElem?
def cg := @List.getElem?_map
def cj := @Option.bind_eq_some_iff
def ck := @decide_true
set_option Elab.async false
set_option linter.all false
set_option maxRecDepth 100000
set_option maxHeartbeats 4000000
set_option autoImplicit false
namespace Pc
open PySem PySem.Spec PyProof.Rows L2
inductive D where
 | non | bl (b : Bool) | int (i : Int) | str (x : Str) | ty (n : String) | con (a : Addr)
 | tup (xs : List D) | lst (xs : List D) | mH (xs : List D) | pW (xs : List D) | BV (ks vs : List D) | ref (i : Nat)
inductive MO where
 | lst (xs : List D) | dK (kvs : List (Key × D)) | dT (kvs : List (List Key × D)) | dF (kvs : List (Key × D)) | dG (kvs : List (List Key × D)) | ins (C : Addr) (fs : List (Str × D))
def MO.fz : MO → Bool
 | .dF _ => true
 | .dG _ => true
 | _ => false
abbrev W := List MO
structure XD where
 cls : Value
 fs : Option (List (Str × D))
inductive Res (α : Type) where
 | ok (a : α) (w : W)
 | E5 (x : XD) (w : W)
 | bad
def Res.bind {α β : Type} (r : Res α) (f : α → W → Res β) : Res β := match r with
 | .ok a w => f a w
 | .E5 x w => .E5 x w
 | .bad => .bad
@[simp] theorem Res.aDj {α β : Type} (a : α) (w : W) (f : α → W → Res β) : (Res.ok a w).bind f = f a w := rfl
@[simp] theorem Res.aCu {α β : Type} (x : XD) (w : W) (f : α → W → Res β) : (Res.E5 x w : Res α).bind f = .E5 x w := rfl
@[simp] theorem Res.aCe {α β : Type} (f : α → W → Res β) : (Res.bad : Res α).bind f = .bad := rfl
theorem Res.bind_assoc {α β γ : Type} (r : Res α) (f : α → W → Res β) (g : β → W → Res γ) : (r.bind f).bind g = r.bind fun a w => (f a w).bind g := by
 cases r <;> rfl
mutual
def aG (K : PySem.W.Frag) (I : List Addr) (F : Hp) : D → V → Prop
 | .non, v => v = .non
 | .bl b, v => v = .bl b
 | .int i, v => v = .int i
 | .str x, v => v = .str x
 | .ty n, v => v = .ty n
 | .con a, v => v = .ref a
 | .tup xs, v => ∃ a vs, v = .ref a ∧ F a = some (.tup vs) ∧ RepL K I F xs vs
 | .lst xs, v => ∃ a vs, v = .ref a ∧ F a = some (.lst vs) ∧ RepL K I F xs vs
 | .mH xs, v => ∃ a vs, v = .ref a ∧ SqL K F a vs ∧ RepL K I F xs vs
 | .pW xs, v => ∃ a vs, v = .ref a ∧ SqT K F a vs ∧ RepL K I F xs vs
 | .BV ks xs, v => ∃ a kvs, v = .ref a ∧ Rd F a (.dK kvs) ∧ RepL K I F ks (kvs.map fun p => kV p.1) ∧ RepL K I F xs (kvs.map fun p => p.2)
 | .ref i, v => ∃ a, v = .ref a ∧ I[i]? = some a
def RepL (K : PySem.W.Frag) (I : List Addr) (F : Hp) : List D → List V → Prop
 | [], vs => vs = []
 | d :: ds, vs => ∃ v r, vs = v :: r ∧ aG K I F d v ∧ RepL K I F ds r
end
def aP {κ : Type} (K : PySem.W.Frag) (I : List Addr) (F : Hp) : List (κ × D) → List (κ × V) → Prop
 | [], vs => vs = []
 | (k, d) :: ds, vs => ∃ v r, vs = (k, v) :: r ∧ aG K I F d v ∧ aP K I F ds r
def mJ (K : PySem.W.Frag) (I : List Addr) (F : Hp) : MO → HO → Prop
 | .lst xs, u => ∃ vs, u = .lst vs ∧ RepL K I F xs vs
 | .dK kvs, u => ∃ r, u = .dK r ∧ aP K I F kvs r
 | .dT kvs, u => ∃ r, u = .dT r ∧ aP K I F kvs r
 | .dF kvs, u => ∃ o r, u = .frz o (.dK r) ∧ aP K I F kvs r
 | .dG kvs, u => ∃ o r, u = .frz o (.dT r) ∧ aP K I F kvs r
 | .ins C fs, u => ∃ dx r, u = .ins C dx r ∧ aP K I F fs r
structure Rel (K : PySem.W.Frag) (I : List Addr) (F : Hp) (G : Hp) (w : W) (H : Hp) : Prop where
 len : I.length = w.length
 nd : I.Nodup
 ob : ∀ (i : Nat) (a : Addr) (o : MO), I[i]? = some a → w[i]? = some o → ∃ u, H a = some u ∧ mJ K I F o u
 fz : ∀ a u, F a = some u → H a = some u
 ap : ∀ (i : Nat) (a : Addr) (o : MO), I[i]? = some a → w[i]? = some o → o.fz = false → F a = none
 gz : ∀ a u, G a = some u → H a = some u
 gf : ∀ a u, G a = some u → F a = none ∧ a ∉ I
 gt : ∀ a xs, ¬ G a = some (.tup xs)
structure Ext (I : List Addr) (F : Hp) (I' : List Addr) (F' : Hp) : Prop where
 i : I <+: I'
 f : ∀ a u, F a = some u → F' a = some u
theorem Ext.refl {I : List Addr} {F : Hp} : Ext I F I F := ⟨List.prefix_refl _, fun _ _ h => h⟩
theorem Ext.trans {I I1 I2 : List Addr} {F F1 F2 : Hp} (a : Ext I F I1 F1) (b : Ext I1 F1 I2 F2) : Ext I F I2 F2 := ⟨a.i.trans b.i, fun x u h => b.f x u (a.f x u h)⟩
theorem Ext.get {I I1 : List Addr} {F F1 : Hp} (e : Ext I F I1 F1) {i : Nat} {a : Addr} (h : I[i]? = some a) : I1[i]? = some a := by
 obtain ⟨t, rfl⟩ := e.i
 have hi : i < I.length := (ak.mp h).1
 rw [aw hi]; exact h
section
variable {K : PySem.W.Frag} {I I1 I2 : List Addr} {F F1 F2 : Hp}
theorem PH (e : Ext I F I1 F1) {a : Addr} {u : HO} (h : Rd F a u) : Rd F1 a u := by
 rcases h with h | ⟨o, h⟩
 ·exact .inl (e.f _ _ h)
 ·exact .inr ⟨o, e.f _ _ h⟩
theorem zI (e : Ext I F I1 F1) {a : Addr} {vs : List V} (h : SqT K F a vs) : SqT K F1 a vs := by
 rcases h with h | h
 ·exact .inl (PH e h)
 ·exact .inr h
theorem PX (e : Ext I F I1 F1) {a : Addr} {vs : List V} (h : SqL K F a vs) : SqL K F1 a vs := by
 rcases h with h | h
 ·exact .inl (PH e h)
 ·exact .inr h
mutual
theorem aG.ext (e : Ext I F I1 F1) : ∀ (d : D) (v : V), aG K I F d v → aG K I1 F1 d v
 | .non, _, h => h
 | .bl _, _, h => h
 | .int _, _, h => h
 | .str _, _, h => h
 | .ty _, _, h => h
 | .con _, _, h => h
 | .tup xs, v, h => by
  simp only [aG] at h ⊢
  obtain ⟨a, vs, h1, h2, h3⟩ := h
  exact ⟨a, vs, h1, e.f _ _ h2, RepL.ext e xs vs h3⟩
 | .pW xs, v, h => by
  simp only [aG] at h ⊢
  obtain ⟨a, vs, h1, h2, h3⟩ := h
  exact ⟨a, vs, h1, zI e h2, RepL.ext e xs vs h3⟩
 | .lst xs, v, h => by
  simp only [aG] at h ⊢
  obtain ⟨a, vs, h1, h2, h3⟩ := h
  exact ⟨a, vs, h1, e.f _ _ h2, RepL.ext e xs vs h3⟩
 | .mH xs, v, h => by
  simp only [aG] at h ⊢
  obtain ⟨a, vs, h1, h2, h3⟩ := h
  exact ⟨a, vs, h1, PX e h2, RepL.ext e xs vs h3⟩
 | .BV ks xs, v, h => by
  simp only [aG] at h ⊢
  obtain ⟨a, kvs, h1, h2, h3, h4⟩ := h
  exact ⟨a, kvs, h1, PH e h2, RepL.ext e ks _ h3, RepL.ext e xs _ h4⟩
 | .ref i, v, h => by
  simp only [aG] at h ⊢
  obtain ⟨a, h1, h2⟩ := h
  exact ⟨a, h1, e.get h2⟩
theorem RepL.ext (e : Ext I F I1 F1) : ∀ (ds : List D) (vs : List V), RepL K I F ds vs → RepL K I1 F1 ds vs
 | [], _, h => h
 | d :: ds, vs, h => by
  simp only [RepL] at h ⊢
  obtain ⟨v, r, h1, h2, h3⟩ := h
  exact ⟨v, r, h1, aG.ext e d v h2, RepL.ext e ds r h3⟩
end
theorem aP.ext {κ : Type} (e : Ext I F I1 F1) : ∀ (ds : List (κ × D)) (vs : List (κ × V)), aP K I F ds vs → aP K I1 F1 ds vs
 | [], _, h => h
 | (k, d) :: ds, vs, h => by
  simp only [aP] at h ⊢
  obtain ⟨v, r, h1, h2, h3⟩ := h
  exact ⟨v, r, h1, aG.ext e d v h2, aP.ext e ds r h3⟩
theorem mJ.ext (e : Ext I F I1 F1) {o : MO} {u : HO} (h : mJ K I F o u) : mJ K I1 F1 o u := by
 cases o with
 | lst xs => obtain ⟨vs, h1, h2⟩ := h; exact ⟨vs, h1, RepL.ext e _ _ h2⟩
 | dK xs => obtain ⟨vs, h1, h2⟩ := h; exact ⟨vs, h1, aP.ext e _ _ h2⟩
 | dT xs => obtain ⟨vs, h1, h2⟩ := h; exact ⟨vs, h1, aP.ext e _ _ h2⟩
 | dF xs => obtain ⟨o, vs, h1, h2⟩ := h; exact ⟨o, vs, h1, aP.ext e _ _ h2⟩
 | dG xs => obtain ⟨o, vs, h1, h2⟩ := h; exact ⟨o, vs, h1, aP.ext e _ _ h2⟩
 | ins C xs => obtain ⟨dx, vs, h1, h2⟩ := h; exact ⟨dx, vs, h1, aP.ext e _ _ h2⟩
theorem RepL.length : ∀ {ds : List D} {vs : List V}, RepL K I F ds vs → ds.length = vs.length
 | [], vs, h => by simp only [RepL] at h; subst h; rfl
 | d :: ds, vs, h => by
  simp only [RepL] at h
  obtain ⟨v, r, rfl, _, h3⟩ := h
  simp [RepL.length h3]
theorem RepL.cons {d : D} {ds : List D} {v : V} {vs : List V} (h : aG K I F d v) (t : RepL K I F ds vs) : RepL K I F (d :: ds) (v :: vs) := by
 simp only [RepL]; exact ⟨v, vs, rfl, h, t⟩
theorem RepL.append : ∀ {ds es : List D} {vs us : List V}, RepL K I F ds vs → RepL K I F es us → RepL K I F (ds ++ es) (vs ++ us)
 | [], _, _, _, h, t => by simp only [RepL] at h; subst h; exact t
 | d :: ds, es, vs, us, h, t => by
  simp only [RepL] at h
  obtain ⟨v, r, rfl, h2, h3⟩ := h
  exact RepL.cons h2 (RepL.append h3 t)
theorem RepL.get : ∀ {ds : List D} {vs : List V} {i : Nat} {d : D}, RepL K I F ds vs → ds[i]? = some d → ∃ v, vs[i]? = some v ∧ aG K I F d v
 | [], _, _, _, _, e => by simp at e
 | d :: ds, vs, 0, x, h, e => by
  simp only [RepL] at h
  obtain ⟨v, r, rfl, h2, _⟩ := h
  simp at e; subst e
  exact ⟨v, rfl, h2⟩
 | d :: ds, vs, i + 1, x, h, e => by
  simp only [RepL] at h
  obtain ⟨v, r, rfl, _, h3⟩ := h
  obtain ⟨u, h4, h5⟩ := RepL.get (i := i) h3 (by simpa using e)
  exact ⟨u, by simpa using h4, h5⟩
theorem RepL.set : ∀ {ds : List D} {vs : List V} (i : Nat) {d : D} {v : V}, RepL K I F ds vs → aG K I F d v → RepL K I F (ds.set i d) (vs.set i v)
 | [], vs, _, _, _, h, _ => by simp only [RepL] at h; subst h; simp [RepL]
 | d :: ds, vs, 0, x, u, h, hv => by
  simp only [RepL] at h
  obtain ⟨v, r, rfl, _, h3⟩ := h
  exact RepL.cons hv h3
 | d :: ds, vs, i + 1, x, u, h, hv => by
  simp only [RepL] at h
  obtain ⟨v, r, rfl, h2, h3⟩ := h
  exact RepL.cons h2 (RepL.set i h3 hv)
theorem RepL.take : ∀ {ds : List D} {vs : List V} (n : Nat), RepL K I F ds vs → RepL K I F (ds.take n) (vs.take n)
 | _, _, 0, _ => by simp [RepL]
 | [], vs, n + 1, h => by simp only [RepL] at h; subst h; simp [RepL]
 | d :: ds, vs, n + 1, h => by
  simp only [RepL] at h
  obtain ⟨v, r, rfl, h2, h3⟩ := h
  exact RepL.cons h2 (RepL.take n h3)
theorem RepL.drop : ∀ {ds : List D} {vs : List V} (n : Nat), RepL K I F ds vs → RepL K I F (ds.drop n) (vs.drop n)
 | _, _, 0, h => h
 | [], vs, n + 1, h => by simp only [RepL] at h; subst h; simp [RepL]
 | d :: ds, vs, n + 1, h => by
  simp only [RepL] at h
  obtain ⟨v, r, rfl, h2, h3⟩ := h
  exact RepL.drop n h3
theorem RepL.ints (ns : List Int) : RepL K I F (ns.map D.int) (ns.map V.int) := by
 induction ns with
 | nil => simp [RepL]
 | cons n ns ih => exact RepL.cons (by simp [aG]) ih
end
abbrev Sg := List (Option D)
def e8 (K : PySem.W.Frag) (I : List Addr) (F : Hp) (ds : Sg) (s : L2.St) : Prop := ds.length = s.length ∧ ∀ (i : Nat) (d : D), ds[i]? = some (some d) → ∃ v, s[i]? = some (some v) ∧ aG K I F d v
theorem e8.ext {K : PySem.W.Frag} {I I1 : List Addr} {F F1 : Hp} {ds : Sg} {s : L2.St} (h : e8 K I F ds s) (e : Ext I F I1 F1) : e8 K I1 F1 ds s :=
 ⟨h.1, fun i d q => let ⟨v, h1, h2⟩ := h.2 i d q; ⟨v, h1, aG.ext e d v h2⟩⟩
theorem e8.set {K : PySem.W.Frag} {I : List Addr} {F : Hp} {ds : Sg} {s : L2.St} (h : e8 K I F ds s) (i : Nat) {d : D} {v : V} (hv : aG K I F d v) : e8 K I F (ds.set i (some d)) (s.set i (some v)) := by
 refine ⟨by simp [h.1], fun j e q => ?_⟩
 by_cases hj : i = j
 ·subst hj
  by_cases hl : i < ds.length
  ·rw [bu hl] at q
   cases q
   exact ⟨v, bu (by rw [← h.1]; exact hl), hv⟩
  ·rw [List.getElem?_eq_none (by simpa using hl)] at q; cases q
 ·rw [bc hj] at q
  rw [bc hj]
  exact h.2 j e q
theorem e8.unset {K : PySem.W.Frag} {I : List Addr} {F : Hp} {ds : Sg} {s : L2.St} (h : e8 K I F ds s) (i : Nat) (x : Option V) : e8 K I F (ds.set i none) (s.set i x) := by
 refine ⟨by simp [h.1], fun j e q => ?_⟩
 by_cases hj : i = j
 ·subst hj
  by_cases hl : i < ds.length
  ·rw [bu hl] at q; cases q
  ·rw [List.getElem?_eq_none (by simpa using hl)] at q; cases q
 ·rw [bc hj] at q
  rw [bc hj]
  exact h.2 j e q
def AJ (K : PySem.W.Frag) (I : List Addr) (F H : Hp) (x : XD) (c : Value) (d : Option Addr) : Prop :=
 c = x.cls ∧ match x.fs with
  | none => d = none
  | some fs => ∃ a r, d = some a ∧ H a = some (.xd r) ∧ aP K I F fs r
def a9 {α : Type} (K : PySem.W.Frag) (I : List Addr) (F G : Hp) (E : XK) (R : List Addr → Hp → Hp → α → W → Prop) : Res α → Prop
 | .ok a w => ∀ I' F' H', Ext I F I' F' → Rel K I' F' G w H' → R I' F' H' a w
 | .E5 x w => ∀ I' F' H' c d, Ext I F I' F' → Rel K I' F' G w H' → AJ K I' F' H' x c d → E c d H'
 | .bad => False
section
variable {α β : Type} {K : PySem.W.Frag} {I I1 : List Addr} {F F1 G : Hp} {E : XK} {R R' : List Addr → Hp → Hp → α → W → Prop} {r : Res α}
theorem a9.ext (h : a9 K I F G E R r) (e : Ext I F I1 F1) : a9 K I1 F1 G E R r := by
 cases r with
 | ok a w => exact fun I' F' H' e' q => h I' F' H' (e.trans e') q
 | E5 x w => exact fun I' F' H' c d e' q y => h I' F' H' c d (e.trans e') q y
 | bad => exact h
theorem a9.mono (h : a9 K I F G E R r) (k : ∀ I' F' H' a w, r = .ok a w → Ext I F I' F' → Rel K I' F' G w H' → R I' F' H' a w → R' I' F' H' a w) : a9 K I F G E R' r := by
 cases r with
 | ok a w => exact fun I' F' H' e' q => k I' F' H' a w rfl e' q (h I' F' H' e' q)
 | E5 x w => exact h
 | bad => exact h
theorem a9.bind {f : α → W → Res β} {R2 : List Addr → Hp → Hp → β → W → Prop} (h : a9 K I F G E R2 (r.bind f)) : a9 K I F G E (fun I' F' _ a w => a9 K I' F' G E R2 (f a w)) r := by
 cases r with
 | ok a w => exact fun I' F' H' e' q => a9.ext (K := K) (R := R2) h e'
 | E5 x w => exact h
 | bad => exact h
end
def RV (K : PySem.W.Frag) (Q : VK) : List Addr → Hp → Hp → D → W → Prop := fun I' F' H' d _ => ∀ v, aG K I' F' d v → Q v H'
structure aM where
 P : Program
 w : World
 K : PySem.W.Frag
 mg : Str → Option Value
 base : Heap
 k : Nat
 N : List Str
 sc : Scope
 fn : Str → Bool
structure Ctx (S : aM) (X : Cx) : Prop where
 P : X.prog = S.P
 w : X.w = S.w
 K : X.K = S.K
 mg : X.mg = S.mg
 base : X.base = S.base
 N : X.N = S.N
 sc : X.env.scope = S.sc
 fn : ∀ x, S.fn x = true → X.fn x = true
 calm : X.calm = true
 room : Room S.k X.A
 gds : X.A.guards = some []
 nd : X.N.Nodup
structure pX (X : Cx) (E : XK) : Prop where
 tk : Takes X (fun cls d _ H => E cls d H)
 own : PassesOwn (model X.prog X.w) X.A X.env X.xe
abbrev ME := Sg → W → Res D
abbrev MT := Sg → W → Res Bool
abbrev MA := Sg → W → Res (List D)
inductive Fl where
 | nx (s : Sg) | rt (d : D) | bk (s : Sg) | ct (s : Sg)
abbrev MS := Sg → W → Res Fl
def RL (K : PySem.W.Frag) (Q : List V → Hp → Prop) : List Addr → Hp → Hp → List D → W → Prop := fun I' F' H' ds _ => ∀ vs, RepL K I' F' ds vs → Q vs H'
def RB (Q : Bool → Hp → Prop) : List Addr → Hp → Hp → Bool → W → Prop := fun _ _ H' b _ => Q b H'
def RFl (K : PySem.W.Frag) (Z : Ends) : List Addr → Hp → Hp → Fl → W → Prop := fun I' F' H' f _ => match f with
 | .nx s => ∀ s', e8 K I' F' s s' → Z.nx s' H'
 | .rt d => ∀ v, aG K I' F' d v → Z.rt v H'
 | .bk s => ∀ s', e8 K I' F' s s' → Z.bk s' H'
 | .ct s => ∀ s', e8 K I' F' s s' → Z.ct s' H'
def sC (K : PySem.W.Frag) (E : XK) (m : ME) : TE := fun σ H Q => ∃ I F G ds w, Rel K I F G w H ∧ e8 K I F ds σ ∧ a9 K I F G E (RV K Q) (m ds w)
def V8 (K : PySem.W.Frag) (E : XK) (m : MT) : TT := fun σ H Q => ∃ I F G ds w, Rel K I F G w H ∧ e8 K I F ds σ ∧ a9 K I F G E (RB Q) (m ds w)
def XC (K : PySem.W.Frag) (E : XK) (m : MA) : TA := fun σ H Q => ∃ I F G ds w, Rel K I F G w H ∧ e8 K I F ds σ ∧ a9 K I F G E (RL K Q) (m ds w)
def LD (K : PySem.W.Frag) (E : XK) (m : MS) : TS := fun Z σ H => ∃ I F G ds w, Rel K I F G w H ∧ e8 K I F ds σ ∧ a9 K I F G E (RFl K Z) (m ds w)
def JE (S : aM) (e : Expr) (m : ME) : Prop := ∀ X E, Ctx S X → pX X E → PE X e (sC X.K E m)
def JT (S : aM) (e : Expr) (m : MT) : Prop := ∀ X E, Ctx S X → pX X E → PT X e (V8 X.K E m)
def JW (S : aM) (e : Expr) (m : MT) : Prop := ∀ X E, Ctx S X → pX X E → PW X e (V8 X.K E m)
def JA (S : aM) (es : List Expr) (m : MA) : Prop := ∀ X E, Ctx S X → pX X E → PA X es (XC X.K E m)
def JS (S : aM) (st : Stmt) (m : MS) : Prop := ∀ X E, Ctx S X → pX X E → PS X st (LD X.K E m)
def nU (S : aM) (st : List Stmt) (m : MS) : Prop := ∀ X E, Ctx S X → pX X E → PSs X st (LD X.K E m)
section
variable {X : Cx} {e : Expr} {es : List Expr} {st : Stmt} {sts : List Stmt}
theorem b6 {t t' : TE} (h : PE X e t) (k : ∀ σ H Q, t' σ H Q → t σ H Q) : PE X e t' := ⟨fun pins s σ H Q I q => h.run pins s σ H Q I (k σ H Q q)⟩
theorem zK {t t' : TT} (h : PT X e t) (k : ∀ σ H Q, t' σ H Q → t σ H Q) : PT X e t' := ⟨fun pins s σ H Q I q => h.run pins s σ H Q I (k σ H Q q)⟩
theorem RD {t t' : TT} (h : PW X e t) (k : ∀ σ H Q, t' σ H Q → t σ H Q) : PW X e t' := ⟨fun wh pins s σ H Q I q => h.run wh pins s σ H Q I (k σ H Q q)⟩
theorem QM {t t' : TA} (h : PA X es t) (k : ∀ σ H Q, t' σ H Q → t σ H Q) : PA X es t' := ⟨fun pos pins s σ H Q I q => h.run pos pins s σ H Q I (k σ H Q q)⟩
theorem kU {t t' : TS} (h : PS X st t) (k : ∀ D σ H, t' D σ H → t D σ H) : PS X st t' := ⟨fun pins s σ H D I q => h.run pins s σ H D I (k D σ H q)⟩
theorem LA {t t' : TS} (h : PSs X sts t) (k : ∀ D σ H, t' D σ H → t D σ H) : PSs X sts t' := ⟨fun pins s σ H D I q => h.run pins s σ H D I (k D σ H q)⟩
end
def aB (i : Nat) : ME := fun σ w => match σ[i]? with
 | some (some d) => .ok d w
 | _ => .bad
def eC (d : D) : ME := fun _ w => .ok d w
section
variable {S : aM} {pos : Pos}
theorem aBi (i : Nat) {x : Str} (hN : S.N[i]? = some x) (hv : Vis S.sc x) (hd : (x == ("__debug__" : Str)) = false := by decide) (hcd : (x == ("__classdict__" : Str)) = false := by decide) : JE S (.Name x pos) (aB i) := by
 intro X E c xo
 refine b6 (pe_var (i := i) (by rw [c.N]; exact hN) (by rw [c.sc]; exact hv) hd hcd) fun σ H Q h => ?_
 obtain ⟨I, F, G, ds, w, rel, rs, p⟩ := h
 unfold aB at p
 split at p
 ·rename_i d hi
  obtain ⟨v, hv, hr⟩ := rs.2 i d hi
  exact ⟨v, hv, p I F H .refl rel v hr⟩
 ·exact p.elim
theorem X2 {e : Expr} {d : D} {v : V} (h : ∀ X, PE X e (tC v)) (hr : ∀ K I F, aG K I F d v) : JE S e (eC d) := by
 intro X E c xo
 refine b6 (h X) fun σ H Q h => ?_
 obtain ⟨I, F, G, ds, w, rel, rs, p⟩ := h
 exact p I F H .refl rel v (hr _ _ _)
theorem aY {i : Int} {j : Nat} : JE S (.Constant (.int i) j pos) (eC (.int i)) := X2 (fun _ => pe_int) fun _ _ _ => by simp [aG]
theorem AV {b : Bool} {j : Nat} : JE S (.Constant (.bool b) j pos) (eC (.bl b)) := X2 (fun _ => pe_bl) fun _ _ _ => by simp [aG]
theorem sW {j : Nat} : JE S (.Constant .none j pos) (eC .non) := X2 (fun _ => pe_non) fun _ _ _ => by simp [aG]
theorem bI {x : Str} {j : Nat} : JE S (.Constant (.str x) j pos) (eC (.str x)) := X2 (fun _ => pe_str) fun _ _ _ => by simp [aG]
theorem XB {x : Str} {d : D} {v : V} {u : Value} (hg : S.sc.names.lookup x = some .globalImplicit) (hm : S.mg x = some u) (r : RelV v u) (hr : ∀ I F, aG S.K I F d v) (hd : (x == ("__debug__" : Str)) = false := by decide) : JE S (.Name x pos) (eC d) := by
 intro X E c xo
 refine b6 (pe_glob (x := x) (v := v) (u := u) (by show X.env.scope.names.lookup x = _; rw [c.sc]; exact hg) (by rw [c.mg]; exact hm) r hd) fun σ H Q h => ?_
 obtain ⟨I, F, G, ds, w, rel, rs, p⟩ := h
 exact p I F H .refl rel v (by rw [c.K]; exact hr _ _)
end
def aD (f : D → D → W → Res D) (a b : ME) : ME := fun σ w => (a σ w).bind fun x w1 => (b σ w1).bind fun y w2 => f x y w2
def zN (f : D → W → Res D) (a : ME) : ME := fun σ w => (a σ w).bind fun x w1 => f x w1
def VL (K : PySem.W.Frag) (E : XK) (f : D → D → W → Res D) : R2 := fun x y H Q => ∃ I F G d e w, Rel K I F G w H ∧ aG K I F d x ∧ aG K I F e y ∧ a9 K I F G E (RV K Q) (f d e w)
def aDS (K : PySem.W.Frag) (E : XK) (f : D → W → Res D) : V → Hp → VK → Prop := fun x H Q => ∃ I F G d w, Rel K I F G w H ∧ aG K I F d x ∧ a9 K I F G E (RV K Q) (f d w)
def O2 (S : aM) (o : Value → Value → Sem Value) (f : D → D → W → Res D) : Prop := ∀ X E, Ctx S X → pX X E → OpR X o (VL X.K E f)
def O1 (S : aM) (o : Value → Sem Value) (f : D → W → Res D) : Prop := ∀ X E, Ctx S X → pX X E → UnR X o (aDS X.K E f)
section
variable {S : aM} {pos : Pos} {a b : Expr} {ma mb : ME}
theorem vC {K : PySem.W.Frag} {E : XK} {f : D → D → W → Res D} {σ : L2.St} {H : Hp} {Q : VK} (h : sC K E (aD f ma mb) σ H Q) : tOp (VL K E f) (sC K E ma) (sC K E mb) σ H Q := by
 obtain ⟨I, F, G, ds, w, rel, rs, p⟩ := h
 refine ⟨I, F, G, ds, w, rel, rs, (a9.bind p).mono fun I1 F1 H1 x w1 _ e1 rel1 p1 v rv => ?_⟩
 refine ⟨I1, F1, G, ds, w1, rel1, rs.ext e1, (a9.bind p1).mono fun I2 F2 H2 y w2 _ e2 rel2 p2 u ru => ?_⟩
 exact ⟨I2, F2, G, x, y, w2, rel2, aG.ext e2 _ _ rv, ru, p2⟩
theorem bS {op : Operator} {f : D → D → W → Res D} (ho : O2 S (binaryOp op) f) (ha : JE S a ma) (hb : JE S b mb) : JE S (.BinOp a op b pos) (aD f ma mb) := fun X E c xo =>
 b6 (pe_op (ho X E c xo) (ha X E c xo) (hb X E c xo)) fun _ _ _ h => vC h
theorem nD {op : CmpOp} {f : D → D → W → Res D} (ho : O2 S (compareOp op) f) (ha : JE S a ma) (hb : JE S b mb) (hm : behindInMarks op b = false := by first | exact nobehind _ (by decide) (by decide) | rfl) : JE S (.Compare a [op] [b] pos) (aD f ma mb) := fun X E c xo =>
 b6 (pe_cmpR (ho X E c xo) (ha X E c xo) (hb X E c xo) hm) fun _ _ _ h => vC h
theorem aCi {op : UnaryOp} {f : D → W → Res D} (ho : O1 S (unaryOp op) f) (ha : JE S a ma) : JE S (.UnaryOp op a pos) (zN f ma) := fun X E c xo =>
 b6 (pe_un (ho X E c xo) (ha X E c xo)) fun σ H Q h => by
  obtain ⟨I, F, G, ds, w, rel, rs, p⟩ := h
  refine ⟨I, F, G, ds, w, rel, rs, (a9.bind p).mono fun I1 F1 H1 x w1 _ e1 rel1 p1 v rv => ?_⟩
  exact ⟨I1, F1, G, x, w1, rel1, rv, p1⟩
def aCC (d : D) (w : W) : Res Bool := match d with
 | .bl b => .ok b w
 | _ => .bad
def aU (m : ME) : MT := fun σ w => (m σ w).bind aCC
theorem cA {op : CmpOp} {f : D → D → W → Res D} (ho : O2 S (compareOp op) f) (ha : JE S a ma) (hb : JE S b mb) (hm : behindInMarks op b = false := by first | exact nobehind _ (by decide) (by decide) | rfl) : JT S (.Compare a [op] [b] pos) (aU (aD f ma mb)) := fun X E c xo =>
 zK (pt_cmpR (ho X E c xo) (ha X E c xo) (hb X E c xo) hm) fun σ H Q h => by
  obtain ⟨I, F, G, ds, w, rel, rs, p⟩ := h
  show tOp _ _ _ σ H fun x H' => ∃ k, x = .bl k ∧ Q k H'
  refine vC ⟨I, F, G, ds, w, rel, rs, (a9.bind p).mono fun I1 F1 H1 x w1 _ e1 rel1 p1 v rv => ?_⟩
  cases x <;> first | exact p1.elim | skip
  simp only [aG] at rv
  exact ⟨_, rv, p1 I1 F1 H1 .refl rel1⟩
end
mutual
def D.eS (f : Nat → Option PyData) : D → Option PyData
 | .non => some .none
 | .bl b => some (.bool b)
 | .int i => some (.int i)
 | .str x => some (.str x)
 | .ty _ => none
 | .con _ => none
 | .tup xs => (D.pysR f xs).map .tuple
 | .lst xs => (D.pysR f xs).map .list
 | .mH xs => (D.pysR f xs).map .list
 | .pW xs => (D.pysR f xs).map .tuple
 | .BV _ _ => none
 | .ref i => f i
def D.pysR (f : Nat → Option PyData) : List D → Option (List PyData)
 | [] => some []
 | d :: ds => match D.eS f d, D.pysR f ds with
  | some p, some ps => some (p :: ps)
  | _, _ => none
end
def OZ : Nat → W → Nat → Option PyData
 | 0, _, _ => none
 | n + 1, w, i => match w[i]? with
  | some (.lst xs) => (D.pysR (OZ n w) xs).map .list
  | _ => none
def D.py (w : W) (d : D) : Option PyData := d.eS (OZ 8 w)
section
variable {K : PySem.W.Frag} {I : List Addr} {F G H : Hp} {w : W}
theorem Rel.QJ (rel : Rel K I F G w H) {a : Addr} {vs : List V} (h : SqL K F a vs) : SqL K H a vs := by
 rcases h with (h | ⟨o, h⟩) | h
 ·exact .inl (.inl (rel.fz _ _ h))
 ·exact .inl (.inr ⟨o, rel.fz _ _ h⟩)
 ·exact .inr h
theorem Rel.MD (rel : Rel K I F G w H) {a : Addr} {vs : List V} (h : SqT K F a vs) : SqT K H a vs := by
 rcases h with (h | ⟨o, h⟩) | h
 ·exact .inl (.inl (rel.fz _ _ h))
 ·exact .inl (.inr ⟨o, rel.fz _ _ h⟩)
 ·exact .inr h
mutual
theorem VC (rel : Rel K I F G w H) {f : Nat → Option PyData} (hf : ∀ i a p, I[i]? = some a → f i = some p → Dp K H (.ref a) p) : ∀ (d : D) (v : V) (p : PyData), aG K I F d v → d.eS f = some p → Dp K H v p
 | .non, v, p, h, e => by simp only [aG] at h; simp only [D.eS, af] at e; subst h; subst e; exact .non
 | .bl b, v, p, h, e => by simp only [aG] at h; simp only [D.eS, af] at e; subst h; subst e; exact .bl b
 | .int i, v, p, h, e => by simp only [aG] at h; simp only [D.eS, af] at e; subst h; subst e; exact .int i
 | .str x, v, p, h, e => by simp only [aG] at h; simp only [D.eS, af] at e; subst h; subst e; exact .str x
 | .ty _, v, p, h, e => by simp [D.eS] at e
 | .con _, v, p, h, e => by simp [D.eS] at e
 | .BV _ _, v, p, h, e => by simp [D.eS] at e
 | .tup xs, v, p, h, e => by
  simp only [aG] at h
  obtain ⟨a, vs, rfl, h2, h3⟩ := h
  simp only [D.eS, aj] at e
  obtain ⟨ps, e1, rfl⟩ := e
  exact .tup (.of (rel.fz _ _ h2)) (dp_pysR rel hf xs vs ps h3 e1)
 | .pW xs, v, p, h, e => by
  simp only [aG] at h
  obtain ⟨a, vs, rfl, h2, h3⟩ := h
  simp only [D.eS, aj] at e
  obtain ⟨ps, e1, rfl⟩ := e
  exact .tup (rel.MD h2) (dp_pysR rel hf xs vs ps h3 e1)
 | .lst xs, v, p, h, e => by
  simp only [aG] at h
  obtain ⟨a, vs, rfl, h2, h3⟩ := h
  simp only [D.eS, aj] at e
  obtain ⟨ps, e1, rfl⟩ := e
  exact .lst (.of (rel.fz _ _ h2)) (dp_pysR rel hf xs vs ps h3 e1)
 | .mH xs, v, p, h, e => by
  simp only [aG] at h
  obtain ⟨a, vs, rfl, h2, h3⟩ := h
  simp only [D.eS, aj] at e
  obtain ⟨ps, e1, rfl⟩ := e
  exact .lst (rel.QJ h2) (dp_pysR rel hf xs vs ps h3 e1)
 | .ref i, v, p, h, e => by
  simp only [aG] at h
  obtain ⟨a, rfl, h2⟩ := h
  simp only [D.eS] at e
  exact hf i a p h2 e
theorem dp_pysR (rel : Rel K I F G w H) {f : Nat → Option PyData} (hf : ∀ i a p, I[i]? = some a → f i = some p → Dp K H (.ref a) p) : ∀ (ds : List D) (vs : List V) (ps : List PyData), RepL K I F ds vs → D.pysR f ds = some ps → DpAll K H vs ps
 | [], vs, ps, h, e => by simp only [RepL] at h; simp only [D.pysR, af] at e; subst h; subst e; exact .nil
 | d :: ds, vs, ps, h, e => by
  simp only [RepL] at h
  obtain ⟨v, r, rfl, h2, h3⟩ := h
  simp only [D.pysR] at e
  split at e
  ·rename_i p ps' e1 e2
   cases e
   exact .cons (VC rel hf d v p h2 e1) (dp_pysR rel hf ds r ps' h3 e2)
  ·cases e
end
theorem ZV (rel : Rel K I F G w H) : ∀ (n : Nat) (i : Nat) (a : Addr) (p : PyData), I[i]? = some a → OZ n w i = some p → Dp K H (.ref a) p
 | 0, i, a, p, _, e => by simp [OZ] at e
 | n + 1, i, a, p, h, e => by
  simp only [OZ] at e
  split at e
  ·rename_i xs hw
   simp only [aj] at e
   obtain ⟨ps, e1, rfl⟩ := e
   obtain ⟨u, hu, ho⟩ := rel.ob i a _ h hw
   obtain ⟨vs, rfl, h3⟩ := ho
   exact .lst (.of hu) (dp_pysR rel (fun i a p => ZV rel n i a p) xs vs ps h3 e1)
  ·cases e
theorem xO (rel : Rel K I F G w H) {d : D} {v : V} {p : PyData} (h : aG K I F d v) (e : d.py w = some p) : Dp K H v p :=
 VC rel (fun i a p => ZV rel 8 i a p) d v p h e
end
def bH (x y : D) (w : W) : Res D := match x, y with
 | .int a, .int b => .ok (.int (a + b)) w
 | .str a, .str b => if a.length + b.length ≤ sizeLine then .ok (.str (a ++ b)) w else .bad
 | .tup a, .tup b => if a.length + b.length ≤ sizeLine then .ok (.tup (a ++ b)) w else .bad
 | .lst a, .lst b => if a.length + b.length ≤ sizeLine then .ok (.lst (a ++ b)) w else .bad
 | _, _ => .bad
def pB (x y : D) (w : W) : Res D := match x, y with
 | .int a, .int b => .ok (.int (a - b)) w
 | _, _ => .bad
def AX (a b : Int) : Bool := (decide (-(2 ^ 64) < a) && decide (a < 2 ^ 64)) || (decide (-(2 ^ 64) < b) && decide (b < 2 ^ 64))
def mulM (x y : D) (w : W) : Res D := match x, y with
 | .int a, .int b => if AX a b then .ok (.int (a * b)) w else .bad
 | .lst a, .int k => if -(2 ^ 63) ≤ k ∧ k < 2 ^ 63 ∧ a.length * k.toNat ≤ sizeLine then .ok (.lst (List.replicate k.toNat a).flatten) w else .bad
 | _, _ => .bad
def sS (x y : D) (w : W) : Res D := match x, y with
 | .int a, .int b => if 0 < b ∧ b < 1073741824 then .ok (.int (a / b)) w else .bad
 | _, _ => .bad
def iV (x y : D) (w : W) : Res D := match x, y with
 | .int a, .int b => if 0 < b then .ok (.int (a % b)) w else .bad
 | _, _ => .bad
def OJ (x y : D) (w : W) : Res D := match x, y with
 | .int a, .int b => if 0 ≤ b ∧ b ≤ 1000000 ∧ a.natAbs < 2 ^ 64 then .ok (.int (a ^ b.toNat)) w else .bad
 | _, _ => .bad
def y7 (x : D) (w : W) : Res D := match x with
 | .int a => .ok (.int (-a)) w
 | _ => .bad
def sV (x y : D) (w : W) : Option Bool := match x.py w, y.py w with
 | some p, some q => if SeqAt.shaped p = true ∧ SeqAt.shaped q = true then some (PyData.eqv p q) else none
 | _, _ => none
def aAD (x y : D) (w : W) : Res D := match sV x y w with
 | some b => .ok (.bl b) w
 | none => .bad
def aBP (x y : D) (w : W) : Res D := match sV x y w with
 | some b => .ok (.bl (!b)) w
 | none => .bad
def SY : D → D → Option Bool
 | .tup xs, .tup [] => some xs.isEmpty
 | .lst xs, .lst [] => some xs.isEmpty
 | _, _ => none
def zQ (x y : D) (w : W) : Option Bool := match sV x y w with
 | some b => some b
 | none => SY x y
def dD (x y : D) (w : W) : Res D := match zQ x y w with
 | some b => .ok (.bl b) w
 | none => .bad
def mS (x y : D) (w : W) : Res D := match zQ x y w with
 | some b => .ok (.bl (!b)) w
 | none => .bad
def M9 (x y : D) (w : W) : Res D := match x, y with
 | .int a, .int b => .ok (.bl (decide (a ≤ b))) w
 | _, _ => .bad
def QY (x y : D) (w : W) : Res D := match x, y with
 | .int a, .int b => .ok (.bl (decide (b < a))) w
 | _, _ => .bad
def XT (x y : D) (w : W) : Res D := match x, y with
 | .int a, .int b => .ok (.bl (decide (b ≤ a))) w
 | _, _ => .bad
def D.isNon : D → Bool
 | .non => true
 | _ => false
def isM (x y : D) (w : W) : Res D := match x, y with
 | x, .non => .ok (.bl x.isNon) w
 | .bl a, .bl b => .ok (.bl (decide (a = b))) w
 | _, _ => .bad
def tP (x y : D) (w : W) : Res D := match x, y with
 | x, .non => .ok (.bl (!x.isNon)) w
 | .bl a, .bl b => .ok (.bl (!decide (a = b))) w
 | _, _ => .bad
def D.items (w : W) : D → Option (List D)
 | .tup xs => some xs
 | .lst xs => some xs
 | .mH xs => some xs
 | .pW xs => some xs
 | .ref i => match w[i]? with
  | some (.lst xs) => some xs
  | _ => none
 | _ => none
section
variable {S : aM}
theorem gJ {o : Value → Value → Sem Value} {f : D → D → W → Res D}
  (h : ∀ (X : Cx) (E : XK), Ctx S X → pX X E → ∀ (I : List Addr) (F G : Hp) (d e : D) (w : W) (H : Hp) (x y : V) (Q : VK), Rel X.K I F G w H → aG X.K I F d x → aG X.K I F e y → a9 X.K I F G E (RV X.K Q) (f d e w) →
   ∃ r : R2, OpR X o r ∧ r x y H Q) : O2 S o f := fun X E c xo pins s σ H x y v u Q I rx ry ⟨J, F, G, d, e, w, rel, rd, re, p⟩ => by
 obtain ⟨r, ho, hr⟩ := h X E c xo J F G d e w H x y Q rel rd re p
 exact ho pins s σ H x y v u Q I rx ry hr
theorem BW {o : Value → Value → Sem Value} {f : D → D → W → Res D} {C : Int → Int → Prop} {g : Int → Int → V} {gd : Int → Int → D} (ho : ∀ X : Cx, OpR X o (rI C g))
  (hg : ∀ K I F a b, aG K I F (gd a b) (g a b)) (hf : ∀ d e w r, f d e w = r → r = .bad ∨ ∃ a b, d = .int a ∧ e = .int b ∧ C a b ∧ r = .ok (gd a b) w) : O2 S o f :=
 gJ fun X E c xo I F G d e w H x y Q rel rd re p => by
  rcases hf d e w _ rfl with h | ⟨a, b, rfl, rfl, hc, h⟩
  ·rw [h] at p; exact p.elim
  ·rw [h] at p
   simp only [aG] at rd re
   exact ⟨_, ho X, a, b, rd, re, hc, p I F H .refl rel _ (hg _ _ _ _ _)⟩
theorem ZT {o : Value → Value → Sem Value} {X : Cx} {g : Int → Int → V} (h : OpR X o (rI0 g)) : OpR X o (rI (fun _ _ => True) g) := fun pins s σ H x y v u Q I rx ry ⟨i, j, e1, e2, _, q⟩ => h pins s σ H x y v u Q I rx ry ⟨i, j, e1, e2, q⟩
theorem QE : O2 S (compareOp .LtE) M9 := BW (gd := fun a b => .bl (decide (a ≤ b))) (fun _ => ZT op_le) (fun _ _ _ _ _ => by simp [aG]) fun d e w r h => by
 subst h; cases d <;> cases e <;> simp [M9]
theorem aCo : O2 S (compareOp .GtE) XT := BW (gd := fun a b => .bl (decide (b ≤ a))) (fun _ => ZT op_ge) (fun _ _ _ _ _ => by simp [aG]) fun d e w r h => by
 subst h; cases d <;> cases e <;> simp [XT]
theorem Q9 : O2 S (binaryOp .FloorDiv) sS := BW (gd := fun a b => .int (a / b)) (fun _ => op_fdiv) (fun _ _ _ _ _ => by simp [aG]) fun d e w r h => by
 subst h; cases d <;> cases e <;> simp only [sS, true_or, reduceCtorEq, false_and, and_false, exists_const, or_false]
 rename_i a b
 by_cases hc : 0 < b ∧ b < 1073741824
 ·rw [if_pos hc]; exact .inr ⟨a, b, rfl, rfl, hc, rfl⟩
 ·rw [if_neg hc]; exact .inl rfl
theorem tO : O2 S (binaryOp .Mod) iV := BW (gd := fun a b => .int (a % b)) (fun _ => op_mod) (fun _ _ _ _ _ => by simp [aG]) fun d e w r h => by
 subst h; cases d <;> cases e <;> simp only [iV, true_or, reduceCtorEq, false_and, and_false, exists_const, or_false]
 rename_i a b
 by_cases hc : 0 < b
 ·rw [if_pos hc]; exact .inr ⟨a, b, rfl, rfl, hc, rfl⟩
 ·rw [if_neg hc]; exact .inl rfl
theorem aBC : O2 S (binaryOp .Pow) OJ := BW (gd := fun a b => .int (a ^ b.toNat)) (fun _ => op_pow) (fun _ _ _ _ _ => by simp [aG]) fun d e w r h => by
 subst h; cases d <;> cases e <;> simp only [OJ, true_or, reduceCtorEq, false_and, and_false, exists_const, or_false]
 rename_i a b
 by_cases hc : 0 ≤ b ∧ b ≤ 1000000 ∧ a.natAbs < 2 ^ 64
 ·rw [if_pos hc]; exact .inr ⟨a, b, rfl, rfl, hc, rfl⟩
 ·rw [if_neg hc]; exact .inl rfl
theorem iQ {K : PySem.W.Frag} {I : List Addr} {F G H : Hp} {E : XK} {w : W} {ds : List D} {vs : List V} {Q : VK} (rel : Rel K I F G w H) (r : RepL K I F ds vs) (p : a9 K I F G E (RV K Q) (.ok (.lst ds) w)) : ∀ q, H q = none → Q (.ref q) (upd H q (.lst vs)) := fun q hq => by
 have hF : F q = none := by
  cases h : F q with
  | none => rfl
  | some u => rw [rel.fz _ _ h] at hq; cases hq
 have e : Ext I F I (upd F q (.lst vs)) := ⟨List.prefix_refl _, fun a u h => by rw [upd_ne (ne_of_none h hF)]; exact h⟩
 refine p I (upd F q (.lst vs)) (upd H q (.lst vs)) e ⟨rel.len, rel.nd, fun i a o h1 h2 => ?_, fun a u h => ?_, fun i a o h h0 hf => ?_, fun a u h => ?_, fun a u h => ?_, rel.gt⟩ _ ?_
 ·obtain ⟨u, h3, h4⟩ := rel.ob i a o h1 h2
  exact ⟨u, by rw [upd_ne (ne_of_none h3 hq)]; exact h3, mJ.ext e h4⟩
 ·by_cases ha : a = q
  ·subst ha; rw [upd_same] at h ⊢; exact h
  ·rw [upd_ne ha] at h ⊢; exact rel.fz a u h
 ·obtain ⟨u, h3, _⟩ := rel.ob i a o h h0
  rw [upd_ne (ne_of_none h3 hq)]; exact rel.ap i a o h h0 hf
 ·rw [upd_ne (ne_of_none (rel.gz a u h) hq)]; exact rel.gz a u h
 ·rw [upd_ne (ne_of_none (rel.gz a u h) hq)]; exact rel.gf a u h
 ·simp only [aG]
  exact ⟨q, vs, rfl, upd_same, RepL.ext e _ _ r⟩
theorem u9 {K : PySem.W.Frag} {I : List Addr} {F G H : Hp} {E : XK} {w : W} {ds : List D} {vs : List V} {Q : VK} (rel : Rel K I F G w H) (r : RepL K I F ds vs) (p : a9 K I F G E (RV K Q) (.ok (.tup ds) w)) : ∀ q, H q = none → Q (.ref q) (upd H q (.tup vs)) := fun q hq => by
 have hF : F q = none := by
  cases h : F q with
  | none => rfl
  | some u => rw [rel.fz _ _ h] at hq; cases hq
 have e : Ext I F I (upd F q (.tup vs)) := ⟨List.prefix_refl _, fun a u h => by rw [upd_ne (ne_of_none h hF)]; exact h⟩
 refine p I (upd F q (.tup vs)) (upd H q (.tup vs)) e ⟨rel.len, rel.nd, fun i a o h1 h2 => ?_, fun a u h => ?_, fun i a o h h0 hf => ?_, fun a u h => ?_, fun a u h => ?_, rel.gt⟩ _ ?_
 ·obtain ⟨u, h3, h4⟩ := rel.ob i a o h1 h2
  exact ⟨u, by rw [upd_ne (ne_of_none h3 hq)]; exact h3, mJ.ext e h4⟩
 ·by_cases ha : a = q
  ·subst ha; rw [upd_same] at h ⊢; exact h
  ·rw [upd_ne ha] at h ⊢; exact rel.fz a u h
 ·obtain ⟨u, h3, _⟩ := rel.ob i a o h h0
  rw [upd_ne (ne_of_none h3 hq)]; exact rel.ap i a o h h0 hf
 ·rw [upd_ne (ne_of_none (rel.gz a u h) hq)]; exact rel.gz a u h
 ·rw [upd_ne (ne_of_none (rel.gz a u h) hq)]; exact rel.gf a u h
 ·simp only [aG]
  exact ⟨q, vs, rfl, upd_same, RepL.ext e _ _ r⟩
theorem RepL.eq_nil {K : PySem.W.Frag} {I : List Addr} {F : Hp} {ds : List D} (r : RepL K I F ds []) : ds = [] := by
 have := r.length
 exact List.eq_nil_of_length_eq_zero (by simpa using this)
theorem eJ : O2 S (binaryOp .Add) bH := gJ fun X E c xo I F G d e w H x y Q rel rd re p => by
 cases d <;> cases e <;> first | exact p.elim | skip
 ·simp only [aG] at rd re
  exact ⟨_, op_add, _, _, rd, re, p I F H .refl rel _ (by simp [aG])⟩
 ·rename_i a b
  simp only [aG] at rd re
  simp only [bH] at p
  split at p
  ·rename_i hl
   exact ⟨_, op_add_str, _, _, rd, re, hl, p I F H .refl rel _ (by simp [aG])⟩
  ·exact p.elim
 ·rename_i a b
  simp only [aG] at rd re
  obtain ⟨q, vs, rfl, h1, h2⟩ := rd
  obtain ⟨q', vs', rfl, h1', h2'⟩ := re
  simp only [bH] at p
  split at p
  ·rename_i hl
   refine ⟨_, op_catA, q, q', vs, vs', rfl, rfl, .of (rel.fz _ _ h1), .of (rel.fz _ _ h1'), by rw [← h2.length, ← h2'.length]; exact hl, fun hn => ?_, fun _ hn => ?_, fun _ _ => ?_⟩
   ·subst hn
    obtain rfl := h2.eq_nil
    exact p I F H .refl rel _ (by simp only [aG, List.nil_append]; exact ⟨_, _, rfl, h1', h2'⟩)
   ·subst hn
    obtain rfl := h2'.eq_nil
    exact p I F H .refl rel _ (by simp only [aG, List.append_nil]; exact ⟨_, _, rfl, h1, h2⟩)
   ·exact u9 rel (h2.append h2') p
  ·exact p.elim
 ·rename_i a b
  simp only [aG] at rd re
  obtain ⟨q, vs, rfl, h1, h2⟩ := rd
  obtain ⟨q', vs', rfl, h1', h2'⟩ := re
  simp only [bH] at p
  split at p
  ·rename_i hl
   exact ⟨_, op_cat, q, q', vs, vs', rfl, rfl, rel.fz _ _ h1, rel.fz _ _ h1', by rw [← h2.length, ← h2'.length]; exact hl, iQ rel (h2.append h2') p⟩
  ·exact p.elim
theorem RepL.rep {K : PySem.W.Frag} {I : List Addr} {F : Hp} {ds : List D} {vs : List V} (r : RepL K I F ds vs) : ∀ n : Nat, RepL K I F (List.replicate n ds).flatten (List.replicate n vs).flatten
 | 0 => by simp [RepL]
 | n + 1 => by
  rw [List.replicate_succ, List.replicate_succ, List.flatten_cons, List.flatten_cons]
  exact r.append (r.rep n)
theorem xC : O2 S (binaryOp .Mult) mulM := gJ fun X E c xo I F G d e w H x y Q rel rd re p => by
 cases d <;> cases e <;> first | exact p.elim | skip
 ·rename_i a b
  simp only [aG] at rd re
  simp only [mulM] at p
  split at p
  ·rename_i hl
   refine ⟨_, op_mul, _, _, rd, re, ?_, p I F H .refl rel _ (by simp [aG])⟩
   simpa [AX, CMul] using hl
  ·exact p.elim
 ·rename_i a b
  simp only [aG] at rd re
  obtain ⟨q, vs, rfl, h1, h2⟩ := rd
  simp only [mulM] at p
  split at p
  ·rename_i hl
   exact ⟨_, op_rep, q, b, vs, rfl, re, rel.fz _ _ h1, hl.1, hl.2.1, by rw [← h2.length]; exact hl.2.2, iQ rel (h2.rep _) p⟩
  ·exact p.elim
theorem aBn : O2 S (compareOp .Eq) aAD := gJ fun X E c xo I F G d e w H x y Q rel rd re p => by
 unfold aAD sV at p
 split at p
 ·rename_i b hb
  split at hb
  ·rename_i p1 q1 e1 e2
   split at hb
   ·rename_i hs
    cases hb
    exact ⟨_, op_eqD c.room.units, p1, q1, xO rel rd e1, xO rel re e2, hs.1, hs.2, p I F H .refl rel _ (by simp [aG])⟩
   ·cases hb
  ·cases hb
 ·exact p.elim
theorem aAS : O2 S (compareOp .NotEq) aBP := gJ fun X E c xo I F G d e w H x y Q rel rd re p => by
 unfold aBP sV at p
 split at p
 ·rename_i b hb
  split at hb
  ·rename_i p1 q1 e1 e2
   split at hb
   ·rename_i hs
    cases hb
    exact ⟨_, op_neD c.room.units, p1, q1, xO rel rd e1, xO rel re e2, hs.1, hs.2, p I F H .refl rel _ (by simp [aG])⟩
   ·cases hb
  ·cases hb
 ·exact p.elim
theorem E9 {K : PySem.W.Frag} {I : List Addr} {F : Hp} {d : D} {v : V} (h : aG K I F d v) : decide (v = .non) = d.isNon := by
 cases d <;> simp only [aG] at h
 case non => subst h; rfl
 case bl => subst h; rfl
 case int => subst h; rfl
 case str => subst h; rfl
 case ty => subst h; rfl
 case con => subst h; rfl
 case tup => obtain ⟨a, vs, rfl, _⟩ := h; rfl
 case lst => obtain ⟨a, vs, rfl, _⟩ := h; rfl
 case mH => obtain ⟨a, vs, rfl, _⟩ := h; rfl
 case pW => obtain ⟨a, vs, rfl, _⟩ := h; rfl
 case BV => obtain ⟨a, vs, rfl, _⟩ := h; rfl
 case ref => obtain ⟨a, rfl, _⟩ := h; rfl
theorem Y9 {x : D} {w : W} : isM x .non w = .ok (.bl x.isNon) w := by cases x <;> rfl
theorem PM {x : D} {w : W} : tP x .non w = .ok (.bl (!x.isNon)) w := by cases x <;> rfl
theorem BE {n : Nat} {xs : List D} (h : n = xs.length) : ((List.range (min n 0)).all (fun _ => true) && n == 0) = xs.isEmpty := by
 subst h
 cases xs <;> simp
theorem zR {X : Cx} {pins : List (Addr × Obj)} {σ : L2.St} {H : Hp} {s : Shared} (J : Inv X pins σ H s) {a : Addr} {vs : List V} (h : H a = some (.tup vs)) : ∃ its : Array Value, s.heap.IsTuple a its ∧ its.size = vs.length := by
 obtain ⟨its, rv, ht, _⟩ := J.tuple (show SqT X.K H a vs from .of h)
 refine ⟨its.toArray, ht, ?_⟩
 rw [List.size_toArray]
 exact (Vals.length rv).symm
theorem zE {X : Cx} {pins : List (Addr × Obj)} {σ : L2.St} {H : Hp} {s : Shared} (J : Inv X pins σ H s) {a : Addr} {vs : List V} (h : H a = some (.lst vs)) : ∃ its : Array Value, s.heap.IsList a its ∧ its.size = vs.length := by
 obtain ⟨its, rv, ⟨o, n, ho, hc, _, hd⟩, _⟩ := J.list (show SqL X.K H a vs from .of h)
 refine ⟨its.toArray, ⟨o, ho, hc, n, hd⟩, ?_⟩
 rw [List.size_toArray]
 exact (Vals.length rv).symm
theorem iC : O2 S (compareOp .Eq) dD := fun X E c xo pins s σ H x y v u Q J rx ry ⟨I, F, G, d, e, w, rel, rd, re, p⟩ => by
 unfold dD zQ at p
 cases h0 : sV d e w with
 | some b =>
  rw [h0] at p
  exact aBn X E c xo pins s σ H x y v u Q J rx ry ⟨I, F, G, d, e, w, rel, rd, re, by unfold aAD; rw [h0]; exact p⟩
 | none =>
  rw [h0] at p
  simp only at p
  have hu : X.A.units < cLine := by have := c.room.units; omega
  unfold SY at p
  split at p
  ·rename_i b hb
   split at hb
   ·rename_i xs
    cases hb
    simp only [aG, RepL] at rd re
    obtain ⟨a, vs, rfl, h2, h3⟩ := rd
    obtain ⟨b, us, rfl, h4, rfl⟩ := re
    obtain rfl : v = Value.ref a := rx
    obtain rfl : u = Value.ref b := ry
    obtain ⟨i1, t1, l1⟩ := zR J (rel.fz _ _ h2)
    obtain ⟨i2, t2, l2⟩ := zR J (rel.fz _ _ h4)
    have z : i2.size = 0 := l2
    refine SeqAt.eq_tupleAt (e := fun _ => true) t1 t2 hu (fun j h1 h2 => absurd h2 (by omega)) ?_
    rw [z, BE (l1.trans h3.length.symm)]
    exact ⟨.bl xs.isEmpty, H, J, rfl, p I F H .refl rel _ (by simp [aG])⟩
   ·rename_i xs
    cases hb
    simp only [aG, RepL] at rd re
    obtain ⟨a, vs, rfl, h2, h3⟩ := rd
    obtain ⟨b, us, rfl, h4, rfl⟩ := re
    obtain rfl : v = Value.ref a := rx
    obtain rfl : u = Value.ref b := ry
    obtain ⟨i1, t1, l1⟩ := zE J (rel.fz _ _ h2)
    obtain ⟨i2, t2, l2⟩ := zE J (rel.fz _ _ h4)
    have z : i2.size = 0 := l2
    have lx : i1.size = xs.length := l1.trans h3.length.symm
    cases xs with
    | nil =>
     refine SeqAt.eq_listAt (e := fun _ => true) t1 t2 (lx.trans z.symm) hu (fun j h1 h2 => absurd h2 (by omega)) ?_
     have : (List.range i1.size).all (fun _ => true) = true := by simp
     rw [this]
     exact ⟨.bl true, H, J, rfl, p I F H .refl rel _ (by simp [aG])⟩
    | cons x xs =>
     refine SeqAt.eq_list_lengthsAt t1 t2 (by rw [lx, z]; rfl) hu ?_
     exact ⟨.bl false, H, J, rfl, p I F H .refl rel _ (by simp [aG])⟩
   ·cases hb
  ·exact p.elim
theorem rD : O2 S (compareOp .NotEq) mS := fun X E c xo pins s σ H x y v u Q J rx ry ⟨I, F, G, d, e, w, rel, rd, re, p⟩ => by
 unfold mS zQ at p
 cases h0 : sV d e w with
 | some b =>
  rw [h0] at p
  exact aAS X E c xo pins s σ H x y v u Q J rx ry ⟨I, F, G, d, e, w, rel, rd, re, by unfold aBP; rw [h0]; exact p⟩
 | none =>
  rw [h0] at p
  simp only at p
  have hu : X.A.units < cLine := by have := c.room.units; omega
  unfold SY at p
  split at p
  ·rename_i b hb
   split at hb
   ·rename_i xs
    cases hb
    simp only [aG, RepL] at rd re
    obtain ⟨a, vs, rfl, h2, h3⟩ := rd
    obtain ⟨b, us, rfl, h4, rfl⟩ := re
    obtain rfl : v = Value.ref a := rx
    obtain rfl : u = Value.ref b := ry
    obtain ⟨i1, t1, l1⟩ := zR J (rel.fz _ _ h2)
    obtain ⟨i2, t2, l2⟩ := zR J (rel.fz _ _ h4)
    have z : i2.size = 0 := l2
    refine SeqAt.RcNeAt.tuples (e := fun _ => true) t1 t2 hu (fun j h1 h2 => absurd h2 (by omega)) _ _ _ _ ?_
    rw [z, BE (l1.trans h3.length.symm)]
    exact ⟨.bl (!xs.isEmpty), H, J, rfl, p I F H .refl rel _ (by simp [aG])⟩
   ·rename_i xs
    cases hb
    simp only [aG, RepL] at rd re
    obtain ⟨a, vs, rfl, h2, h3⟩ := rd
    obtain ⟨b, us, rfl, h4, rfl⟩ := re
    obtain rfl : v = Value.ref a := rx
    obtain rfl : u = Value.ref b := ry
    obtain ⟨i1, t1, l1⟩ := zE J (rel.fz _ _ h2)
    obtain ⟨i2, t2, l2⟩ := zE J (rel.fz _ _ h4)
    have z : i2.size = 0 := l2
    have lx : i1.size = xs.length := l1.trans h3.length.symm
    cases xs with
    | nil =>
     refine SeqAt.RcNeAt.lists (e := fun _ => true) t1 t2 (lx.trans z.symm) hu (fun j h1 h2 => absurd h2 (by omega)) _ _ _ _ ?_
     have : (List.range i1.size).all (fun _ => true) = true := by simp
     rw [this]
     exact ⟨.bl false, H, J, rfl, p I F H .refl rel _ (by simp [aG])⟩
    | cons x xs =>
     refine SeqAt.RcNeAt.lists_lengths t1 t2 (by rw [lx, z]; rfl) hu _ _ _ _ ?_
     exact ⟨.bl true, H, J, rfl, p I F H .refl rel _ (by simp [aG])⟩
   ·cases hb
  ·exact p.elim
theorem aC2 : O2 S (compareOp .Is) isM := gJ fun X E c xo I F G d e w H x y Q rel rd re p => by
 cases e
 case non =>
  simp only [Y9] at p
  simp only [aG] at re
  exact ⟨_, op_isN, re, p I F H .refl rel _ (by simp [aG, E9 rd])⟩
 case bl b =>
  cases d <;> first | exact p.elim | skip
  simp only [aG] at rd re
  exact ⟨_, op_isBl, _, _, rd, re, p I F H .refl rel _ (by simp [aG])⟩
 all_goals (cases d <;> exact p.elim)
theorem J8 : O2 S (compareOp .IsNot) tP := gJ fun X E c xo I F G d e w H x y Q rel rd re p => by
 cases e
 case non =>
  simp only [PM] at p
  simp only [aG] at re
  exact ⟨_, op_notN, re, p I F H .refl rel _ (by simp [aG, E9 rd])⟩
 case bl b =>
  cases d <;> first | exact p.elim | skip
  simp only [aG] at rd re
  exact ⟨_, op_notBl, _, _, rd, re, p I F H .refl rel _ (by simp [aG])⟩
 all_goals (cases d <;> exact p.elim)
theorem aBb : O1 S (unaryOp .USub) y7 := fun X E c xo pins s σ H x v Q I rx ⟨J, F, G, d, w, rel, rd, p⟩ => by
 cases d <;> first | exact p.elim | skip
 simp only [aG] at rd
 exact un_neg pins s σ H x v Q I rx ⟨_, rd, p J F H .refl rel _ (by simp [aG])⟩
end
def lM (d : D) (w : W) : Option Bool := match d with
 | .non => some false
 | .bl b => some b
 | .int i => some (i != 0)
 | .str x => if x.length ≤ sizeLine then some ((x.length : Int) != 0) else none
 | .tup xs => some (!xs.isEmpty)
 | .lst xs => some (!xs.isEmpty)
 | .mH xs => some (!xs.isEmpty)
 | .pW xs => some (!xs.isEmpty)
 | .ref i => (match w[i]? with
  | some (.lst xs) => some (!xs.isEmpty)
  | some (.dK kvs) => some (!kvs.isEmpty)
  | _ => none)
 | _ => none
theorem RepL.isEmpty {K : PySem.W.Frag} {I : List Addr} {F : Hp} {ds : List D} {vs : List V} (r : RepL K I F ds vs) : vs.isEmpty = ds.isEmpty := by
 cases ds with
 | nil => simp only [RepL] at r; subst r; rfl
 | cons d ds => simp only [RepL] at r; obtain ⟨v, t, rfl, _⟩ := r; rfl
theorem aP.isEmpty {κ : Type} {K : PySem.W.Frag} {I : List Addr} {F : Hp} {ds : List (κ × D)} {vs : List (κ × V)} (r : aP K I F ds vs) : vs.isEmpty = ds.isEmpty := by
 cases ds with
 | nil => simp only [aP] at r; subst r; rfl
 | cons d ds => obtain ⟨k, d⟩ := d; simp only [aP] at r; obtain ⟨v, t, rfl, _⟩ := r; rfl
theorem ZL {K : PySem.W.Frag} {I : List Addr} {F G H : Hp} {w : W} (rel : Rel K I F G w H) {d : D} {v : V} (h : aG K I F d v) {b : Bool} (e : lM d w = some b) : TruV K v H b := by
 cases d <;> simp only [aG] at h
 case non => subst h; simp only [lM, af] at e; exact e.symm
 case bl => subst h; simp only [lM, af] at e; exact e.symm
 case int => subst h; simp only [lM, af] at e; exact e.symm
 case str x =>
  subst h
  simp only [lM] at e
  split at e
  ·rename_i hl
   cases e; exact ⟨hl, rfl⟩
  ·cases e
 case ty => cases e
 case con => cases e
 case BV => cases e
 case tup xs =>
  obtain ⟨a, vs, rfl, h1, h2⟩ := h
  simp only [lM, af] at e
  exact .inr (.inl ⟨vs, .of (rel.fz _ _ h1), by rw [h2.isEmpty]; exact e.symm⟩)
 case pW xs =>
  obtain ⟨a, vs, rfl, h1, h2⟩ := h
  simp only [lM, af] at e
  exact .inr (.inl ⟨vs, rel.MD h1, by rw [h2.isEmpty]; exact e.symm⟩)
 case lst xs =>
  obtain ⟨a, vs, rfl, h1, h2⟩ := h
  simp only [lM, af] at e
  exact .inl ⟨vs, .of (rel.fz _ _ h1), by rw [h2.isEmpty]; exact e.symm⟩
 case mH xs =>
  obtain ⟨a, vs, rfl, h1, h2⟩ := h
  simp only [lM, af] at e
  exact .inl ⟨vs, rel.QJ h1, by rw [h2.isEmpty]; exact e.symm⟩
 case ref i =>
  obtain ⟨a, rfl, h1⟩ := h
  simp only [lM] at e
  split at e
  ·rename_i xs hw
   cases e
   obtain ⟨u, hu, vs, rfl, h2⟩ := rel.ob i a _ h1 hw
   exact .inl ⟨vs, .of hu, by rw [h2.isEmpty]⟩
  ·rename_i kvs hw
   cases e
   obtain ⟨u, hu, vs, rfl, h2⟩ := rel.ob i a _ h1 hw
   exact .inr (.inr ⟨vs, hu, by rw [h2.isEmpty]⟩)
  ·cases e
def eN (d : D) (w : W) : Res Bool := match lM d w with
 | some b => .ok b w
 | none => .bad
def eA (m : ME) : MT := fun σ w => (m σ w).bind eN
def fW (a b : MT) : MT := fun σ w => (a σ w).bind fun c w1 => if c = true then b σ w1 else .ok false w1
def fX (a b : MT) : MT := fun σ w => (a σ w).bind fun c w1 => if c = true then .ok true w1 else b σ w1
def cH (a : MT) : MT := fun σ w => (a σ w).bind fun c w1 => .ok (!c) w1
def fK (a b : ME) : ME := fun σ w => (a σ w).bind fun x w1 => (eN x w1).bind fun c _ => if c = true then b σ w1 else .ok x w1
def eOr (a b : ME) : ME := fun σ w => (a σ w).bind fun x w1 => (eN x w1).bind fun c _ => if c = true then .ok x w1 else b σ w1
def notM (x : D) (w : W) : Res D := (eN x w).bind fun c _ => .ok (.bl (!c)) w
def wW (t : MT) (a b : ME) : ME := fun σ w => (t σ w).bind fun c w1 => if c = true then a σ w1 else b σ w1
section
variable {S : aM} {pos : Pos} {a b c : Expr} {ma mb : ME} {ta tb : MT} {rest : List Expr}
theorem bR {α : Type} {K : PySem.W.Frag} {E : XK} {m : ME} {f : Sg → D → W → Res α} {I : List Addr} {F G H : Hp} {ds : Sg} {w : W} {σ : L2.St} {R : List Addr → Hp → Hp → α → W → Prop} (rel : Rel K I F G w H) (rs : e8 K I F ds σ)
  (p : a9 K I F G E R ((m ds w).bind (f ds))) {Q : VK} (k : ∀ I1 F1 H1 x w1 v, Ext I F I1 F1 → Rel K I1 F1 G w1 H1 → e8 K I1 F1 ds σ → aG K I1 F1 x v → a9 K I1 F1 G E R (f ds x w1) → Q v H1) : sC K E m σ H Q :=
 ⟨I, F, G, ds, w, rel, rs, (a9.bind p).mono fun I1 F1 H1 x w1 _ e1 rel1 p1 v rv => k I1 F1 H1 x w1 v e1 rel1 (rs.ext e1) rv p1⟩
theorem oG {α : Type} {K : PySem.W.Frag} {E : XK} {m : MT} {f : Sg → Bool → W → Res α} {I : List Addr} {F G H : Hp} {ds : Sg} {w : W} {σ : L2.St} {R : List Addr → Hp → Hp → α → W → Prop} (rel : Rel K I F G w H) (rs : e8 K I F ds σ)
  (p : a9 K I F G E R ((m ds w).bind (f ds))) {Q : Bool → Hp → Prop} (k : ∀ I1 F1 H1 c w1, Ext I F I1 F1 → Rel K I1 F1 G w1 H1 → e8 K I1 F1 ds σ → a9 K I1 F1 G E R (f ds c w1) → Q c H1) : V8 K E m σ H Q :=
 ⟨I, F, G, ds, w, rel, rs, (a9.bind p).mono fun I1 F1 H1 x w1 _ e1 rel1 p1 => k I1 F1 H1 x w1 e1 rel1 (rs.ext e1) p1⟩
theorem cQ {α : Type} {K : PySem.W.Frag} {E : XK} {m : MA} {f : Sg → List D → W → Res α} {I : List Addr} {F G H : Hp} {ds : Sg} {w : W} {σ : L2.St} {R : List Addr → Hp → Hp → α → W → Prop} (rel : Rel K I F G w H) (rs : e8 K I F ds σ)
  (p : a9 K I F G E R ((m ds w).bind (f ds))) {Q : List V → Hp → Prop} (k : ∀ I1 F1 H1 xs w1 vs, Ext I F I1 F1 → Rel K I1 F1 G w1 H1 → e8 K I1 F1 ds σ → RepL K I1 F1 xs vs → a9 K I1 F1 G E R (f ds xs w1) → Q vs H1) : XC K E m σ H Q :=
 ⟨I, F, G, ds, w, rel, rs, (a9.bind p).mono fun I1 F1 H1 x w1 _ e1 rel1 p1 v rv => k I1 F1 H1 x w1 v e1 rel1 (rs.ext e1) rv p1⟩
theorem a9.nE {K : PySem.W.Frag} {I : List Addr} {F G H : Hp} {E : XK} {Q : VK} {d : D} {w : W} (p : a9 K I F G E (RV K Q) (.ok d w)) (rel : Rel K I F G w H) {v : V} (h : aG K I F d v) : Q v H := p I F H .refl rel v h
theorem a9.okB {K : PySem.W.Frag} {I : List Addr} {F G H : Hp} {E : XK} {Q : Bool → Hp → Prop} {b : Bool} {w : W} (p : a9 K I F G E (RB Q) (.ok b w)) (rel : Rel K I F G w H) : Q b H := p I F H .refl rel
theorem a9.truth {α : Type} {K : PySem.W.Frag} {I : List Addr} {F G H : Hp} {E : XK} {R : List Addr → Hp → Hp → α → W → Prop} {d : D} {w : W} {v : V} {f : Bool → W → Res α} (p : a9 K I F G E R ((eN d w).bind f)) (rel : Rel K I F G w H) (h : aG K I F d v) :
  ∃ b, TruV K v H b ∧ a9 K I F G E R (f b w) := by
 unfold eN at p
 split at p
 ·rename_i b e
  exact ⟨b, ZL rel h e, p⟩
 ·exact p.elim
theorem fE (ha : JE S a ma) (he : ∀ (env : Env) (whole : Sem Value), isTrue a env whole = (do let v ← whole; standAt a.pos; holding [v] (truthy v)) := by intro _ _; rfl) : JT S a (eA ma) := fun X E cx xo =>
 zK (pt_truth (ha X E cx xo) (he X.env)) fun σ H Q ⟨I, F, G, ds, w, rel, rs, p⟩ => bR (f := fun _ => eN) rel rs p fun I1 F1 H1 x w1 v e1 rel1 rs1 rv p1 => by
  have p2 : a9 X.K I1 F1 G E (RB Q) ((eN x w1).bind fun b w => .ok b w) := by
   cases h : eN x w1 <;> rw [h] at p1 <;> exact p1
  obtain ⟨b, hb, p3⟩ := p2.truth rel1 rv
  exact ⟨b, hb, p3.okB rel1⟩
theorem SR (h : JW S a ta) : JT S a ta := fun X E cx xo => (h X E cx xo).pt
theorem Y7 (ha : JT S a ta) : JW S (.BoolOp .And [a] pos) ta := fun X E cx xo => pw_and1 (ha X E cx xo)
theorem CV (ha : JT S a ta) : JW S (.BoolOp .Or [a] pos) ta := fun X E cx xo => pw_or1 (ha X E cx xo)
theorem U7 (ha : JT S a ta) (hb : JW S (.BoolOp .And (b :: rest) pos) tb) : JW S (.BoolOp .And (a :: b :: rest) pos) (fW ta tb) := fun X E cx xo =>
 RD (pw_and (ha X E cx xo) (hb X E cx xo)) fun σ H Q ⟨I, F, G, ds, w, rel, rs, p⟩ => oG (f := fun ds c w1 => if c = true then tb ds w1 else .ok false w1) rel rs p fun I1 F1 H1 c w1 e1 rel1 rs1 p1 => by
  cases c with
  | true => exact ⟨I1, F1, G, ds, w1, rel1, rs1, p1⟩
  | false => exact p1.okB rel1
theorem vO (ha : JT S a ta) (hb : JW S (.BoolOp .Or (b :: rest) pos) tb) : JW S (.BoolOp .Or (a :: b :: rest) pos) (fX ta tb) := fun X E cx xo =>
 RD (pw_or (ha X E cx xo) (hb X E cx xo)) fun σ H Q ⟨I, F, G, ds, w, rel, rs, p⟩ => oG (f := fun ds c w1 => if c = true then .ok true w1 else tb ds w1) rel rs p fun I1 F1 H1 c w1 e1 rel1 rs1 p1 => by
  cases c with
  | true => exact p1.okB rel1
  | false => exact ⟨I1, F1, G, ds, w1, rel1, rs1, p1⟩
theorem mG (ha : JT S a ta) : JT S (.UnaryOp .Not a pos) (cH ta) := fun X E cx xo =>
 zK (pt_not (ha X E cx xo)) fun σ H Q ⟨I, F, G, ds, w, rel, rs, p⟩ => oG (f := fun _ c w1 => .ok (!c) w1) rel rs p fun I1 F1 H1 c w1 e1 rel1 rs1 p1 => p1.okB rel1
theorem o8 {op : BoolOp} (h : JE S a ma) : JE S (.BoolOp op [a] pos) ma := fun X E cx xo => pe_one (h X E cx xo)
theorem mF (ha : JE S a ma) (hb : JE S (.BoolOp .And (b :: rest) pos) mb) : JE S (.BoolOp .And (a :: b :: rest) pos) (fK ma mb) := fun X E cx xo =>
 b6 (pe_andT (ha X E cx xo) (hb X E cx xo)) fun σ H Q ⟨I, F, G, ds, w, rel, rs, p⟩ => bR (f := fun ds x w1 => (eN x w1).bind fun c _ => if c = true then mb ds w1 else .ok x w1) rel rs p fun I1 F1 H1 x w1 v e1 rel1 rs1 rv p1 => by
  obtain ⟨k, hk, p2⟩ := p1.truth rel1 rv
  refine ⟨k, hk, ?_⟩
  cases k with
  | true => exact ⟨I1, F1, G, ds, w1, rel1, rs1, p2⟩
  | false => exact p2.nE rel1 rv
theorem aCA (ha : JE S a ma) (hb : JE S (.BoolOp .Or (b :: rest) pos) mb) : JE S (.BoolOp .Or (a :: b :: rest) pos) (eOr ma mb) := fun X E cx xo =>
 b6 (pe_orT (ha X E cx xo) (hb X E cx xo)) fun σ H Q ⟨I, F, G, ds, w, rel, rs, p⟩ => bR (f := fun ds x w1 => (eN x w1).bind fun c _ => if c = true then .ok x w1 else mb ds w1) rel rs p fun I1 F1 H1 x w1 v e1 rel1 rs1 rv p1 => by
  obtain ⟨k, hk, p2⟩ := p1.truth rel1 rv
  refine ⟨k, hk, ?_⟩
  cases k with
  | true => exact p2.nE rel1 rv
  | false => exact ⟨I1, F1, G, ds, w1, rel1, rs1, p2⟩
theorem aAr (ha : JE S a ma) : JE S (.UnaryOp .Not a pos) (zN notM ma) := fun X E cx xo =>
 b6 (pe_notT (ha X E cx xo)) fun σ H Q ⟨I, F, G, ds, w, rel, rs, p⟩ => bR (f := fun _ => notM) rel rs p fun I1 F1 H1 x w1 v e1 rel1 rs1 rv p1 => by
  obtain ⟨k, hk, p2⟩ := a9.truth p1 rel1 rv
  exact ⟨k, hk, p2.nE rel1 (by simp [aG])⟩
theorem uP (ht : JT S c ta) (ha : JE S a ma) (hb : JE S b mb) : JE S (.IfExp c a b pos) (wW ta ma mb) := fun X E cx xo =>
 b6 (pe_ifExp (ht X E cx xo) (ha X E cx xo) (hb X E cx xo)) fun σ H Q ⟨I, F, G, ds, w, rel, rs, p⟩ => oG (f := fun ds c w1 => if c = true then ma ds w1 else mb ds w1) rel rs p fun I1 F1 H1 c w1 e1 rel1 rs1 p1 => by
  cases c with
  | true => exact ⟨I1, F1, G, ds, w1, rel1, rs1, p1⟩
  | false => exact ⟨I1, F1, G, ds, w1, rel1, rs1, p1⟩
end
def aC : MA := fun _ w => .ok [] w
def aA (a : ME) (r : MA) : MA := fun σ w => (a σ w).bind fun x w1 => (r σ w1).bind fun xs w2 => .ok (x :: xs) w2
def a8 (a : MA) : ME := fun σ w => (a σ w).bind fun xs w1 => if xs.length ≤ sizeLine then .ok (.tup xs) w1 else .bad
def i3 (a : MA) : ME := fun σ w => (a σ w).bind fun xs w1 => if xs.length ≤ sizeLine then .ok (.lst xs) w1 else .bad
def eNew (a : MA) : ME := fun σ w => (a σ w).bind fun xs w1 => if xs.length ≤ sizeLine then .ok (.ref w1.length) (w1 ++ [.lst xs]) else .bad
theorem P7 {K : PySem.W.Frag} {I : List Addr} {F G H : Hp} {E : XK} {w : W} {o : MO} {u : HO} {Q : VK} (rel : Rel K I F G w H) (r : mJ K I F o u) (p : a9 K I F G E (RV K Q) (.ok (.ref w.length) (w ++ [o]))) : ∀ q, H q = none → Q (.ref q) (upd H q u) := fun q hq => by
 have hF : F q = none := by
  cases h : F q with
  | none => rfl
  | some u => rw [rel.fz _ _ h] at hq; cases hq
 have hI : q ∉ I := fun z => by
  obtain ⟨i, hi⟩ := List.mem_iff_getElem?.mp z
  have hl : i < w.length := by rw [← rel.len]; exact (ak.mp hi).1
  obtain ⟨u, h3, _⟩ := rel.ob i q _ hi (bf hl)
  rw [h3] at hq; cases hq
 have e : Ext I F (I ++ [q]) F := ⟨List.prefix_append _ _, fun _ _ h => h⟩
 refine p (I ++ [q]) F (upd H q u) e ⟨by simp [rel.len], ?_, fun i a o' h1 h2 => ?_, fun a u' h => ?_, fun i a o' h h0 hf => ?_, fun a u' h => ?_, fun a u' h => ?_, rel.gt⟩ _ ?_
 ·rw [List.nodup_append]
  exact ⟨rel.nd, by simp, fun a ha b hb => by simp at hb; subst hb; exact fun z => hI (z ▸ ha)⟩
 ·by_cases hi : i < I.length
  ·rw [aw hi] at h1
   rw [aw (by rw [← rel.len]; exact hi)] at h2
   obtain ⟨u', h3, h4⟩ := rel.ob i a o' h1 h2
   exact ⟨u', by rw [upd_ne (ne_of_none h3 hq)]; exact h3, mJ.ext e h4⟩
  ·have hi2 : i = I.length := by
    have := (ak.mp h1).1
    simp at this; omega
   subst hi2
   rw [bp (az _)] at h1
   simp at h1
   rw [rel.len, bp (az _)] at h2
   simp at h2
   subst h1 h2
   exact ⟨u, upd_same, mJ.ext e r⟩
 ·rw [upd_ne (ne_of_none h hF)]; exact rel.fz a u' h
 ·by_cases hi : i < I.length
  ·rw [aw hi] at h
   rw [aw (by rw [← rel.len]; exact hi)] at h0
   exact rel.ap i a o' h h0 hf
  ·have hi2 : i = I.length := by
    have := (ak.mp h).1
    simp at this; omega
   subst hi2
   rw [bp (az _)] at h
   simp at h
   subst h; exact hF
 ·rw [upd_ne (ne_of_none (rel.gz a u' h) hq)]; exact rel.gz a u' h
 ·refine ⟨(rel.gf a u' h).1, fun z => ?_⟩
  rcases bq.mp z with z | z
  ·exact (rel.gf a u' h).2 z
  ·simp at z; subst z; rw [rel.gz a u' h] at hq; cases hq
 ·simp only [aG]
  refine ⟨q, rfl, ?_⟩
  rw [← rel.len, bp (az _)]
  simp
section
variable {S : aM} {pos : Pos} {e : Expr} {es : List Expr} {m : ME} {ma : MA}
theorem aF : JA S [] aC := fun X E cx xo => QM pa_nil fun σ H Q ⟨I, F, G, ds, w, rel, rs, p⟩ => p I F H .refl rel [] (by simp [RepL])
theorem aE (he : JE S e m) (hr : JA S es ma) (hs : ∀ env : Env, starEach (e :: es) env = (false, eval e env) :: starEach es env := by intro _; rfl) : JA S (e :: es) (aA m ma) := fun X E cx xo =>
 QM (pa_cons (he X E cx xo) (hr X E cx xo) (hs X.env)) fun σ H Q ⟨I, F, G, ds, w, rel, rs, p⟩ =>
  bR (f := fun ds x w1 => (ma ds w1).bind fun xs w2 => .ok (x :: xs) w2) rel rs p fun I1 F1 H1 x w1 v e1 rel1 rs1 rv p1 =>
   cQ (f := fun _ xs w2 => .ok (x :: xs) w2) rel1 rs1 p1 fun I2 F2 H2 xs w2 vs e2 rel2 rs2 rvs p2 => p2 I2 F2 H2 .refl rel2 _ (RepL.cons (aG.ext e2 _ _ rv) rvs)
theorem bZ {k : Nat} (h : JA S es ma) : JE S (.Tuple es k pos) (a8 ma) := fun X E cx xo =>
 b6 (pe_tup (h X E cx xo)) fun σ H Q ⟨I, F, G, ds, w, rel, rs, p⟩ =>
  cQ (f := fun _ xs w1 => if xs.length ≤ sizeLine then Res.ok (D.tup xs) w1 else .bad) rel rs p fun I1 F1 H1 xs w1 vs e1 rel1 rs1 rvs p1 => by
   split at p1
   ·rename_i hl
    exact ⟨by rw [← rvs.length]; exact hl, u9 rel1 rvs p1⟩
   ·exact p1.elim
theorem kN (h : JA S es ma) : JE S (.List es pos) (i3 ma) := fun X E cx xo =>
 b6 (pe_lst (h X E cx xo)) fun σ H Q ⟨I, F, G, ds, w, rel, rs, p⟩ =>
  cQ (f := fun _ xs w1 => if xs.length ≤ sizeLine then Res.ok (D.lst xs) w1 else .bad) rel rs p fun I1 F1 H1 xs w1 vs e1 rel1 rs1 rvs p1 => by
   split at p1
   ·rename_i hl
    exact ⟨by rw [← rvs.length]; exact hl, iQ rel1 rvs p1⟩
   ·exact p1.elim
theorem WJ (h : JA S es ma) : JE S (.List es pos) (eNew ma) := fun X E cx xo =>
 b6 (pe_lst (h X E cx xo)) fun σ H Q ⟨I, F, G, ds, w, rel, rs, p⟩ =>
  cQ (f := fun _ xs w1 => if xs.length ≤ sizeLine then Res.ok (D.ref w1.length) (w1 ++ [.lst xs]) else .bad) rel rs p fun I1 F1 H1 xs w1 vs e1 rel1 rs1 rvs p1 => by
   split at p1
   ·rename_i hl
    exact ⟨by rw [← rvs.length]; exact hl, P7 (o := .lst xs) rel1 ⟨vs, rfl, rvs⟩ p1⟩
   ·exact p1.elim
end
def aV : MS := fun σ w => .ok (.nx σ) w
def aJ (a b : MS) : MS := fun σ w => (a σ w).bind fun f w1 => match f with
 | .nx σ1 => b σ1 w1
 | f => .ok f w1
def aQ (e : ME) : MS := fun σ w => (e σ w).bind fun d w1 => .ok (.rt d) w1
def cF (e : ME) : MS := fun σ w => (e σ w).bind fun _ w1 => .ok (.nx σ) w1
def cO (t : MT) (a b : MS) : MS := fun σ w => (t σ w).bind fun c w1 => if c = true then a σ w1 else b σ w1
abbrev MG := D → Sg → W → Res Sg
def aN (i : Nat) : MG := fun d σ w => .ok (σ.set i (some d)) w
def aO (e : ME) (g : MG) : MS := fun σ w => (e σ w).bind fun d w1 => (g d σ w1).bind fun σ2 w2 => .ok (.nx σ2) w2
def L4 : MS := fun _ _ => .bad
def RSg (K : PySem.W.Frag) (Q : L2.St → Hp → Prop) : List Addr → Hp → Hp → Sg → W → Prop := fun I' F' H' s _ => ∀ s', e8 K I' F' s s' → Q s' H'
def lowG (K : PySem.W.Frag) (E : XK) (g : MG) : TG := fun v σ H Q => ∃ I F G d ds w, Rel K I F G w H ∧ e8 K I F ds σ ∧ aG K I F d v ∧ a9 K I F G E (RSg K Q) (g d ds w)
def JG (S : aM) (t : Expr) (g : MG) : Prop := ∀ X E, Ctx S X → pX X E → PG X t (lowG X.K E g)
theorem oW {X : Cx} {e : Expr} {t t' : TG} (h : PG X e t) (k : ∀ v σ H Q, t' v σ H Q → t v σ H Q) : PG X e t' := ⟨fun pins s σ H v u Q I r q => h.run pins s σ H v u Q I r (k v σ H Q q)⟩
section
variable {S : aM} {pos pos' : Pos} {e : Expr} {st : Stmt} {sts : List Stmt} {m : ME} {a b : MS} {g : MG} {t : MT}
theorem c5 : nU S [] aV := fun X E cx xo => LA pss_nil fun Z σ H ⟨I, F, G, ds, w, rel, rs, p⟩ => p I F H .refl rel _ rs
theorem VE {K : PySem.W.Frag} {E : XK} {Z : Ends} {σ : L2.St} {H : Hp} (h : LD K E (aJ a b) Z σ H) : LD K E a { Z with nx := LD K E b Z } σ H := by
 obtain ⟨I, F, G, ds, w, rel, rs, p⟩ := h
 refine ⟨I, F, G, ds, w, rel, rs, (a9.bind p).mono fun I1 F1 H1 f w1 _ e1 rel1 p1 => ?_⟩
 cases f with
 | nx s => exact fun s' rs' => ⟨I1, F1, G, s, w1, rel1, rs', p1⟩
 | rt d => exact fun v rv => p1 I1 F1 H1 .refl rel1 v rv
 | bk s => exact fun s' rs' => p1 I1 F1 H1 .refl rel1 s' rs'
 | ct s => exact fun s' rs' => p1 I1 F1 H1 .refl rel1 s' rs'
theorem aR (h1 : JS S st a) (h2 : nU S sts b) : nU S (st :: sts) (aJ a b) := fun X E cx xo =>
 LA (pss_cons (h1 X E cx xo) (h2 X E cx xo)) fun Z σ H h => VE h
theorem aW (h1 : JS S st a) : nU S [st] a := fun X E cx xo => pss_one (h1 X E cx xo)
theorem bG (he : JE S e m) : JS S (.Return (some e) pos) (aQ m) := fun X E cx xo =>
 kU (ps_ret (he X E cx xo)) fun Z σ H ⟨I, F, G, ds, w, rel, rs, p⟩ => bR (f := fun _ d w1 => Res.ok (Fl.rt d) w1) rel rs p fun I1 F1 H1 x w1 v e1 rel1 rs1 rv p1 => p1 I1 F1 H1 .refl rel1 v rv
theorem G5 (he : JE S e m) (hs : ∀ env : Env, swapsWith e none pos.line env = pure false := by intro _; rfl) : JS S (.Expr e pos) (cF m) := fun X E cx xo =>
 kU (ps_expr (he X E cx xo) (hs X.env)) fun Z σ H ⟨I, F, G, ds, w, rel, rs, p⟩ => bR (f := fun ds _ w1 => Res.ok (Fl.nx ds) w1) rel rs p fun I1 F1 H1 x w1 v e1 rel1 rs1 rv p1 => p1 I1 F1 H1 .refl rel1 σ rs1
theorem gS {x : Expr} {sa sb : List Stmt} (ht : JT S x t) (ha : nU S sa a) (hb : nU S sb b) : JS S (.If x sa sb pos) (cO t a b) := fun X E cx xo =>
 kU (ps_if (ht X E cx xo) (ha X E cx xo) (hb X E cx xo)) fun Z σ H ⟨I, F, G, ds, w, rel, rs, p⟩ => oG (f := fun ds c w1 => if c = true then a ds w1 else b ds w1) rel rs p fun I1 F1 H1 c w1 e1 rel1 rs1 p1 => by
  cases c with
  | true => exact ⟨I1, F1, G, ds, w1, rel1, rs1, p1⟩
  | false => exact ⟨I1, F1, G, ds, w1, rel1, rs1, p1⟩
theorem TZ : JS S st L4 := fun X E cx xo => kU ps_never fun Z σ H ⟨I, F, G, ds, w, rel, rs, p⟩ => p.elim
def Sto (S : aM) (x : Str) : Prop := Loc S.sc x ∧ (S.fn x = true ∨ S.sc.names.lookup x = some .local)
theorem YZ {i : Nat} {x : Str} (hi : S.N[i]? = some x) (hx : Sto S x) : JG S (.Name x pos) (aN i) := fun X E cx xo =>
 oW (pg_name (i := i) (x := x) cx.nd (by rw [cx.N]; exact hi) (by rw [cx.sc]; exact hx.1) (by rw [cx.sc]; exact hx.2.imp (cx.fn x) id)) fun v σ H Q ⟨I, F, G, d, ds, w, rel, rs, rv, p⟩ => p I F H .refl rel _ (rs.set i rv)
theorem YL {K : PySem.W.Frag} {E : XK} {Z : Ends} {σ : L2.St} {H : Hp} (h : LD K E (aO m g) Z σ H) : sC K E m σ H fun v H1 => lowG K E g v σ H1 Z.nx := by
 obtain ⟨I, F, G, ds, w, rel, rs, p⟩ := h
 exact bR (f := fun ds d w1 => (g d ds w1).bind fun σ2 w2 => Res.ok (Fl.nx σ2) w2) rel rs p fun I1 F1 H1 x w1 v e1 rel1 rs1 rv p1 =>
  ⟨I1, F1, G, x, ds, w1, rel1, rs1, rv, (a9.bind p1).mono fun I2 F2 H2 s w2 _ e2 rel2 p2 s' rs2 => p2 I2 F2 H2 .refl rel2 s' rs2⟩
theorem aAL {i : Nat} {x : Str} (hi : S.N[i]? = some x) (hx : Sto S x) (he : JE S e m) (hs : ∀ env : Env, swapsWith e (some (.Name x pos')) pos.line env = pure false := by intro _; rfl) : JS S (.Assign [.Name x pos'] e pos) (aO m (aN i)) := fun X E cx xo =>
 kU (ps_set (i := i) (x := x) cx.nd (by rw [cx.N]; exact hi) (by rw [cx.sc]; exact hx.1) (he X E cx xo) (hs X.env) (by rw [cx.sc]; exact hx.2.imp (cx.fn x) id)) fun Z σ H ⟨I, F, G, ds, w, rel, rs, p⟩ =>
  bR (f := fun ds d w1 => (aN i d ds w1).bind fun σ2 w2 => Res.ok (Fl.nx σ2) w2) rel rs p fun I1 F1 H1 x w1 v e1 rel1 rs1 rv p1 => p1 I1 F1 H1 .refl rel1 _ (rs1.set i rv)
theorem tF {tg : Expr} (he : JE S e m) (hg : JG S tg g) (hs : ∀ env : Env, swapsWithSole [tg] e pos.line env = pure false := by intro _; rfl) (hw : ∀ env : Env, swappedStores [tg] e env = pure none := by intro _; rfl)
  (h1 : ∀ env : Env, (assignEach [tg] env).map (·.2) = [assign tg env] := by intro _; rfl) : JS S (.Assign [tg] e pos) (aO m g) := fun X E cx xo =>
 kU (ps_asg (he X E cx xo) (hg X E cx xo) (hs X.env) (hw X.env) (h1 X.env)) fun Z σ H h => YL h
end
abbrev IV := List D → Sg → W → Res Sg
def bD : IV := fun ds σ w => match ds with
 | [] => .ok σ w
 | _ => .bad
def aH (g : MG) (r : IV) : IV := fun ds σ w => match ds with
 | d :: ds => (g d σ w).bind fun σ1 w1 => r ds σ1 w1
 | [] => .bad
def bJ (n : Nat) (r : IV) : MG := fun d σ w => match d with
 | .tup xs => if xs.length = n then r xs σ w else .bad
 | .pW xs => if xs.length = n then r xs σ w else .bad
 | _ => .bad
def aCQ (K : PySem.W.Frag) (E : XK) (g : IV) : TGs := fun vs σ H Q => ∃ I F G xs ds w, Rel K I F G w H ∧ e8 K I F ds σ ∧ RepL K I F xs vs ∧ a9 K I F G E (RSg K Q) (g xs ds w)
def JGs (S : aM) (ts : List Expr) (g : IV) : Prop := ∀ X E, Ctx S X → pX X E → PGs X ts (aCQ X.K E g)
theorem p9 {X : Cx} {e : List Expr} {t t' : TGs} (h : PGs X e t) (k : ∀ v σ H Q, t' v σ H Q → t v σ H Q) : PGs X e t' := ⟨fun pins s σ H v u Q I r q => h.run pins s σ H v u Q I r (k v σ H Q q)⟩
section
variable {S : aM} {pos pos' : Pos} {e : Expr} {es : List Expr} {g : MG} {r : IV}
theorem t8 : JGs S [] bD := fun X E cx xo => p9 pgs_nil fun vs σ H Q ⟨I, F, G, xs, ds, w, rel, rs, rv, p⟩ => by
 cases xs with
 | nil =>
  simp only [RepL] at rv
  exact ⟨rv, p I F H .refl rel _ rs⟩
 | cons => exact p.elim
theorem dR (h1 : JG S e g) (h2 : JGs S es r) (hs : ∀ env : Env, (assignEach (e :: es) env).map (·.2) = assign e env :: (assignEach es env).map (·.2) := by intro _; rfl) : JGs S (e :: es) (aH g r) := fun X E cx xo =>
 p9 (pgs_cons (h1 X E cx xo) (h2 X E cx xo) (hs X.env)) fun vs σ H Q ⟨I, F, G, xs, ds, w, rel, rs, rv, p⟩ => by
  cases xs with
  | nil => exact p.elim
  | cons x xs =>
   simp only [RepL] at rv
   obtain ⟨v, t, rfl, rv1, rvs⟩ := rv
   exact ⟨v, t, rfl, I, F, G, x, ds, w, rel, rs, rv1, (a9.bind p).mono fun I1 F1 H1 s w1 _ e1 rel1 p1 s' rs1 => ⟨I1, F1, G, xs, s, w1, rel1, rs1, RepL.ext e1 _ _ rvs, p1⟩⟩
theorem BP {k n : Nat} (h : JGs S es r) (hn : ∀ env : Env, (assignEach es env).length = n := by intro _; rfl) (hst : ∀ env : Env, (assignEach es env).findIdx? (·.1) = none := by intro _; rfl) : JG S (.Tuple es k pos) (bJ n r) := fun X E cx xo =>
 oW (pg_tup cx.calm (h X E cx xo) (hn X.env) (hst X.env)) fun v σ H Q ⟨I, F, G, d, ds, w, rel, rs, rv, p⟩ => by
  cases d <;> first | exact p.elim | skip
  all_goals
   rename_i xs
   simp only [aG] at rv
   obtain ⟨a, vs, rfl, h1, h2⟩ := rv
   simp only [bJ] at p
   split at p
   ·rename_i hl
    exact ⟨a, vs, rfl, (by first | exact .of (rel.fz _ _ h1) | exact rel.MD h1), by rw [← h2.length]; exact hl, I, F, G, xs, ds, w, rel, rs, h2, p⟩
   ·exact p.elim
end
mutual
def D.cl (n : Nat) : D → Bool
 | .tup xs => D.cls n xs
 | .lst xs => D.cls n xs
 | .mH xs => D.cls n xs
 | .pW xs => D.cls n xs
 | .BV ks xs => D.cls n ks && D.cls n xs
 | .ref i => decide (i < n)
 | .non => true
 | .bl _ => true
 | .int _ => true
 | .str _ => true
 | .ty _ => true
 | .con _ => true
def D.cls (n : Nat) : List D → Bool
 | [] => true
 | d :: ds => D.cl n d && D.cls n ds
end
def MO.cl (n : Nat) : MO → Bool
 | .lst xs => D.cls n xs
 | .dK kvs => D.cls n (kvs.map (·.2))
 | .dT kvs => D.cls n (kvs.map (·.2))
 | .dF kvs => D.cls n (kvs.map (·.2))
 | .dG kvs => D.cls n (kvs.map (·.2))
 | .ins _ fs => D.cls n (fs.map (·.2))
section
variable {K : PySem.W.Frag} {I : List Addr} {F : Hp} {n : Nat}
theorem TB {n i : Nat} {a : Addr} (h : I[i]? = some a) (hi : i < n) : (I.take n)[i]? = some a := by
 rw [List.getElem?_take_of_lt hi]; exact h
mutual
theorem aG.cut : ∀ (d : D) (v : V), aG K I F d v → d.cl n = true → aG K (I.take n) F d v
 | .non, _, h, _ => by simpa only [aG] using h
 | .bl _, _, h, _ => by simpa only [aG] using h
 | .int _, _, h, _ => by simpa only [aG] using h
 | .str _, _, h, _ => by simpa only [aG] using h
 | .ty _, _, h, _ => by simpa only [aG] using h
 | .con _, _, h, _ => by simpa only [aG] using h
 | .tup xs, v, h, c => by
  simp only [aG, D.cl] at h c ⊢
  obtain ⟨a, vs, h1, h2, h3⟩ := h
  exact ⟨a, vs, h1, h2, RepL.cut xs vs h3 c⟩
 | .lst xs, v, h, c => by
  simp only [aG, D.cl] at h c ⊢
  obtain ⟨a, vs, h1, h2, h3⟩ := h
  exact ⟨a, vs, h1, h2, RepL.cut xs vs h3 c⟩
 | .mH xs, v, h, c => by
  simp only [aG, D.cl] at h c ⊢
  obtain ⟨a, vs, h1, h2, h3⟩ := h
  exact ⟨a, vs, h1, h2, RepL.cut xs vs h3 c⟩
 | .pW xs, v, h, c => by
  simp only [aG, D.cl] at h c ⊢
  obtain ⟨a, vs, h1, h2, h3⟩ := h
  exact ⟨a, vs, h1, h2, RepL.cut xs vs h3 c⟩
 | .BV ks xs, v, h, c => by
  simp only [aG, D.cl, ag] at h c ⊢
  obtain ⟨a, kvs, h1, h2, h3, h4⟩ := h
  exact ⟨a, kvs, h1, h2, RepL.cut ks _ h3 c.1, RepL.cut xs _ h4 c.2⟩
 | .ref i, v, h, c => by
  simp only [aG, D.cl, ai] at h c ⊢
  obtain ⟨a, h1, h2⟩ := h
  exact ⟨a, h1, TB h2 c⟩
theorem RepL.cut : ∀ (ds : List D) (vs : List V), RepL K I F ds vs → D.cls n ds = true → RepL K (I.take n) F ds vs
 | [], _, h, _ => by simpa only [RepL] using h
 | d :: ds, vs, h, c => by
  simp only [RepL, D.cls, ag] at h c ⊢
  obtain ⟨v, r, h1, h2, h3⟩ := h
  exact ⟨v, r, h1, aG.cut d v h2 c.1, RepL.cut ds r h3 c.2⟩
end
theorem aP.cut {κ : Type} : ∀ (ds : List (κ × D)) (vs : List (κ × V)), aP K I F ds vs → D.cls n (ds.map (·.2)) = true → aP K (I.take n) F ds vs
 | [], _, h, _ => by simpa only [aP] using h
 | (k, d) :: ds, vs, h, c => by
  simp only [aP, List.map_cons, D.cls, ag] at h c ⊢
  obtain ⟨v, r, h1, h2, h3⟩ := h
  exact ⟨v, r, h1, aG.cut d v h2 c.1, aP.cut ds r h3 c.2⟩
theorem mJ.cut {o : MO} {u : HO} (h : mJ K I F o u) (c : o.cl n = true) : mJ K (I.take n) F o u := by
 cases o with
 | lst xs => obtain ⟨vs, h1, h2⟩ := h; exact ⟨vs, h1, RepL.cut _ _ h2 c⟩
 | dK xs => obtain ⟨vs, h1, h2⟩ := h; exact ⟨vs, h1, aP.cut _ _ h2 c⟩
 | dT xs => obtain ⟨vs, h1, h2⟩ := h; exact ⟨vs, h1, aP.cut _ _ h2 c⟩
 | dF xs => obtain ⟨o, vs, h1, h2⟩ := h; exact ⟨o, vs, h1, aP.cut _ _ h2 c⟩
 | dG xs => obtain ⟨o, vs, h1, h2⟩ := h; exact ⟨o, vs, h1, aP.cut _ _ h2 c⟩
 | ins C xs => obtain ⟨dx, vs, h1, h2⟩ := h; exact ⟨dx, vs, h1, aP.cut _ _ h2 c⟩
mutual
theorem aG.cl : ∀ (d : D) (v : V), aG K I F d v → I.length ≤ n → d.cl n = true
 | .non, _, _, _ => by simp [D.cl]
 | .bl _, _, _, _ => by simp [D.cl]
 | .int _, _, _, _ => by simp [D.cl]
 | .str _, _, _, _ => by simp [D.cl]
 | .ty _, _, _, _ => by simp [D.cl]
 | .con _, _, _, _ => by simp [D.cl]
 | .tup xs, v, h, l => by
  simp only [aG, D.cl] at h ⊢
  obtain ⟨a, vs, h1, h2, h3⟩ := h
  exact RepL.cl xs vs h3 l
 | .lst xs, v, h, l => by
  simp only [aG, D.cl] at h ⊢
  obtain ⟨a, vs, h1, h2, h3⟩ := h
  exact RepL.cl xs vs h3 l
 | .mH xs, v, h, l => by
  simp only [aG, D.cl] at h ⊢
  obtain ⟨a, vs, h1, h2, h3⟩ := h
  exact RepL.cl xs vs h3 l
 | .pW xs, v, h, l => by
  simp only [aG, D.cl] at h ⊢
  obtain ⟨a, vs, h1, h2, h3⟩ := h
  exact RepL.cl xs vs h3 l
 | .BV ks xs, v, h, l => by
  simp only [aG, D.cl, ag] at h ⊢
  obtain ⟨a, kvs, h1, h2, h3, h4⟩ := h
  exact ⟨RepL.cl ks _ h3 l, RepL.cl xs _ h4 l⟩
 | .ref i, v, h, l => by
  simp only [aG, D.cl, ai] at h ⊢
  obtain ⟨a, h1, h2⟩ := h
  have := (ak.mp h2).1
  omega
theorem RepL.cl : ∀ (ds : List D) (vs : List V), RepL K I F ds vs → I.length ≤ n → D.cls n ds = true
 | [], _, _, _ => by simp [D.cls]
 | d :: ds, vs, h, l => by
  simp only [RepL, D.cls, ag] at h ⊢
  obtain ⟨v, r, h1, h2, h3⟩ := h
  exact ⟨aG.cl d v h2 l, RepL.cl ds r h3 l⟩
end
theorem aP.cl {κ : Type} : ∀ (ds : List (κ × D)) (vs : List (κ × V)), aP K I F ds vs → I.length ≤ n → D.cls n (ds.map (·.2)) = true
 | [], _, _, _ => by simp [D.cls]
 | (k, d) :: ds, vs, h, l => by
  simp only [aP, List.map_cons, D.cls, ag] at h ⊢
  obtain ⟨v, r, h1, h2, h3⟩ := h
  exact ⟨aG.cl d v h2 l, aP.cl ds r h3 l⟩
theorem mJ.cl {o : MO} {u : HO} (h : mJ K I F o u) (l : I.length ≤ n) : o.cl n = true := by
 cases o with
 | lst xs => obtain ⟨vs, h1, h2⟩ := h; exact RepL.cl _ _ h2 l
 | dK xs => obtain ⟨vs, h1, h2⟩ := h; exact aP.cl _ _ h2 l
 | dT xs => obtain ⟨vs, h1, h2⟩ := h; exact aP.cl _ _ h2 l
 | dF xs => obtain ⟨o, vs, h1, h2⟩ := h; exact aP.cl _ _ h2 l
 | dG xs => obtain ⟨o, vs, h1, h2⟩ := h; exact aP.cl _ _ h2 l
 | ins C xs => obtain ⟨dx, vs, h1, h2⟩ := h; exact aP.cl _ _ h2 l
end
def aA0 (w0 w : W) : Prop := w0.length ≤ w.length ∧ ∀ (i : Nat) (o : MO), w[i]? = some o → w0[i]? = some o ∨ o.cl w.length = true
def XD.cl (n : Nat) (x : XD) : Bool := match x.fs with
 | none => true
 | some fs => D.cls n (fs.map (·.2))
def Fits (w0 : W) (r r' : Res D) : Prop := match r with
 | .bad => True
 | .ok d w => ∃ g, r' = .ok d (w ++ g) ∧ (g = [] ∨ (d.cl w.length = true ∧ aA0 w0 w))
 | .E5 x w => ∃ g, r' = .E5 x (w ++ g) ∧ (g = [] ∨ (x.cl w.length = true ∧ aA0 w0 w))
theorem Fits.f9 {w0 : W} {r : Res D} : Fits w0 r r := by
 cases r with
 | ok d w => exact ⟨[], by simp, .inl rfl⟩
 | E5 x w => exact ⟨[], by simp, .inl rfl⟩
 | bad => trivial
theorem Fits.of_eq {w0 : W} {r r' : Res D} (h : r' = r) : Fits w0 r r' := h ▸ Fits.f9
theorem QV {K : PySem.W.Frag} {I I' : List Addr} {F F' G H H' : Hp} {w0 w g : W} (rel0 : Rel K I F G w0 H) (e : Ext I F I' F') (rel : Rel K I' F' G (w ++ g) H') (s : aA0 w0 w) : Ext I F (I'.take w.length) F' ∧ Rel K (I'.take w.length) F' G w H' := by
 have hl : I'.length = w.length + g.length := by rw [rel.len, bx]
 have e2 : Ext I F (I'.take w.length) F' := ⟨by
  obtain ⟨t, rfl⟩ := e.i
  rw [List.take_append, List.take_of_length_le (by rw [rel0.len]; exact s.1)]
  exact List.prefix_append _ _, e.f⟩
 refine ⟨e2, ⟨by simp [hl], rel.nd.sublist (List.take_sublist _ _), fun i a o h1 h2 => ?_, rel.fz, fun i a o h h0 hf => rel.ap i a o (List.getElem?_take_of_lt (ak.mp h0).1 ▸ h) (by rw [aw (ak.mp h0).1]; exact h0) hf, rel.gz, fun a u h => ⟨(rel.gf a u h).1, fun z => (rel.gf a u h).2 (List.mem_of_mem_take z)⟩, rel.gt⟩⟩
 have hi : i < w.length := (ak.mp h2).1
 rw [List.getElem?_take_of_lt hi] at h1
 obtain ⟨u, h3, h4⟩ := rel.ob i a o h1 (by rw [aw hi]; exact h2)
 refine ⟨u, h3, ?_⟩
 rcases s.2 i o h2 with q | q
 ·refine mJ.cut h4 ?_
  have hi0 : i < w0.length := (ak.mp q).1
  obtain ⟨u0, _, h6⟩ := rel0.ob i _ o (bf (by rw [rel0.len]; exact hi0)) q
  exact h6.cl (by rw [rel0.len]; exact s.1)
 ·exact mJ.cut h4 q
theorem AJ.cut {K : PySem.W.Frag} {I : List Addr} {F H : Hp} {x : XD} {c : Value} {d : Option Addr} {n : Nat} (h : AJ K (I.take n) F H x c d) (hn : n ≤ I.length) : AJ K I F H x c d := by
 have e : Ext (I.take n) F I F := ⟨List.take_prefix _ _, fun _ _ h => h⟩
 obtain ⟨h1, h2⟩ := h
 refine ⟨h1, ?_⟩
 cases hf : x.fs with
 | none => rw [hf] at h2; exact h2
 | some fs =>
  rw [hf] at h2
  obtain ⟨a, r, q1, q2, q3⟩ := h2
  exact ⟨a, r, q1, q2, aP.ext e _ _ q3⟩
theorem AJ.aDX {K : PySem.W.Frag} {I : List Addr} {F H : Hp} {x : XD} {c : Value} {d : Option Addr} {n : Nat} (h : AJ K I F H x c d) (hx : x.cl n = true) : AJ K (I.take n) F H x c d := by
 obtain ⟨h1, h2⟩ := h
 refine ⟨h1, ?_⟩
 unfold XD.cl at hx
 cases hf : x.fs with
 | none => rw [hf] at h2; exact h2
 | some fs =>
  rw [hf] at h2 hx
  obtain ⟨a, r, q1, q2, q3⟩ := h2
  exact ⟨a, r, q1, q2, aP.cut _ _ q3 hx⟩
theorem a9.fits {K : PySem.W.Frag} {I : List Addr} {F G H : Hp} {E : XK} {Q : VK} {w0 : W} {r r' : Res D} (rel0 : Rel K I F G w0 H) (p : a9 K I F G E (RV K Q) r) (f : Fits w0 r r') : a9 K I F G E (RV K Q) r' := by
 cases r with
 | bad => exact p.elim
 | ok d w =>
  obtain ⟨g, rfl, hg⟩ := f
  rcases hg with rfl | ⟨hd, hs⟩
  ·rw [List.append_nil]; exact p
  ·intro I' F' H' e rel v rv
   obtain ⟨e2, rel2⟩ := QV rel0 e rel hs
   exact p _ F' H' e2 rel2 v (aG.cut d v rv hd)
 | E5 x w =>
  obtain ⟨g, rfl, hg⟩ := f
  rcases hg with rfl | ⟨hd, hs⟩
  ·rw [List.append_nil]; exact p
  ·intro I' F' H' c d e rel rx
   obtain ⟨e2, rel2⟩ := QV rel0 e rel hs
   exact p _ F' H' c d e2 rel2 (AJ.aDX rx hd)
abbrev MF := List D → W → Res D
def spM (K : PySem.W.Frag) (m : MF) : Sp := fun vs H Q E => ∃ I F G ds w, Rel K I F G w H ∧ RepL K I F ds vs ∧ a9 K I F G E (RV K Q) (m ds w)
structure eR (P : Program) (w : World) (K : PySem.W.Frag) (mg : Str → Option Value) (base : Heap) (k : Nat) (f : Addr) (fd : FuncData) (ps : List Str) (m : MF) : Prop where
 run : ∀ (A : Around) (outer : List Env) (s : Shared) (H : Hp) (args : Args) (us : List Value) (vs : List V) (Q : VK) (E : XK), Room k A → A.guards = some [] → Env0 P w K mg base A outer s H → BindsTo s fd args (ps.zip us) → Vals vs us →
  vs.length = ps.length → spM K m vs H Q E → codeAny (model P w) A (.call (.ref f) args) (CR (L2.CX P w) outer P w H s Q E) s
theorem eR.mono {P : Program} {w : World} {K : PySem.W.Frag} {mg : Str → Option Value} {base : Heap} {j k : Nat} {f : Addr} {fd : FuncData} {ps : List Str} {m : MF} (G : eR P w K mg base j f fd ps m) (h : j ≤ k) : eR P w K mg base k f fd ps m :=
 ⟨fun A outer s H args us vs Q E hr => G.run A outer s H args us vs Q E (hr.mono h)⟩
def begin (N : List Str) (ds : List D) : Sg := ds.map some ++ List.replicate (N.length - ds.length) none
def a7 (mb : MS) (N : List Str) (ds : List D) (w : W) : Res D := (mb (begin N ds) w).bind fun f w1 => match f with
 | .nx _ => .ok .non w1
 | .rt d => .ok d w1
 | _ => .bad
theorem RepL.aA3 {K : PySem.W.Frag} {I : List Addr} {F : Hp} {ds : List D} {vs : List V} (r : RepL K I F ds vs) (N : List Str) : e8 K I F (begin N ds) (L2.start N vs) := by
 unfold begin L2.start
 refine ⟨by simp [r.length], fun i d h => ?_⟩
 by_cases hi : i < ds.length
 ·rw [aw (by simpa using hi), cg] at h
  cases q : ds[i]? with
  | none => rw [q] at h; cases h
  | some x =>
   rw [q] at h; cases h
   obtain ⟨v, h1, h2⟩ := r.get q
   exact ⟨v, by rw [aw (by simpa [← r.length] using hi), cg, h1]; rfl, h2⟩
 ·rw [bp (by simpa using hi), List.getElem?_replicate] at h
  split at h <;> cases h
abbrev aM.body (S : aM) (k : Nat) (N : List Str) (sc : Scope) : aM := { S with k := k, N := N, sc := sc, fn := fun _ => true }
theorem eR.of {S : aM} {x qual : Str} {params : Arguments} {body : List Stmt} {scope : Scope} {dvs : List V} {kws : List (Str × V)} {f : Addr} {fd : FuncData} {N ps : List Str} {k : Nat} {mb : MS} {m : MF}
  (F : FunD S.K x qual params body scope dvs kws f fd) (Sc : FnScope N ps scope) (hb : nU (S.body k N scope) body mb) (hm : ∀ ds w, ds.length = ps.length → Fits w (m ds w) (a7 mb N ds w)) : eR S.P S.w S.K S.mg S.base (k + 1) f fd ps m := by
 refine ⟨fun A outer s H args us vs Q E hr hg e0 hbt r hl hsp => ?_⟩
 obtain ⟨oc, od, dV, kV, doc, pm, an, cdv, ct, osl, rfl, lk, hcd, _, _⟩ := F.ex
 have KX : S.K.In s.heap := e0.mod.kin.keeps fun b o e => (e0.bs b o e).1
 have lim : s.heap.NoLimit := e0.mod.nolimit.keeps fun b o e => (e0.bs b o e).1
 have kinds : ∀ y ∈ ps.zip us, scope.names.lookup y.1 = some .local ∨ (scope.names.lookup y.1 = some .cell ∧ ((cellsFrom (s.heap.objs.size + 1) scope.names []).lookup y.1).isSome = true) := by
  rintro ⟨n, v⟩ hy
  have hn : n ∈ ps := (List.of_mem_zip hy).1
  rcases Sc.par n hn with q | q
  ·exact Or.inl q
  ·exact Or.inr ⟨q, PySem.W.cellsFrom_some _ _ _ (.inl q)⟩
 refine codeAny_call_function hr.depth (KX _ _ lk) rfl Sc.co Sc.gen rfl (PySem.W.codeRec_of KX hcd) (hbt _ _ _ _ ?_)
 refine wpAny_newFunctionEnv_cells Sc.kind kinds fun env he s1 y => ?_
 subst he
 refine ⟨lim.keeps y.toInCall.keep, codeAny_func ?_⟩
 obtain ⟨I, F0, G, ds, w, rel, rl, p⟩ := hsp
 have J : Inv (cxOf (L2.CX S.P S.w) S.P S.w S.K S.mg S.base N qual scope f cdv A outer s H E) [] (start N vs) H s1 := inv_start Sc hr.hd e0 hl r y
 have cx : Ctx (S.body k N scope) (cxOf (L2.CX S.P S.w) S.P S.w S.K S.mg S.base N qual scope f cdv A outer s H E) := ⟨rfl, rfl, rfl, rfl, rfl, rfl, rfl, fun _ _ => rfl, rfl, hr.deeper _, hg, Sc.nd⟩
 have xo : pX (cxOf (L2.CX S.P S.w) S.P S.w S.K S.mg S.base N qual scope f cdv A outer s H E) E := ⟨takes_of rfl rfl rfl rfl, passes_of rfl⟩
 have p' : a9 S.K I F0 G E (RV S.K Q) (a7 mb N ds w) := p.fits rel (hm ds w (by rw [rl.length]; exact hl))
 have go := (hb _ E cx xo).run [] s1 (start N vs) H { nx := fun _ H' => Q .non H', rt := Q } J ⟨I, F0, G, begin N ds, w, rel, rl.aA3 N, (a9.bind p').mono fun I1 F1 H1 fl w1 _ e1 rel1 p1 => ?_⟩
 ·refine wpAny_mono go (fun fl s' hs => ?_) fun e s' hs => hs
  cases fl with
  | ret u =>
   obtain ⟨v, σ', H', J', rv, q⟩ := hs
   exact ⟨v, H', J'.os, J'.bare, J'.base, J'.hok, rv, q⟩
  | next =>
   obtain ⟨σ', H', J', q⟩ := hs
   exact ⟨V.non, H', J'.os, J'.bare, J'.base, J'.hok, rfl, q⟩
  | brk =>
   obtain ⟨_, _, _, q⟩ := hs
   exact q.elim
  | cont =>
   obtain ⟨_, _, _, q⟩ := hs
   exact q.elim
 ·cases fl with
  | nx z => exact fun s' _ => p1.nE rel1 (by simp [aG])
  | rt d => exact fun v rv => p1.nE rel1 rv
  | bk z => exact p1.elim
  | ct z => exact p1.elim
structure b5 (K : PySem.W.Frag) (fd : FuncData) (ps : List Str) (n : Nat) (ks : List Str) (gd : List D → List D → List D) : Prop where
 ex : ∃ (g : List Value → List Value → List Value) (gV : List V → List V → List V), KBn K fd ps n ks g gV ∧
  ∀ I F xs vs zs us, RepL K I F xs vs → RepL K I F zs us → RepL K I F (gd xs zs) (gV vs us)
 len : ∀ xs zs, xs.length = n → zs.length = ks.length → (gd xs zs).length = ps.length
def aI (m : MF) (n : Nat) (gd : List D → List D → List D) (ma : MA) : ME := fun σ w => (ma σ w).bind fun xs w1 => if xs.length = n then m (gd xs []) w1 else .bad
def tV (m : MF) (n j : Nat) (gd : List D → List D → List D) (ma mk : MA) : ME := fun σ w => (ma σ w).bind fun xs w1 => (mk σ w1).bind fun zs w2 => if xs.length = n ∧ zs.length = j then m (gd xs zs) w2 else .bad
def JK (S : aM) (kws : List Keyword) (m : MA) : Prop := ∀ X E, Ctx S X → pX X E → PK X kws (XC X.K E m)
theorem aAd {X : Cx} {pins : List (Addr × Obj)} {σ : L2.St} {H : Hp} {s : Shared} {Q : VK} {E : XK} {k : Nat} {f : Addr} {fd : FuncData} {ps ks : List Str} {m : MF} {n : Nat} {gd : List D → List D → List D} {I : List Addr} {F G : Hp} {xs zs : List D} {w : W} {us ws : List Value} {vs ys : List V}
  (xo : pX X E) (Gf : eR X.prog X.w X.K X.mg X.base k f fd ps m) (B : b5 X.K fd ps n ks gd) (hr : Room k X.A) (hg : X.A.guards = some []) (J : Inv X pins σ H s) (rel : Rel X.K I F G w H) (rx : RepL X.K I F xs vs) (rz : RepL X.K I F zs ys)
  (r : Vals vs us) (q : Vals ys ws) (h1 : xs.length = n) (h2 : zs.length = ks.length) (p : a9 X.K I F G E (RV X.K Q) (m (gd xs zs) w)) : wpAny (model X.prog X.w) X.A (call (.ref f) us (ks.zip ws)) (EP X pins σ Q) X.xe s := by
 obtain ⟨g, gV, kb, rep⟩ := B.ex
 have r2 := kb.rel r q
 have r3 := rep I F xs vs zs ys rx rz
 have hl : (gV vs ys).length = ps.length := by rw [← r3.length]; exact B.len xs zs h1 h2
 refine wpAny_call (codeAny_mono (Gf.run X.A X.stack s H ⟨us, ks.zip ws⟩ (g us ws) (gV vs ys) Q E hr hg J.env0 (kb.to s us ws J.kIn (by rw [← r.length, ← rx.length]; exact h1) (by rw [← q.length, ← rz.length]; exact h2)) r2 hl ⟨I, F, G, _, w, rel, r3, p⟩) fun fl s' hq => ?_)
 cases fl with
 | error e => exact passes_call xo.tk (fun _ _ _ _ h => h) pins σ H s e s' J hq
 | ok fl =>
  cases fl with
  | ret u => exact J.after hq
  | next => exact hq.elim
  | brk => exact hq.elim
  | cont => exact hq.elim
section
variable {S : aM} {k n : Nat} {f : Addr} {fd : FuncData} {ps ks : List Str} {m : MF} {gd : List D → List D → List D} {x : Str} {p pos kpos : Pos} {e : Expr} {es : List Expr} {kws : List Keyword} {ma mk : MA} {me : ME} {nm : Option Str}
theorem TH : JK S [] aC := fun X E cx xo => ⟨fun pos pins s σ H Q J ⟨I, F, G, ds, w, rel, rs, p⟩ => pk_nil.run pos pins s σ H Q J (p I F H .refl rel [] (by simp [RepL]))⟩
theorem P6 (he : JE S e me) (hr : JK S kws mk) : JK S (⟨nm, e, kpos⟩ :: kws) (aA me mk) := fun X E cx xo =>
 ⟨fun pos pins s σ H Q J ⟨I, F, G, ds, w, rel, rs, p⟩ => (pk_cons (he X E cx xo) (hr X E cx xo)).run pos pins s σ H Q J
  (bR (f := fun ds x w1 => (mk ds w1).bind fun xs w2 => Res.ok (x :: xs) w2) rel rs p fun I1 F1 H1 x w1 v e1 rel1 rs1 rv p1 =>
   cQ (f := fun _ xs w2 => Res.ok (x :: xs) w2) rel1 rs1 p1 fun I2 F2 H2 xs w2 vs e2 rel2 rs2 rvs p2 => p2 I2 F2 H2 .refl rel2 _ (RepL.cons (aG.ext e2 _ _ rv) rvs))⟩
theorem aX (hk : k ≤ S.k) (Gf : eR S.P S.w S.K S.mg S.base k f fd ps m) (B : b5 S.K fd ps n [] gd) (hg : S.sc.names.lookup x = some .globalImplicit) (hm : S.mg x = some (.ref f)) (kp : PySem.W.keepIn S.K (.ref f) = true) (ha : JA S (e :: es) ma)
  (hdb : (x == ("__debug__" : Str)) = false := by decide) (he : ∀ env : Env, starEach (e :: es) env = (false, eval e env) :: starEach es env := by intro _; rfl) (hpl : ∀ env : Env, (backTo pos (starEach es env)).any (·.1) = false := by intro _; rfl) :
  JE S (.Call (.Name x p) (e :: es) [] pos) (aI m n gd ma) := fun X E cx xo => by
 refine ⟨fun pins s σ H Q J ⟨I, F, G, ds, w, rel, rs, p⟩ => ?_⟩
 refine wpAny_Call_Name_kw (ld_glob J (by show X.env.scope.names.lookup x = _; rw [cx.sc]; exact hg) (by rw [cx.mg]; exact hm) ?_ hdb)
 refine PySem.W.callWith_K (h₀ := X.base) J.ok.mod.kin (by rw [cx.K]; exact kp) (thn ((ha X E cx xo).run pos pins s σ H _ J (cQ (f := fun _ xs w1 => if xs.length = n then m (gd xs []) w1 else .bad) (Q := fun vs H1 => ∃ I1 F1 xs w1, Rel X.K I1 F1 G w1 H1 ∧ RepL X.K I1 F1 xs vs ∧ xs.length = n ∧ a9 X.K I1 F1 G E (RV X.K Q) (m (gd xs []) w1)) rel rs p fun I1 F1 H1 xs w1 vs e1 rel1 rs1 rvs p1 => ?_)) fun us s1 hq => ?_) (he X.env) (hpl X.env)
 ·split at p1
  ·rename_i hl
   exact ⟨I1, F1, xs, w1, rel1, rvs, hl, p1⟩
  ·exact p1.elim
 ·obtain ⟨vs, H1, J1, r, I1, F1, xs, w1, rel1, rvs, hl, p1⟩ := hq
  refine ⟨J1.kIn, ?_⟩
  have Gf' : eR X.prog X.w X.K X.mg X.base k f fd ps m := by rw [cx.P, cx.w, cx.K, cx.mg, cx.base]; exact Gf
  have B' : b5 X.K fd ps n [] gd := by rw [cx.K]; exact B
  exact aAd (ks := []) (ws := []) (zs := []) (ys := []) xo Gf' B' (cx.room.mono hk) cx.gds J1 rel1 rvs (by simp [RepL]) r .nil hl rfl p1
end
theorem bB {K : PySem.W.Frag} {x qual : Str} {params : Arguments} {body : List Stmt} {scope : Scope} {kws : List (Str × V)} {f : Addr} {fd : FuncData} {ps : List Str} (F : FunD K x qual params body scope [] kws f fd)
  (h : ∀ (kV doc pm : Value) (an : Option Addr) (cdv ct : Value) (us : List Value), us.length = ps.length → bindArgs (PySem.W.fnOf x qual params body scope .none kV doc pm an cdv ct) ⟨us, []⟩ = pure (ps.zip us)) : b5 K fd ps ps.length [] fun xs _ => xs := by
 refine ⟨⟨fun us _ => us, fun vs _ => vs, ⟨fun s us ws KX h1 h2 => ?_, fun r _ => r⟩, fun _ _ _ _ _ _ r _ => r⟩, fun xs zs h1 _ => h1⟩
 have e : ws = [] := List.eq_nil_of_length_eq_zero (by simpa using h2)
 subst e
 exact F.bindsA h s us h1
theorem T7 {K : PySem.W.Frag} {x qual : Str} {params : Arguments} {body : List Stmt} {scope : Scope} {kws : List (Str × V)} {f : Addr} {fd : FuncData} {ps : List Str} (F : FunD K x qual params body scope [] kws f fd) (n : Nat) (ks : List Str) (g : {α : Type} → List α → List α → List α)
  (h : ∀ (kV doc pm : Value) (an : Option Addr) (cdv ct : Value) (us ws : List Value), us.length = n → ws.length = ks.length → bindArgs (PySem.W.fnOf x qual params body scope .none kV doc pm an cdv ct) ⟨us, ks.zip ws⟩ = pure (ps.zip (g us ws)))
  (hrel : ∀ {vs zs : List V} {us ws : List Value}, Vals vs us → Vals zs ws → Vals (g vs zs) (g us ws)) (hrep : ∀ I F' xs vs zs us, RepL K I F' xs vs → RepL K I F' zs us → RepL K I F' (g xs zs) (g vs us))
  (hlen : ∀ xs zs : List D, xs.length = n → zs.length = ks.length → (g xs zs).length = ps.length) : b5 K fd ps n ks g := by
 refine ⟨⟨fun us ws => g us ws, fun vs zs => g vs zs, ⟨fun s us ws KX h1 h2 => ?_, hrel⟩, hrep⟩, hlen⟩
 obtain ⟨oc, od, dV, kV, doc, pm, an, cdv, ct, osl, rfl, lk, hcd, hD, hK⟩ := F.ex
 rcases hD with ⟨_, rfl⟩ | ⟨e, _⟩
 ·exact .of_eq (h kV doc pm an cdv ct us ws h1 h2)
 ·exact absurd rfl e
structure kP where
 xs : List D
 okp : W → Prop
def kP.ok (it : kP) (w : W) : Prop := it.okp w
def always : W → Prop := fun _ => True
def holds (i : Nat) (o : MO) : W → Prop := fun w => w[i]? = some o
def vY (K : PySem.W.Frag) (I : List Addr) (F : Hp) (J : It) (it : kP) : Prop :=
 ∀ I' F' G w H j, Ext I F I' F' → Rel K I' F' G w H → it.ok w →
  (∀ x, it.xs[j]? = some x → J.go j H ∧ ∀ v H', J.yld j H v H' → ∃ F2, Ext I' F' I' F2 ∧ Rel K I' F2 G w H' ∧ aG K I' F2 x v) ∧ (it.xs.length = j → J.stop j H)
abbrev MI := Sg → W → Res kP
def RI (K : PySem.W.Frag) (R : It → Hp → Prop) : List Addr → Hp → Hp → kP → W → Prop := fun I' F' H' it w' => it.ok w' → ∀ J, vY K I' F' J it → R J H'
def aDc (K : PySem.W.Frag) (E : XK) (m : MI) : TI := fun σ H R => ∃ I F G ds w, Rel K I F G w H ∧ e8 K I F ds σ ∧ a9 K I F G E (RI K R) (m ds w)
def JI (S : aM) (tg iter : Expr) (m : MI) : Prop := ∀ X E, Ctx S X → pX X E → PI X tg iter (aDc X.K E m)
theorem r8 {X : Cx} {tg e : Expr} {t t' : TI} (h : PI X tg e t) (k : ∀ σ H R, t' σ H R → t σ H R) : PI X tg e t' := ⟨fun pins s σ H R I q => h.run pins s σ H R I (k σ H R q)⟩
def aDd (K : PySem.W.Frag) (tl : TE) : TI := fun σ H R => tl σ H fun x H1 => ∃ a, x = .ref a ∧ (((∃ xs, SqL K H1 a xs) ∧ R (Itl K a) H1) ∨ ((∃ xs, SqT K H1 a xs) ∧ R (Itt K a) H1))
theorem ZE {X : Cx} {tg l : Expr} {tl : TE} (hl : PE X l tl) : PI X tg l (aDd X.K tl) := by
 constructor
 intro pins s σ H R J h
 apply thn (hl.run pins s σ H _ J h)
 rintro v s1 ⟨x, H1, J1, r1, a, ex, q⟩
 subst ex
 cases r1
 have fp : ∀ b ∈ [s1.heap.objs.size], FpOk X pins H1 b := fun b hb => by
  rw [bh.mp hb]
  exact J1.fpOk (az _) (J1.hok.fresh (az _))
 rcases q with ⟨⟨xs, hq⟩, q⟩ | ⟨⟨xs, hq⟩, q⟩
 ·obtain ⟨its, rv, p, hz⟩ := J1.list hq
  apply wpAny_pyIter_list p.isList
  exact ⟨s1.heap.objs.size, [s1.heap.objs.size], _, _, H1, rfl, J1.kept (t' := s1.toks) fun b o e => Heap.get?_push_of_some _ e, turn_list a _, ⟨_, Heap.get?_push_size _ rfl, rfl, rfl⟩, fp, q⟩
 ·obtain ⟨its, rv, p, hz⟩ := J1.tuple hq
  apply wpAny_pyIter_tuple (show s1.heap.IsTuple a its.toArray from p)
  exact ⟨s1.heap.objs.size, [s1.heap.objs.size], _, _, H1, rfl, J1.kept (t' := s1.toks) fun b o e => Heap.get?_push_of_some _ e, turn_tuple a _, ⟨_, Heap.get?_push_size _ rfl, rfl, rfl⟩, fp, q⟩
def iterM (d : D) (w : W) : Res kP := match d with
 | .tup xs => .ok ⟨xs, always⟩ w
 | .pW xs => .ok ⟨xs, always⟩ w
 | .lst xs => .ok ⟨xs, always⟩ w
 | .mH xs => .ok ⟨xs, always⟩ w
 | .ref i => (match w[i]? with
  | some (.lst xs) => .ok ⟨xs, holds i (.lst xs)⟩ w
  | _ => .bad)
 | _ => .bad
def bK (m : ME) : MI := fun σ w => (m σ w).bind iterM
section
variable {K : PySem.W.Frag} {I : List Addr} {F : Hp} {a : Addr} {it : kP}
theorem ON (h : ∀ I' F' G w H, Ext I F I' F' → Rel K I' F' G w H → it.ok w → ∃ vs, SqL K H a vs ∧ RepL K I' F' it.xs vs) : vY K I F (Itl K a) it := fun I' F' G w H j e rel ok => by
 obtain ⟨vs, hq, r⟩ := h I' F' G w H e rel ok
 refine ⟨fun x hx => ?_, fun hl => ⟨vs, hq, by rw [← r.length, hl]; exact az _⟩⟩
 obtain ⟨v, hv, rv⟩ := r.get hx
 refine ⟨⟨vs, v, hq, hv⟩, fun u H' y => ?_⟩
 obtain ⟨rfl, y⟩ := y
 have := y vs hq
 rw [hv] at this; cases this
 exact ⟨F', .refl, rel, rv⟩
theorem VM (h : ∀ I' F' G w H, Ext I F I' F' → Rel K I' F' G w H → it.ok w → ∃ vs, SqT K H a vs ∧ RepL K I' F' it.xs vs) : vY K I F (Itt K a) it := fun I' F' G w H j e rel ok => by
 obtain ⟨vs, hq, r⟩ := h I' F' G w H e rel ok
 refine ⟨fun x hx => ?_, fun hl => ⟨vs, hq, by rw [← r.length, hl]; exact az _⟩⟩
 obtain ⟨v, hv, rv⟩ := r.get hx
 refine ⟨⟨vs, v, hq, hv⟩, fun u H' y => ?_⟩
 obtain ⟨rfl, y⟩ := y
 have := y vs hq
 rw [hv] at this; cases this
 exact ⟨F', .refl, rel, rv⟩
theorem aAq {lo : Int} {n : Nat} (hx : it.xs = (List.range n).map fun k : Nat => D.int (lo + (k : Int))) : vY K I F (Itr lo n) it := fun I' F' G w H j e rel ok => by
 refine ⟨fun x h => ?_, fun hl => ?_⟩
 ·rw [hx, cg] at h
  by_cases hj : j < n
  ·rw [List.getElem?_range hj] at h
   cases h
   refine ⟨hj, fun v H' y => ?_⟩
   obtain ⟨rfl, rfl⟩ := y
   exact ⟨F', .refl, rel, by simp [aG]⟩
  ·rw [List.getElem?_eq_none (by simpa using hj)] at h; cases h
 ·rw [hx] at hl
  simp at hl
  show n ≤ j
  omega
end
section
variable {S : aM} {pos p : Pos} {tg l e e2 : Expr} {m : ME} {ma : MA} {x : Str}
theorem cW (hl : JE S l m) : JI S tg l (bK m) := fun X E cx xo =>
 r8 (ZE (hl X E cx xo)) fun σ H R ⟨I, F, G, ds, w, rel, rs, p⟩ => bR (f := fun _ => iterM) rel rs p fun I1 F1 H1 d w1 v e1 rel1 rs1 rv p1 => by
  cases d <;> first | exact p1.elim | skip
  case tup xs =>
   simp only [aG] at rv
   obtain ⟨a, vs, rfl, h1, h2⟩ := rv
   exact ⟨a, rfl, .inr ⟨⟨vs, .of (rel1.fz _ _ h1)⟩, p1 I1 F1 H1 .refl rel1 trivial _ (VM fun I' F' G w H e rel ok => ⟨vs, .of (rel.fz _ _ (e.f _ _ h1)), RepL.ext e _ _ h2⟩)⟩⟩
  case pW xs =>
   simp only [aG] at rv
   obtain ⟨a, vs, rfl, h1, h2⟩ := rv
   exact ⟨a, rfl, .inr ⟨⟨vs, rel1.MD h1⟩, p1 I1 F1 H1 .refl rel1 trivial _ (VM fun I' F' G w H e rel ok => ⟨vs, rel.MD (zI e h1), RepL.ext e _ _ h2⟩)⟩⟩
  case lst xs =>
   simp only [aG] at rv
   obtain ⟨a, vs, rfl, h1, h2⟩ := rv
   exact ⟨a, rfl, .inl ⟨⟨vs, .of (rel1.fz _ _ h1)⟩, p1 I1 F1 H1 .refl rel1 trivial _ (ON fun I' F' G w H e rel ok => ⟨vs, .of (rel.fz _ _ (e.f _ _ h1)), RepL.ext e _ _ h2⟩)⟩⟩
  case mH xs =>
   simp only [aG] at rv
   obtain ⟨a, vs, rfl, h1, h2⟩ := rv
   exact ⟨a, rfl, .inl ⟨⟨vs, rel1.QJ h1⟩, p1 I1 F1 H1 .refl rel1 trivial _ (ON fun I' F' G w H e rel ok => ⟨vs, rel.QJ (PX e h1), RepL.ext e _ _ h2⟩)⟩⟩
  case ref i =>
   simp only [aG] at rv
   obtain ⟨a, rfl, h1⟩ := rv
   simp only [iterM] at p1
   split at p1
   ·rename_i xs hw
    obtain ⟨u, hu, vs, rfl, h2⟩ := rel1.ob i a _ h1 hw
    refine ⟨a, rfl, .inl ⟨⟨vs, .of hu⟩, p1 I1 F1 H1 .refl rel1 hw _ (ON fun I' F' G w H e rel ok => ?_)⟩⟩
    obtain ⟨u', hu', vs', rfl, h2'⟩ := rel.ob i a _ (e.get h1) ok
    exact ⟨vs', .of hu', h2'⟩
   ·exact p1.elim
def fI (lo : Int) (n : Nat) : kP := ⟨(List.range n).map fun k : Nat => D.int (lo + (k : Int)), always⟩
def gG (ds : List D) (w : W) : Res kP := match ds with
 | [.int n] => if -(2 ^ 62) ≤ n ∧ n < 2 ^ 62 then .ok (fI 0 n.toNat) w else .bad
 | _ => .bad
def cK (f : List D → W → Res kP) (ma : MA) : MI := fun σ w => (ma σ w).bind f
theorem i9 (hg : S.sc.names.lookup ("range" : Str) = some .globalImplicit) (hm : S.mg "range" = none) (ha : JA S [e] ma) (hs : ∀ env : Env, starEach [e] env = [(false, eval e env)] := by intro _; rfl) : JI S tg (.Call (.Name "range" p) [e] [] pos) (cK gG ma) := fun X E cx xo =>
 r8 (pi_range1 (by show X.env.scope.names.lookup _ = _; rw [cx.sc]; exact hg) (by rw [cx.mg]; exact hm) (ha X E cx xo) (hs X.env)) fun σ H R ⟨I, F, G, ds, w, rel, rs, p⟩ => cQ (f := fun _ => gG) rel rs p fun I1 F1 H1 xs w1 vs e1 rel1 rs1 rv p1 => by
  unfold gG at p1
  split at p1
  ·rename_i n
   split at p1
   ·rename_i hn
    simp only [RepL, aG] at rv
    obtain ⟨v, r, rfl, rfl, rfl⟩ := rv
    exact ⟨n, rfl, hn.1, hn.2, p1 I1 F1 H1 .refl rel1 trivial _ (aAq rfl)⟩
   ·exact p1.elim
  ·exact p1.elim
end
open Classical in
def forL (it : kP) (g : MG) (body : MS) : List D → Sg → W → Res Fl
 | [], σ, w => if it.ok w then .ok (.nx σ) w else .bad
 | x :: xs, σ, w => if it.ok w then (g x σ w).bind fun σ1 w1 => (body σ1 w1).bind fun f w2 => match f with
   | .nx s => forL it g body xs s w2
   | .ct s => forL it g body xs s w2
   | .bk s => .ok (.nx s) w2
   | .rt d => .ok (.rt d) w2
  else .bad
def fY (m : MI) (g : MG) (body : MS) : MS := fun σ w => (m σ w).bind fun it w1 => forL it g body it.xs σ w1
section
variable {S : aM} {pos : Pos} {tg iter : Expr} {body : List Stmt} {m : MI} {g : MG} {b : MS}
theorem G8 (hi : JI S tg iter m) (hg : JG S tg g) (hb : nU S body b) (hs : ∀ (env : Env) x, foldedSetIterable iter env x = pure x := by intro _ _; rfl) : JS S (.For tg iter body [] pos) (fY m g b) := fun X E cx xo =>
 kU (ps_for xo.own cx.calm (hi X E cx xo) (hg X E cx xo) (hb X E cx xo) (hs X.env)) fun Z σ H ⟨I, F, G, ds, w, rel, rs, p⟩ => by
  refine ⟨I, F, G, ds, w, rel, rs, (a9.bind p).mono fun I1 F1 H1 it w1 _ e1 rel1 p1 hok J hJ => ?_⟩
  refine ⟨fun i n σ' H' => n = it.xs.length - i ∧ i ≤ it.xs.length ∧ ∃ I' F' ds' w', Ext I1 F1 I' F' ∧ Rel X.K I' F' G w' H' ∧ e8 X.K I' F' ds' σ' ∧ a9 X.K I' F' G E (RFl X.K Z) (forL it g b (it.xs.drop i) ds' w'),
   ⟨it.xs.length, by simp, Nat.zero_le _, I1, F1, ds, w1, .refl, rel1, rs.ext e1, p1⟩, ?_⟩
  rintro i n σ' H' ⟨rfl, hi, I', F', ds', w', e', rel', rs', p'⟩
  by_cases hlt : i < it.xs.length
  ·rw [List.drop_eq_getElem_cons hlt] at p'
   unfold forL at p'
   split at p'
   ·rename_i hw
    obtain ⟨h1, _⟩ := hJ I' F' G w' H' i e' rel' hw
    obtain ⟨hgo, hy⟩ := h1 _ (bf hlt)
    refine .inr ⟨hgo, fun σ2 H2 => ∃ I2 F2 ds2 w2, Ext I1 F1 I2 F2 ∧ Rel X.K I2 F2 G w2 H2 ∧ e8 X.K I2 F2 ds2 σ2 ∧ a9 X.K I2 F2 G E (RFl X.K Z) (forL it g b (it.xs.drop (i + 1)) ds2 w2), fun σ2 H2 q => ⟨it.xs.length - (i + 1), by omega, rfl, hlt, q⟩, fun v H2 y => ?_⟩
    obtain ⟨F2, e2, rel2, rv⟩ := hy v H2 y
    refine ⟨I', F2, G, _, ds', w', rel2, rs'.ext e2, rv, (a9.bind (p'.ext e2)).mono fun I3 F3 H3 s3 w3 _ e3 rel3 p3 σ3 rs3 => ?_⟩
    refine ⟨I3, F3, G, s3, w3, rel3, rs3, (a9.bind p3).mono fun I4 F4 H4 f w4 _ e4 rel4 p4 => ?_⟩
    have ee : Ext I1 F1 I4 F4 := ((e'.trans e2).trans e3).trans e4
    cases f with
    | nx s => exact fun s' rs4 => ⟨I4, F4, s, w4, ee, rel4, rs4, p4⟩
    | ct s => exact fun s' rs4 => ⟨I4, F4, s, w4, ee, rel4, rs4, p4⟩
    | bk s => exact fun s' rs4 => p4 I4 F4 H4 .refl rel4 s' rs4
    | rt d => exact fun v rv => p4 I4 F4 H4 .refl rel4 v rv
   ·exact p'.elim
  ·have hl : i = it.xs.length := by omega
   subst hl
   rw [List.drop_length] at p'
   unfold forL at p'
   split at p'
   ·rename_i hw
    exact .inl ⟨(hJ I' F' G w' H' _ e' rel' hw).2 rfl, p' I' F' H' .refl rel' σ' rs'⟩
   ·exact p'.elim
end
def Res.SV {α : Type} (r : Res α) : Res α := match r with
 | .E5 _ _ => .bad
 | r => r
@[simp] theorem Res.aDW {α : Type} (a : α) (w : W) : (Res.ok a w).SV = .ok a w := rfl
@[simp] theorem Res.aDo {α : Type} (x : XD) (w : W) : (Res.E5 x w : Res α).SV = .bad := rfl
@[simp] theorem Res.aDk {α : Type} : (Res.bad : Res α).SV = .bad := rfl
abbrev E0 : XK := fun _ _ _ => False
theorem a9.U5 {α β : Type} {K : PySem.W.Frag} {I : List Addr} {F G : Hp} {E : XK} {r : Res α} {f : α → W → Res β} {R2 : List Addr → Hp → Hp → β → W → Prop} (h : a9 K I F G E R2 (r.SV.bind f)) :
  a9 K I F G E0 (fun I' F' _ a w => a9 K I' F' G E R2 (f a w)) r := by
 cases r with
 | ok a w => exact fun I' F' H' e' q => a9.ext (K := K) (R := R2) h e'
 | E5 x w => exact h.elim
 | bad => exact h
theorem Rel.keep {K : PySem.W.Frag} {I : List Addr} {F G H : Hp} {w : W} (rel : Rel K I F G w H) {q : Addr} {u : HO} (hq : H q = none) (hu : ∀ xs, u ≠ .tup xs := by intro _ h; cases h) : Rel K I F (upd G q u) w (upd H q u) := by
 have hI : q ∉ I := fun z => by
  obtain ⟨i, hi⟩ := List.mem_iff_getElem?.mp z
  have hl : i < w.length := by rw [← rel.len]; exact (ak.mp hi).1
  obtain ⟨u, h3, _⟩ := rel.ob i q _ hi (bf hl)
  rw [h3] at hq; cases hq
 have hF : F q = none := by
  cases h : F q with
  | none => rfl
  | some u => rw [rel.fz _ _ h] at hq; cases hq
 refine ⟨rel.len, rel.nd, fun i a o h1 h2 => ?_, fun a u' h => ?_, rel.ap, fun a u' h => ?_, fun a u' h => ?_, fun a xs h => ?_⟩
 ·obtain ⟨u', h3, h4⟩ := rel.ob i a o h1 h2
  exact ⟨u', by rw [upd_ne (ne_of_none h3 hq)]; exact h3, h4⟩
 ·rw [upd_ne (ne_of_none h hF)]; exact rel.fz a u' h
 ·by_cases ha : a = q
  ·subst ha; rw [upd_same] at h ⊢; exact h
  ·rw [upd_ne ha] at h ⊢; exact rel.gz a u' h
 ·by_cases ha : a = q
  ·subst ha; exact ⟨hF, hI⟩
  ·rw [upd_ne ha] at h; exact rel.gf a u' h
 ·by_cases ha : a = q
  ·subst ha; rw [upd_same] at h; exact hu xs (Option.some.inj h)
  ·rw [upd_ne ha] at h; exact rel.gt a xs h
theorem Rel.V1 {K : PySem.W.Frag} {I : List Addr} {F G H : Hp} {w : W} {q : Addr} {u u' : HO} (rel : Rel K I F (upd G q u) w H) (hu : ∀ xs, u' ≠ .tup xs := by intro _ h; cases h) : Rel K I F (upd G q u') w (upd H q u') := by
 obtain ⟨hF, hI⟩ := rel.gf q u upd_same
 refine ⟨rel.len, rel.nd, fun i a o h1 h2 => ?_, fun a v h => ?_, rel.ap, fun a v h => ?_, fun a v h => ?_, fun a xs h => ?_⟩
 ·obtain ⟨v, h3, h4⟩ := rel.ob i a o h1 h2
  have ha : a ≠ q := fun z => hI (by rw [← z]; exact cc h1)
  exact ⟨v, by rw [upd_ne ha]; exact h3, h4⟩
 ·rw [upd_ne (ne_of_none h hF)]; exact rel.fz a v h
 ·by_cases ha : a = q
  ·subst ha; rw [upd_same] at h ⊢; exact h
  ·rw [upd_ne ha] at h ⊢; exact rel.gz a v (by rw [upd_ne ha]; exact h)
 ·by_cases ha : a = q
  ·subst ha; exact ⟨hF, hI⟩
  ·rw [upd_ne ha] at h; exact rel.gf a v (by rw [upd_ne ha]; exact h)
 ·by_cases ha : a = q
  ·subst ha; rw [upd_same] at h; exact hu xs (Option.some.inj h)
  ·rw [upd_ne ha] at h; exact rel.gt a xs (by rw [upd_ne ha]; exact h)
theorem Rel.aCO {K : PySem.W.Frag} {I : List Addr} {F G H : Hp} {w : W} {q : Addr} {u : HO} (rel : Rel K I F (upd G q u) w H) (hG : G q = none) : Ext I F I (upd F q u) ∧ Rel K I (upd F q u) G w H := by
 obtain ⟨hF, hI⟩ := rel.gf q u upd_same
 have e : Ext I F I (upd F q u) := ⟨List.prefix_refl _, fun a v h => by rw [upd_ne (ne_of_none h hF)]; exact h⟩
 refine ⟨e, rel.len, rel.nd, fun i a o h1 h2 => ?_, fun a v h => ?_, fun i a o h h0 hf => ?_, fun a v h => ?_, fun a v h => ?_, fun a xs h => rel.gt a xs (by rw [upd_ne (ne_of_none h hG)]; exact h)⟩
 ·obtain ⟨v, h3, h4⟩ := rel.ob i a o h1 h2
  exact ⟨v, h3, mJ.ext e h4⟩
 ·by_cases ha : a = q
  ·subst ha; rw [upd_same] at h; cases h; exact rel.gz a u upd_same
  ·rw [upd_ne ha] at h; exact rel.fz a v h
 ·have ha : a ≠ q := fun z => hI (by rw [← z]; exact cc h)
  rw [upd_ne ha]; exact rel.ap i a o h h0 hf
 ·have ha : a ≠ q := ne_of_none h hG
  exact rel.gz a v (by rw [upd_ne ha]; exact h)
 ·have ha : a ≠ q := ne_of_none h hG
  rw [upd_ne ha]
  exact rel.gf a v (by rw [upd_ne ha]; exact h)
theorem Rel.owned {K : PySem.W.Frag} {I : List Addr} {F G H : Hp} {w : W} {q : Addr} {u : HO} {o : MO} (rel : Rel K I F (upd G q u) w H) (hG : G q = none) (r : mJ K I F o u) : Ext I F (I ++ [q]) F ∧ Rel K (I ++ [q]) F G (w ++ [o]) H := by
 obtain ⟨hF, hI⟩ := rel.gf q u upd_same
 have e : Ext I F (I ++ [q]) F := ⟨List.prefix_append _ _, fun _ _ h => h⟩
 refine ⟨e, by simp [rel.len], ?_, fun i a o' h1 h2 => ?_, rel.fz, fun i a o' h h0 hf => ?_, fun a v h => ?_, fun a v h => ?_, fun a xs h => rel.gt a xs (by rw [upd_ne (ne_of_none h hG)]; exact h)⟩
 ·rw [List.nodup_append]
  exact ⟨rel.nd, by simp, fun a ha b hb => by simp at hb; subst hb; exact fun z => hI (z ▸ ha)⟩
 ·by_cases hi : i < I.length
  ·rw [aw hi] at h1
   rw [aw (by rw [← rel.len]; exact hi)] at h2
   obtain ⟨v, h3, h4⟩ := rel.ob i a o' h1 h2
   exact ⟨v, h3, mJ.ext e h4⟩
  ·have hi2 : i = I.length := by
    have := (ak.mp h1).1
    simp at this; omega
   subst hi2
   rw [bp (az _)] at h1
   simp at h1
   rw [rel.len, bp (az _)] at h2
   simp at h2
   subst h1 h2
   exact ⟨u, rel.gz _ _ upd_same, mJ.ext e r⟩
 ·by_cases hi : i < I.length
  ·rw [aw hi] at h
   rw [aw (by rw [← rel.len]; exact hi)] at h0
   exact rel.ap i a o' h h0 hf
  ·have hi2 : i = I.length := by
    have := (ak.mp h).1
    simp at this; omega
   subst hi2
   rw [bp (az _)] at h
   simp at h
   subst h; exact hF
 ·have ha : a ≠ q := ne_of_none h hG
  exact rel.gz a v (by rw [upd_ne ha]; exact h)
 ·have ha : a ≠ q := ne_of_none h hG
  have := rel.gf a v (by rw [upd_ne ha]; exact h)
  refine ⟨this.1, fun z => ?_⟩
  rcases bq.mp z with z | z
  ·exact this.2 z
  ·simp at z; exact ha z
def bV (σ : Sg) : List Nat → Sg
 | [] => σ
 | v :: vs => (bV σ vs).set v none
theorem e8.wipe {K : PySem.W.Frag} {I : List Addr} {F : Hp} {ds : Sg} {s : L2.St} (h : e8 K I F ds s) : ∀ vs : List Nat, e8 K I F (bV ds vs) (L2.wipe s vs)
 | [] => h
 | v :: vs => (h.wipe vs).unset v none
theorem BQ {s : L2.St} {i : Nat} {x : Option V} : ∀ {vs : List Nat}, i ∈ vs → L2.wipe (s.set i x) vs = L2.wipe s vs
 | [], h => by cases h
 | v :: vs, h => by
  show (L2.wipe (s.set i x) vs).set v none = (L2.wipe s vs).set v none
  by_cases hi : i ∈ vs
  ·rw [BQ hi]
  ·have hv : i = v := by
    rcases au.mp h with e | e
    ·exact e
    ·exact absurd e hi
   subst hv
   have key : ∀ ws : List Nat, i ∉ ws → L2.wipe (s.set i x) ws = (L2.wipe s ws).set i x := by
    intro ws
    induction ws with
    | nil => intro _; rfl
    | cons b bs ih =>
     intro hn
     show (L2.wipe (s.set i x) bs).set b none = ((L2.wipe s bs).set b none).set i x
     rw [ih (fun z => hn (av _ z))]
     rw [List.set_comm _ _ (fun z => hn (by rw [z]; exact aq ..))]
   rw [key vs hi, List.set_set]
theorem SG {s : L2.St} : ∀ {vs : List Nat}, L2.wipe (L2.wipe s vs) vs = L2.wipe s vs := by
 intro vs
 have key : ∀ ws : List Nat, (∀ v ∈ ws, v ∈ vs) → L2.wipe (L2.wipe s ws) vs = L2.wipe s vs := by
  intro ws
  induction ws with
  | nil => intro _; rfl
  | cons b bs ih =>
   intro h
   show L2.wipe ((L2.wipe s bs).set b none) vs = _
   rw [BQ (h b (aq ..)), ih fun v hv => h v (av _ hv)]
 exact key vs fun _ h => h
def RSw (K : PySem.W.Frag) (vs : List Nat) (σ : L2.St) (Q : L2.St → Hp → Prop) : List Addr → Hp → Hp → Sg → W → Prop := fun I' F' H' s _ => ∀ s', e8 K I' F' s s' → L2.wipe s' vs = L2.wipe σ vs → Q s' H'
def aCr (K : PySem.W.Frag) (E : XK) (vs : List Nat) (g : MG) : TG := fun v σ H Q => ∃ I F G d ds w, Rel K I F G w H ∧ e8 K I F ds σ ∧ aG K I F d v ∧ a9 K I F G E (RSw K vs σ Q) (g d ds w)
def aCY (K : PySem.W.Frag) (E : XK) (vs : List Nat) (g : IV) : TGs := fun v σ H Q => ∃ I F G d ds w, Rel K I F G w H ∧ e8 K I F ds σ ∧ RepL K I F d v ∧ a9 K I F G E (RSw K vs σ Q) (g d ds w)
def JC (S : aM) (vs : List Nat) (t : Expr) (g : MG) : Prop := ∀ X E, Ctx S X → pX X E → PG X t (aCr X.K E vs g)
def JCs (S : aM) (vs : List Nat) (t : List Expr) (g : IV) : Prop := ∀ X E, Ctx S X → pX X E → PGs X t (aCY X.K E vs g)
section
variable {S : aM} {pos : Pos} {vs : List Nat} {e : Expr} {es : List Expr} {g : MG} {r : IV}
theorem YU {i : Nat} {x : Str} (hi : S.N[i]? = some x) (hx : Sto S x) (hv : i ∈ vs) : JC S vs (.Name x pos) (aN i) := fun X E cx xo =>
 oW (pg_name (i := i) (x := x) cx.nd (by rw [cx.N]; exact hi) (by rw [cx.sc]; exact hx.1) (by rw [cx.sc]; exact hx.2.imp (cx.fn x) id)) fun v σ H Q ⟨I, F, G, d, ds, w, rel, rs, rv, p⟩ => p I F H .refl rel _ (rs.set i rv) (BQ hv)
theorem XW : JCs S vs [] bD := fun X E cx xo => p9 pgs_nil fun v σ H Q ⟨I, F, G, xs, ds, w, rel, rs, rv, p⟩ => by
 cases xs with
 | nil =>
  simp only [RepL] at rv
  exact ⟨rv, p I F H .refl rel _ rs rfl⟩
 | cons => exact p.elim
theorem KI (h1 : JC S vs e g) (h2 : JCs S vs es r) (hs : ∀ env : Env, (assignEach (e :: es) env).map (·.2) = assign e env :: (assignEach es env).map (·.2) := by intro _; rfl) : JCs S vs (e :: es) (aH g r) := fun X E cx xo =>
 p9 (pgs_cons (h1 X E cx xo) (h2 X E cx xo) (hs X.env)) fun v σ H Q ⟨I, F, G, xs, ds, w, rel, rs, rv, p⟩ => by
  cases xs with
  | nil => exact p.elim
  | cons x xs =>
   simp only [RepL] at rv
   obtain ⟨v, t, rfl, rv1, rvs⟩ := rv
   refine ⟨v, t, rfl, I, F, G, x, ds, w, rel, rs, rv1, (a9.bind p).mono fun I1 F1 H1 s w1 _ e1 rel1 p1 s' rs1 ew => ⟨I1, F1, G, xs, s, w1, rel1, rs1, RepL.ext e1 _ _ rvs, p1.mono fun I2 F2 H2 s2 w2 _ e2 rel2 p2 s3 rs3 ew3 => p2 s3 rs3 (ew3.trans ew)⟩⟩
theorem aBp {k n : Nat} (h : JCs S vs es r) (hn : ∀ env : Env, (assignEach es env).length = n := by intro _; rfl) (hst : ∀ env : Env, (assignEach es env).findIdx? (·.1) = none := by intro _; rfl) : JC S vs (.Tuple es k pos) (bJ n r) := fun X E cx xo =>
 oW (pg_tup cx.calm (h X E cx xo) (hn X.env) (hst X.env)) fun v σ H Q ⟨I, F, G, d, ds, w, rel, rs, rv, p⟩ => by
  cases d <;> first | exact p.elim | skip
  all_goals
   rename_i xs
   simp only [aG] at rv
   obtain ⟨a, us, rfl, h1, h2⟩ := rv
   simp only [bJ] at p
   split at p
   ·rename_i hl
    exact ⟨a, us, rfl, (by first | exact .of (rel.fz _ _ h1) | exact rel.MD h1), by rw [← h2.length]; exact hl, I, F, G, xs, ds, w, rel, rs, h2, p⟩
   ·exact p.elim
end
open Classical in
def iY (it : kP) (vs : List Nat) (g : MG) (t : MT) (e : ME) : List D → Sg → W → Res (List D)
 | [], σ, w => if it.ok w then .ok [] w else .bad
 | x :: xs, σ, w => if it.ok w then (g x (bV σ vs) w).SV.bind fun σ1 w1 => (t σ1 w1).SV.bind fun b w2 =>
   if b = true then (e σ1 w2).SV.bind fun y w3 => (iY it vs g t e xs σ w3).bind fun ys w4 => .ok (y :: ys) w4 else iY it vs g t e xs σ w2
  else .bad
def PY (m : MI) (vs : List Nat) (g : MG) (t : MT) (e : ME) : MA := fun σ w => (m σ w).bind fun it w1 => if it.xs.length ≤ sizeLine then iY it vs g t e it.xs σ w1 else .bad
def aS (m : MI) (vs : List Nat) (g : MG) (t : MT) (e : ME) : ME := fun σ w => (PY m vs g t e σ w).bind fun ys w1 => .ok (.lst ys) w1
def OA (m : MI) (vs : List Nat) (g : MG) (t : MT) (e : ME) : ME := fun σ w => (PY m vs g t e σ w).bind fun ys w1 => .ok (.ref w1.length) (w1 ++ [.lst ys])
def JTs (S : aM) (ifs : List Expr) (t : MT) : Prop := ∀ X E, Ctx S X → pX X E → PTs X ifs (V8 X.K E t)
def aT : MT := fun _ w => .ok true w
abbrev aM.blk (S : aM) (scope : Scope) : aM := { S with sc := relS scope S.sc, fn := fun x => scope.names.lookup x == some .cell }
theorem r7 {S : aM} {X : Cx} (c : Ctx S X) (s : Shared) (H : Hp) (scope : Scope) (C : Addr) (cl : List (Str × Addr)) (fp : List Addr) : Ctx (S.blk scope) (X.blk s H scope (compEnvC scope cl C X.env) fp) :=
 ⟨c.P, c.w, c.K, c.mg, c.base, c.N, by show relS scope X.env.scope = relS scope S.sc; rw [c.sc], fun _ h => h, c.calm, c.room, c.gds, c.nd⟩
theorem rP {X : Cx} (s : Shared) (H : Hp) (scope : Scope) (cenv : Env) (fp : List Addr) : pX (X.blk s H scope cenv fp) E0 :=
 ⟨fun _ _ ⟨_, _, _, _, _, _, _, _, _, _, _, _, _, _, _, _, h⟩ => h.elim, PassesOwn.never⟩
section
variable {S : aM} {pos : Pos} {elt tg iter c : Expr} {ifs : List Expr} {scope : Scope} {own : List (Str × Nat)} {mi : MI} {g : MG} {t : MT} {me : ME}
theorem bP : JTs S [] aT := fun X E cx xo => ⟨fun pins s σ H Q J ⟨I, F, G, ds, w, rel, rs, p⟩ => pts_nil.run pins s σ H Q J (p I F H .refl rel)⟩
theorem Y0 (h : JT S c t) : JTs S [c] t := fun X E cx xo => pts_one (h X E cx xo)
theorem KU {K : PySem.W.Frag} {E : XK} {vs : List Nat} {f : List D → W → Res D} {σ : L2.St} {H : Hp} {Q : VK} (h : sC K E (fun σ w => (PY mi vs g t me σ w).bind f) σ H Q)
  (fin : ∀ I F G w H q xs us, Rel K I F (upd G q (.lst us)) w H → G q = none → RepL K I F xs us → a9 K I F G E (RV K Q) (f xs w) → Q (.ref q) H) :
  tLc (aDc K E mi) (aCr K E0 vs g) (V8 K E0 t) (sC K E0 me) vs σ H Q := by
 obtain ⟨I, F, G, ds, w, rel, rs, p⟩ := h
 have p0 : a9 K I F G E (RV K Q) ((mi ds w).bind fun it w1 => (if it.xs.length ≤ sizeLine then iY it vs g t me it.xs ds w1 else .bad).bind f) := by
  rw [← Res.bind_assoc]; exact p
 refine ⟨I, F, G, ds, w, rel, rs, (a9.bind p0).mono fun I1 F1 H1 it w1 _ e1 rel1 p1 hok J hJ q hq => ?_⟩
 have hG : G q = none := by
  cases h : G q with
  | none => rfl
  | some u => rw [rel1.gz _ _ h] at hq; cases hq
 split at p1
 ·rename_i hz
  refine ⟨fun i n H' => n = it.xs.length - i ∧ i ≤ it.xs.length ∧ ∃ I' F' w' xs us, Ext I1 F1 I' F' ∧ Rel K I' F' (upd G q (.lst us)) w' H' ∧ RepL K I' F' xs us ∧ xs.length ≤ i ∧
    a9 K I' F' G E (RV K Q) ((iY it vs g t me (it.xs.drop i) ds w').bind fun ys w2 => f (xs ++ ys) w2),
   ⟨it.xs.length, by simp, Nat.zero_le _, I1, F1, w1, [], [], .refl, rel1.keep hq, by simp [RepL], az _, by simpa using p1⟩, ?_⟩
  rintro i n H' ⟨rfl, hi, I', F', w', xs, us, e', rel', rx, hxi, p'⟩
  by_cases hlt : i < it.xs.length
  ·rw [List.drop_eq_getElem_cons hlt] at p'
   unfold iY at p'
   split at p'
   ·rename_i hw
    obtain ⟨h1, _⟩ := hJ I' F' _ w' H' i e' rel' hw
    obtain ⟨hgo, hy⟩ := h1 _ (bf hlt)
    refine .inr ⟨hgo, fun H2 => ∃ I2 F2 w2 xs2 us2, Ext I1 F1 I2 F2 ∧ Rel K I2 F2 (upd G q (.lst us2)) w2 H2 ∧ RepL K I2 F2 xs2 us2 ∧ xs2.length ≤ i + 1 ∧ a9 K I2 F2 G E (RV K Q) ((iY it vs g t me (it.xs.drop (i + 1)) ds w2).bind fun ys w2 => f (xs2 ++ ys) w2),
     fun H2 q => ⟨it.xs.length - (i + 1), by omega, rfl, hlt, q⟩, fun v H2 y => ?_⟩
    obtain ⟨F2, e2, rel2, rv⟩ := hy v H2 y
    have p2 := p'.ext e2
    rw [Res.bind_assoc] at p2
    -- from here on the list at q lies still
    have still : ∀ {α : Type} {R : List Addr → Hp → Hp → α → W → Prop} {r : Res α} {I3 : List Addr} {F3 : Hp}, a9 K I3 F3 G E0 R r → a9 K I3 F3 (upd G q (.lst us)) E0 (fun I' F' H' a w => Rel K I' F' (upd G q (.lst us)) w H' ∧ ∀ H'', Rel K I' F' G w H'' → R I' F' H'' a w) r := by
     intro α R r I3 F3 hp
     cases r with
     | ok a w => exact fun I' F' H' e q => ⟨q, fun H'' q' => hp I' F' H'' e q'⟩
     | E5 x w =>
      intro I' F' H' c d e q rx
      exact hp I' F' H' c d e ⟨q.len, q.nd, q.ob, q.fz, q.ap, fun a u h => q.gz a u (by rw [upd_ne (ne_of_none h hG)]; exact h), fun a u h => q.gf a u (by rw [upd_ne (ne_of_none h hG)]; exact h), fun a xs h => q.gt a xs (by rw [upd_ne (ne_of_none h hG)]; exact h)⟩ rx
     | bad => exact hp
    have less : ∀ {I3 : List Addr} {F3 : Hp} {w3 : W} {H3 : Hp}, Rel K I3 F3 (upd G q (.lst us)) w3 H3 → Rel K I3 F3 G w3 H3 := fun {I3 F3 w3 H3} q => ⟨q.len, q.nd, q.ob, q.fz, q.ap, fun a u h => q.gz a u (by rw [upd_ne (ne_of_none h hG)]; exact h), fun a u h => q.gf a u (by rw [upd_ne (ne_of_none h hG)]; exact h), fun a xs h => q.gt a xs (by rw [upd_ne (ne_of_none h hG)]; exact h)⟩
    refine ⟨I', F2, upd G q (.lst us), _, bV ds vs, w', rel2, (((rs.ext e1).ext e').ext e2).wipe vs, rv, (still (a9.U5 p2)).mono fun I3 F3 H3 s3 w3 _ e3 rel3 p3 σ3 rs3 ew => ⟨ew.trans SG, ?_⟩⟩
    have p3' := p3.2 H3 (less rel3)
    rw [Res.bind_assoc] at p3'
    refine ⟨I3, F3, upd G q (.lst us), s3, w3, rel3, rs3, (still (a9.U5 p3')).mono fun I4 F4 H4 b w4 _ e4 rel4 p4 => ?_⟩
    have p4' := p4.2 H4 (less rel4)
    cases b with
    | true =>
     simp only [ae] at p4' ⊢
     rw [Res.bind_assoc] at p4'
     refine ⟨I4, F4, upd G q (.lst us), s3, w4, rel4, rs3.ext e4, (still (a9.U5 p4')).mono fun I5 F5 H5 y w5 _ e5 rel5 p5 u ru => ?_⟩
     have p5' := p5.2 H5 (less rel5)
     rw [Res.bind_assoc] at p5'
     have ee : Ext I' F' I5 F5 := ((e2.trans e3).trans e4).trans e5
     refine ⟨us, rel5.gz _ _ upd_same, by rw [← rx.length]; omega, I5, F5, w5, xs ++ [y], us ++ [u], e'.trans ee, rel5.V1, (RepL.ext ee _ _ rx).append (RepL.cons ru (by simp [RepL])), by simp; omega, ?_⟩
     simpa using p5'
    | false =>
     simp only [bz, ab] at p4' ⊢
     exact ⟨I4, F4, w4, xs, us, (e'.trans e2).trans (e3.trans e4), rel4, RepL.ext ((e2.trans e3).trans e4) _ _ rx, by omega, p4'⟩
   ·exact p'.elim
  ·have hl : i = it.xs.length := by omega
   subst hl
   rw [List.drop_length] at p'
   unfold iY at p'
   split at p'
   ·rename_i hw
    refine .inl ⟨(hJ I' F' _ w' H' _ e' rel' hw).2 rfl, fin I' F' G w' H' q xs us rel' hG rx ?_⟩
    simpa using p'
   ·exact p'.elim
 ·exact p1.elim
theorem RE {K : PySem.W.Frag} {E : XK} {Q : VK} (I : List Addr) (F G : Hp) (w : W) (H : Hp) (q : Addr) (xs : List D) (us : List V) (rel : Rel K I F (upd G q (.lst us)) w H) (hG : G q = none) (rx : RepL K I F xs us)
  (p : a9 K I F G E (RV K Q) (.ok (.lst xs) w)) : Q (.ref q) H := by
 obtain ⟨e, rel2⟩ := rel.aCO hG
 exact p _ _ H e rel2 _ (by simp only [aG]; exact ⟨q, us, rfl, upd_same, RepL.ext e _ _ rx⟩)
theorem bT (hi : JI S tg iter mi) (hb : blkC S.N S.sc scope own = true) (hg : JC (S.blk scope) (own.map (·.2)) tg g) (ht : JTs (S.blk scope) ifs t) (he : JE (S.blk scope) elt me)
  (hs : ∀ (env : Env) x, foldedSetIterable iter env x = pure x := by intro _ _; rfl) : JE S (.ListComp elt [⟨tg, iter, ifs, 0⟩] scope pos) (aS mi (own.map (·.2)) g t me) := fun X E cx xo =>
 b6 (pe_lc (own := own) cx.calm cx.nd (hi X E cx xo) (blkOk_by (by rw [cx.N, cx.sc]; exact hb)) (fun s H C cl fp => hg _ E0 (r7 cx s H scope C cl fp) (rP ..)) (fun s H C cl fp => ht _ E0 (r7 cx s H scope C cl fp) (rP ..))
  (fun s H C cl fp => he _ E0 (r7 cx s H scope C cl fp) (rP ..)) (hs X.env)) fun σ H Q h => KU h RE
theorem N8 {i : Nat} {y : Str} {py spos : Pos} (hy : S.N[i]? = some y) (hyl : S.sc.names.lookup y = some .local) (hsw : ∀ env : Env, env.scope = S.sc → env.scope.kind = .function → swapsWith (.ListComp elt [⟨tg, iter, ifs, 0⟩] scope pos) (some (.Name y py)) spos.line env = pure true)
  (hi : JI S tg iter mi) (hb : blkC S.N S.sc scope own = true) (hg : JC (S.blk scope) (own.map (·.2)) tg g) (ht : JTs (S.blk scope) ifs t) (he : JE (S.blk scope) elt me)
  (hk : S.sc.kind = .function) (hs : ∀ (env : Env) x, foldedSetIterable iter env x = pure x := by intro _ _; rfl) : JS S (.Assign [.Name y py] (.ListComp elt [⟨tg, iter, ifs, 0⟩] scope pos) spos) (aO (aS mi (own.map (·.2)) g t me) (aN i)) := fun X E cx xo =>
 kU (ps_setLc (i := i) (own := own) cx.calm cx.nd (by rw [cx.N]; exact hy) (by rw [cx.sc]; exact hyl) (hsw X.env cx.sc (by rw [cx.sc]; exact hk)) (hi X E cx xo) (blkOk_by (by rw [cx.N, cx.sc]; exact hb)) (fun s H C cl fp => hg _ E0 (r7 cx s H scope C cl fp) (rP ..)) (fun s H C cl fp => ht _ E0 (r7 cx s H scope C cl fp) (rP ..))
  (fun s H C cl fp => he _ E0 (r7 cx s H scope C cl fp) (rP ..)) (hs X.env)) fun Z σ H ⟨I, F, G, ds, w, rel, rs, p⟩ => by
  obtain ⟨I, F, G, ds, w, rel, rs, q⟩ : sC X.K E (aS mi (own.map (·.2)) g t me) σ H (fun x H1 => gName i x σ H1 Z.nx) := bR (f := fun ds d w1 => (aN i d ds w1).bind fun σ2 w2 => Res.ok (Fl.nx σ2) w2) rel rs p fun I1 F1 H1 x w1 v e1 rel1 rs1 rv p1 => p1 I1 F1 H1 .refl rel1 _ (rs1.set i rv)
  exact KU (f := fun ys w1 => Res.ok (D.lst ys) w1) ⟨I, F, G, ds, w, rel, rs, q⟩ RE
end
def keyD : D → Option Key
 | .int i => some (.inl i)
 | .str x => some (.inr x)
 | _ => none
def uV : List D → Option (List Key)
 | [] => some []
 | d :: ds => match keyD d, uV ds with
  | some k, some ks => some (k :: ks)
  | _, _ => none
def mP {κ : Type} [DecidableEq κ] : List (κ × D) → κ → Option D
 | [], _ => none
 | (j, d) :: r, k => if j = k then some d else mP r k
def putD {κ : Type} [DecidableEq κ] (kvs : List (κ × D)) (k : κ) (d : D) : List (κ × D) :=
 if (mP kvs k).isSome then kvs.map (fun p => if p.1 = k then (p.1, d) else p) else kvs ++ [(k, d)]
section
variable {K : PySem.W.Frag} {I : List Addr} {F G H : Hp} {w : W} {κ : Type} [DecidableEq κ]
def K5 (K : PySem.W.Frag) (I : List Addr) (F : Hp) : Option D → Option V → Prop
 | some d, q => ∃ v, q = some v ∧ aG K I F d v
 | none, q => q = none
theorem aP.look : ∀ {kvs : List (κ × D)} {r : List (κ × V)} (k : κ), aP K I F kvs r → K5 K I F (mP kvs k) (valV r k)
 | [], r, k, h => by simp only [aP] at h; subst h; rfl
 | (j, d) :: kvs, r, k, h => by
  simp only [aP] at h
  obtain ⟨v, t, rfl, h1, h2⟩ := h
  simp only [mP]
  by_cases e : j = k
  ·rw [if_pos e]; exact ⟨v, by rw [valV_pos e], h1⟩
  ·rw [if_neg e]
   have := aP.look k h2
   rw [valV_neg (by exact e)]
   exact this
theorem aP.length : ∀ {kvs : List (κ × D)} {r : List (κ × V)}, aP K I F kvs r → kvs.length = r.length
 | [], r, h => by simp only [aP] at h; subst h; rfl
 | (j, d) :: kvs, r, h => by
  simp only [aP] at h
  obtain ⟨v, t, rfl, h1, h2⟩ := h
  simp [aP.length h2]
theorem aP.repl {d : D} {v : V} (k : κ) (hv : aG K I F d v) : ∀ {kvs : List (κ × D)} {r : List (κ × V)}, aP K I F kvs r → aP K I F (kvs.map (fun p => if p.1 = k then (p.1, d) else p)) (r.map (fun p => if p.1 = k then (p.1, v) else p))
 | [], r, h => by simp only [aP] at h; subst h; simp [aP]
 | (j, x) :: kvs, r, h => by
  simp only [aP] at h
  obtain ⟨u, t, rfl, h1, h2⟩ := h
  simp only [List.map_cons]
  by_cases e : j = k
  ·rw [if_pos e, if_pos e]; simp only [aP]; exact ⟨v, _, rfl, hv, aP.repl k hv h2⟩
  ·rw [if_neg e, if_neg e]; simp only [aP]; exact ⟨u, _, rfl, h1, aP.repl k hv h2⟩
theorem aP.snoc {d : D} {v : V} (k : κ) (hv : aG K I F d v) : ∀ {kvs : List (κ × D)} {r : List (κ × V)}, aP K I F kvs r → aP K I F (kvs ++ [(k, d)]) (r ++ [(k, v)])
 | [], r, h => by simp only [aP] at h; subst h; simp only [List.nil_append, aP]; exact ⟨v, [], rfl, hv, rfl⟩
 | (j, x) :: kvs, r, h => by
  simp only [aP] at h
  obtain ⟨u, t, rfl, h1, h2⟩ := h
  simp only [List.cons_append, aP]
  exact ⟨u, _, rfl, h1, aP.snoc k hv h2⟩
theorem YD (r : List (κ × V)) (k : κ) (v : V) : putK r k v = if (valV r k).isSome then r.map (fun p => if p.1 = k then (p.1, v) else p) else r ++ [(k, v)] := by
 unfold putK
 rw [valV_any]
theorem aP.put {d : D} {v : V} (k : κ) (hv : aG K I F d v) {kvs : List (κ × D)} {r : List (κ × V)} (h : aP K I F kvs r) : aP K I F (putD kvs k d) (putK r k v) := by
 rw [YD]
 unfold putD
 have hl := h.look k
 cases e : mP kvs k with
 | some x =>
  rw [e] at hl
  obtain ⟨u, hu, _⟩ := hl
  rw [hu]
  exact h.repl k hv
 | none =>
  rw [e] at hl
  rw [hl]
  exact h.snoc k hv
theorem qD {d : D} {v : V} {k : Key} (h : aG K I F d v) (e : keyD d = some k) : v = kV k := by
 cases d <;> simp only [keyD, af, reduceCtorEq] at e
 ·subst e; simp only [aG] at h; exact h
 ·subst e; simp only [aG] at h; exact h
theorem rY : ∀ {ds : List D} {vs : List V} {ks : List Key}, RepL K I F ds vs → uV ds = some ks → vs = ks.map kV
 | [], vs, ks, h, e => by simp only [uV, af] at e; subst e; simp only [RepL] at h; exact h
 | d :: ds, vs, ks, h, e => by
  simp only [RepL] at h
  obtain ⟨v, r, rfl, h1, h2⟩ := h
  simp only [uV] at e
  split at e
  ·rename_i k ks' e1 e2
   cases e
   rw [qD h1 e1, rY h2 e2]
   rfl
  ·cases e
theorem Rel.upd {i : Nat} {a : Addr} {o o' : MO} {u' : HO} (rel : Rel K I F G w H) (hi : I[i]? = some a) (ho : w[i]? = some o) (r : mJ K I F o' u') (hf : o.fz = false := by rfl) : Rel K I F G (w.set i o') (upd H a u') := by
 have hF : F a = none := rel.ap i a o hi ho hf
 have hil : i < w.length := (ak.mp ho).1
 refine ⟨by simp [rel.len], rel.nd, fun j b q h1 h2 => ?_, fun b u h => ?_, fun j b q h1 h2 h3 => ?_, fun b u h => ?_, rel.gf, rel.gt⟩
 ·by_cases hj : i = j
  ·subst hj
   rw [bu hil] at h2
   cases h2
   rw [hi] at h1; cases h1
   exact ⟨u', upd_same, r⟩
  ·rw [bc hj] at h2
   obtain ⟨u, h3, h4⟩ := rel.ob j b q h1 h2
   have hb : b ≠ a := fun z => by
    subst z
    obtain ⟨l1, e1⟩ := ak.mp hi
    obtain ⟨l2, e2⟩ := ak.mp h1
    exact hj ((List.getElem_inj rel.nd).mp (e1.trans e2.symm))
   exact ⟨u, by rw [upd_ne hb]; exact h3, h4⟩
 ·rw [upd_ne (ne_of_none h hF)]; exact rel.fz b u h
 ·by_cases hj : i = j
  ·subst hj
   rw [hi] at h1; cases h1; exact hF
  ·rw [bc hj] at h2
   exact rel.ap j b q h1 h2 h3
 ·have hb : b ≠ a := fun z => (rel.gf b u h).2 (z ▸ cc hi)
  rw [upd_ne hb]; exact rel.gz b u h
end
theorem RepL.at' {K : PySem.W.Frag} {I : List Addr} {F : Hp} {ds : List D} {vs : List V} (r : RepL K I F ds vs) {i : Int} {d : D} (h : atI ds i = some d) : ∃ v, atI vs i = some v ∧ aG K I F d v := by
 unfold atI at h ⊢
 rw [← r.length]
 cases e : ixN ds.length i with
 | none => rw [e] at h; cases h
 | some j => rw [e] at h; exact r.get h
def oE (o : MO) (y : D) : Option (Option D) := match o, y with
 | .dK kvs, y => (keyD y).map (mP kvs)
 | .dF kvs, y => (keyD y).map (mP kvs)
 | .dT kvs, .tup ys => (uV ys).map (mP kvs)
 | .dG kvs, .tup ys => (uV ys).map (mP kvs)
 | _, _ => none
def VD (xs : List D) (y : D) (w : W) : Res D := match y with
 | .int i => (match atI xs i with
  | some d => .ok d w
  | none => .bad)
 | _ => .bad
def atS (z : Str) (y : D) (w : W) : Res D := match y with
 | .int i => if z.length ≤ sizeLine then (match atI z.cps.toList i with
   | some c => .ok (.str ⟨#[c]⟩) w
   | none => .bad) else .bad
 | _ => .bad
def aZ (x y : D) (w : W) : Res D := match x with
 | .tup xs => VD xs y w
 | .pW xs => VD xs y w
 | .lst xs => VD xs y w
 | .mH xs => VD xs y w
 | .str z => atS z y w
 | .ref r => (match w[r]? with
  | some (.lst xs) => VD xs y w
  | some o => (match oE o y with
   | some (some d) => .ok d w
   | _ => .bad)
  | none => .bad)
 | _ => .bad
theorem ZM {X : Cx} (hu : X.A.units + 1 < cLine) : IxR X (fun x y H Q => ∃ a v, x = .ref a ∧ DGet H a y (some v) ∧ Q v H) := by
 intro value slice pins s σ H x y ov iv Q J rx ry h hs
 obtain ⟨a, v, ex, g, q⟩ := h
 subst ex
 cases rx
 have hT : s.TypeIs (.ref a) "dict" := dict_typeIs J g
 unfold subscriptTail
 apply wpAny_bind
 rw [getitemInPython_of_ne hT.not_modules]
 apply wpAny_bind
 apply wpAny_specialOf hT PySem.F.slot_dict_getitem.lookup
 have fin : wpAny (model X.prog X.w) X.A (subscripted slice false (.ref a) iv) (fun r s₃ => wpAny (model X.prog X.w) X.A (letTemporaryGo value (.ref a) r >>= fun _ => pure r) (EP X pins σ Q) X.xe s₃) X.xe s := by
  rw [hs]
  apply wpAny_operating
  exact d_getItem hu J g ry fun w' s3 J3 rw' => wpAny_bind (wpAny_letTemporaryGo (wpAny_pure ⟨v, H, J3, rw', q⟩))
 first
  | exact wpAny_pure (wpAny_bind fin)
  | exact wpAny_bind (wpAny_pure (wpAny_bind fin))
  | exact wpAny_bind fin
theorem zP {K : PySem.W.Frag} {I : List Addr} {F G H : Hp} {w : W} (rel : Rel K I F G w H) {i : Nat} {a : Addr} {o : MO} {y : D} {v : V} {r : Option D} (hi : I[i]? = some a) (ho : w[i]? = some o) (ry : aG K I F y v) (e : oE o y = some r) :
  ∃ q, DGet H a v q ∧ K5 K I F r q := by
 obtain ⟨u, hu, ro⟩ := rel.ob i a o hi ho
 cases o with
 | lst => simp [oE] at e
 | ins => simp [oE] at e
 | dK kvs =>
  obtain ⟨t, rfl, rk⟩ := ro
  simp only [oE, aj] at e
  obtain ⟨k, ek, rfl⟩ := e
  exact ⟨valV t k, .inl ⟨t, k, .inl hu, qD ry ek, rfl⟩, rk.look k⟩
 | dF kvs =>
  obtain ⟨ob, t, rfl, rk⟩ := ro
  simp only [oE, aj] at e
  obtain ⟨k, ek, rfl⟩ := e
  exact ⟨valV t k, .inl ⟨t, k, .inr ⟨ob, hu⟩, qD ry ek, rfl⟩, rk.look k⟩
 | dT kvs =>
  obtain ⟨t, rfl, rk⟩ := ro
  cases y <;> simp only [oE, aj, reduceCtorEq] at e
  obtain ⟨k, ek, rfl⟩ := e
  simp only [aG] at ry
  obtain ⟨b, us, rfl, hb, rl⟩ := ry
  obtain rfl := rY rl ek
  exact ⟨valV t k, .inr ⟨t, k, b, .inl hu, rfl, rel.fz _ _ hb, rfl⟩, rk.look k⟩
 | dG kvs =>
  obtain ⟨ob, t, rfl, rk⟩ := ro
  cases y <;> simp only [oE, aj, reduceCtorEq] at e
  obtain ⟨k, ek, rfl⟩ := e
  simp only [aG] at ry
  obtain ⟨b, us, rfl, hb, rl⟩ := ry
  obtain rfl := rY rl ek
  exact ⟨valV t k, .inr ⟨t, k, b, .inr ⟨ob, hu⟩, rfl, rel.fz _ _ hb, rfl⟩, rk.look k⟩
def UQ (S : aM) (f : D → D → W → Res D) : Prop := ∀ X E, Ctx S X → pX X E → IxR X (VL X.K E f)
section
variable {S : aM} {pos : Pos} {a b : Expr} {ma mb : ME}
theorem MW {f : D → D → W → Res D}
  (h : ∀ (X : Cx) (E : XK), Ctx S X → pX X E → ∀ (I : List Addr) (F G : Hp) (d e : D) (w : W) (H : Hp) (x y : V) (Q : VK), Rel X.K I F G w H → aG X.K I F d x → aG X.K I F e y → a9 X.K I F G E (RV X.K Q) (f d e w) →
   ∃ r : R2, IxR X r ∧ r x y H Q) : UQ S f := fun X E c xo value slice pins s σ H x y v u Q J rx ry ⟨I, F, G, d, e, w, rel, rd, re, p⟩ hs => by
 obtain ⟨r, ho, hr⟩ := h X E c xo I F G d e w H x y Q rel rd re p
 exact ho value slice pins s σ H x y v u Q J rx ry hr hs
theorem AZ {X : Cx} {E : XK} {I : List Addr} {F G : Hp} {e : D} {w : W} {H : Hp} {x y : V} {Q : VK} (rel : Rel X.K I F G w H) (re : aG X.K I F e y) {xs : List D} {vs : List V} {q : Addr} (h1 : SqL X.K H q vs ∨ SqT X.K H q vs) (h2 : RepL X.K I F xs vs) (ex : x = .ref q)
  (p : a9 X.K I F G E (RV X.K Q) (VD xs e w)) : ∃ r : R2, IxR X r ∧ r x y H Q := by
 cases e <;> first | exact p.elim | skip
 rename_i i
 simp only [aG] at re
 simp only [VD] at p
 cases ha : atI xs i with
 | none => rw [ha] at p; exact p.elim
 | some d =>
  rw [ha] at p
  obtain ⟨v, hv, rv⟩ := h2.at' ha
  rcases h1 with h1 | h1
  ·exact ⟨_, ix_list, q, vs, i, v, ex, re, h1, hv, p.nE rel rv⟩
  ·exact ⟨_, ix_tup, q, vs, i, v, ex, re, h1, hv, p.nE rel rv⟩
theorem aCW : UQ S aZ := MW fun X E c xo I F G d e w H x y Q rel rd re p => by
 cases d <;> first | exact p.elim | skip
 case str z =>
  cases e <;> first | exact p.elim | skip
  rename_i i
  simp only [aG] at rd re
  simp only [aZ, atS] at p
  split at p
  ·rename_i hz
   split at p
   ·rename_i c hc
    exact ⟨_, ix_str, z, i, c, rd, re, hz, hc, p.nE rel (by simp [aG])⟩
   ·exact p.elim
  ·exact p.elim
 case tup xs =>
  simp only [aG] at rd
  obtain ⟨q, vs, ex, h1, h2⟩ := rd
  exact AZ rel re (.inr (.of (rel.fz _ _ h1))) h2 ex p
 case pW xs =>
  simp only [aG] at rd
  obtain ⟨q, vs, ex, h1, h2⟩ := rd
  exact AZ rel re (.inr (rel.MD h1)) h2 ex p
 case lst xs =>
  simp only [aG] at rd
  obtain ⟨q, vs, ex, h1, h2⟩ := rd
  exact AZ rel re (.inl (.of (rel.fz _ _ h1))) h2 ex p
 case mH xs =>
  simp only [aG] at rd
  obtain ⟨q, vs, ex, h1, h2⟩ := rd
  exact AZ rel re (.inl (rel.QJ h1)) h2 ex p
 case ref i =>
  simp only [aG] at rd
  obtain ⟨q, ex, h1⟩ := rd
  simp only [aZ] at p
  split at p
  ·rename_i xs hw
   obtain ⟨u, hu, vs, rfl, h2⟩ := rel.ob i q _ h1 hw
   exact AZ rel re (.inl (.of hu)) h2 ex p
  ·rename_i o hn hw
   split at p
   ·rename_i d hd
    obtain ⟨r, hr, u, rfl, ru⟩ := zP rel h1 hw re hd
    exact ⟨_, ZM (by have := c.room.units; omega), q, u, ex, hr, p.nE rel ru⟩
   ·exact p.elim
  ·exact p.elim
theorem j5 (ha : JE S a ma) (hb : JE S b mb) (hs : PlainIx b := by intro _ _; rfl) : JE S (.Subscript a b pos) (aD aZ ma mb) := fun X E c xo =>
 b6 (pe_ix (aCW X E c xo) (ha X E c xo) (hb X E c xo) hs) fun _ _ _ h => vC h
end
abbrev MO' := Sg → W → Res (Option Int)
def c6 : MO' := fun _ w => .ok none w
def cG (m : ME) : MO' := fun σ w => (m σ w).bind fun d w1 => match d with
 | .int i => .ok (some i) w1
 | _ => .bad
def RO (Q : Option Int → Hp → Prop) : List Addr → Hp → Hp → Option Int → W → Prop := fun _ _ H' o _ => Q o H'
def aDN (K : PySem.W.Frag) (E : XK) (m : MO') : TO := fun σ H Q => ∃ I F G ds w, Rel K I F G w H ∧ e8 K I F ds σ ∧ a9 K I F G E (RO Q) (m ds w)
def JO (S : aM) (e : Option Expr) (m : MO') : Prop := ∀ X E, Ctx S X → pX X E → PO X e (aDN X.K E m)
def cutD (xs : List D) (lo hi : Option Int) : List D := (xs.drop (HT.sIx xs.length 0 lo)).take (HT.sIx xs.length xs.length hi - HT.sIx xs.length 0 lo)
def m9 (x : D) (lo hi : Option Int) (w : W) : Res D := match x with
 | .tup xs => .ok (.tup (cutD xs lo hi)) w
 | .str z => if z.length ≤ sizeLine then .ok (.str (cutS z lo hi)) w else .bad
 | .lst xs => .ok (.lst (cutD xs lo hi)) w
 | .mH xs => .ok (.lst (cutD xs lo hi)) w
 | .ref i => (match w[i]? with
  | some (.lst xs) => .ok (.lst (cutD xs lo hi)) w
  | _ => .bad)
 | _ => .bad
def qF (f : D → Option Int → Option Int → W → Res D) (a : ME) (lo hi : MO') : ME := fun σ w => (a σ w).bind fun x w1 => (lo σ w1).bind fun l w2 => (hi σ w2).bind fun u w3 => f x l u w3
theorem RepL.cutV {K : PySem.W.Frag} {I : List Addr} {F : Hp} {ds : List D} {vs : List V} (r : RepL K I F ds vs) (lo hi : Option Int) : RepL K I F (cutD ds lo hi) (L2.cutV vs lo hi) := by
 unfold cutD L2.cutV
 rw [← r.length]
 exact (r.drop _).take _
theorem RP {xs : List D} {lo hi : Option Int} (h : HT.sIx xs.length 0 lo = 0 ∧ HT.sIx xs.length xs.length hi = xs.length) : cutD xs lo hi = xs := by
 unfold cutD
 rw [h.1, h.2]
 simp
def SlM (S : aM) (f : D → Option Int → Option Int → W → Res D) : Prop := ∀ X E, Ctx S X → pX X E → ∀ (I : List Addr) (F G : Hp) (d : D) (w : W) (H : Hp) (x : V) (lo hi : Option Int) (Q : VK), Rel X.K I F G w H → aG X.K I F d x → a9 X.K I F G E (RV X.K Q) (f d lo hi w) →
   ∃ r, SlR X r ∧ r x lo hi H Q
def aB7 (K : PySem.W.Frag) (E : XK) (f : D → Option Int → Option Int → W → Res D) : V → Option Int → Option Int → Hp → VK → Prop := fun x lo hi H Q => ∃ I F G d w, Rel K I F G w H ∧ aG K I F d x ∧ a9 K I F G E (RV K Q) (f d lo hi w)
section
variable {S : aM} {pos p2 : Pos} {a e : Expr} {ma m : ME} {lo hi : Option Expr} {ml mh : MO'} {f : D → Option Int → Option Int → W → Res D}
theorem oO : JO S none c6 := fun X E c xo => ⟨fun pins s σ H Q J ⟨I, F, G, ds, w, rel, rs, p⟩ => po_none.run pins s σ H Q J (p I F H .refl rel)⟩
theorem kY (h : JE S e m) : JO S (some e) (cG m) := fun X E c xo => ⟨fun pins s σ H Q J ⟨I, F, G, ds, w, rel, rs, p⟩ => (po_some (h X E c xo)).run pins s σ H Q J
 (bR (f := fun _ d w1 => match d with
  | .int i => Res.ok (some i) w1
  | _ => .bad) rel rs p fun I1 F1 H1 x w1 v e1 rel1 rs1 rv p1 => by
  cases x <;> first | exact p1.elim | skip
  simp only [aG] at rv
  exact ⟨_, rv, p1 I1 F1 H1 .refl rel1⟩)⟩
theorem yI : SlM S m9 := fun X E c xo I F G d w H x lo hi Q rel rd p => by
 cases d <;> first | exact p.elim | skip
 case tup xs =>
  simp only [aG] at rd
  obtain ⟨q, vs, ex, h1, h2⟩ := rd
  refine ⟨_, sl_tupA, q, vs, ex, .of (rel.fz _ _ h1), fun hw => ?_, fun hw => ?_⟩
  ·rw [← h2.length] at hw
   refine p.nE rel ?_
   rw [RP hw]
   simp only [aG]
   exact ⟨q, vs, ex ▸ rfl, h1, h2⟩
  ·exact u9 rel (h2.cutV lo hi) p
 case str z =>
  simp only [aG] at rd
  simp only [m9] at p
  split at p
  ·rename_i hz
   exact ⟨_, sl_str, z, rd, hz, p.nE rel (by simp [aG])⟩
  ·exact p.elim
 case lst xs =>
  simp only [aG] at rd
  obtain ⟨q, vs, ex, h1, h2⟩ := rd
  exact ⟨_, sl_list, q, vs, ex, .of (rel.fz _ _ h1), iQ rel (h2.cutV lo hi) p⟩
 case mH xs =>
  simp only [aG] at rd
  obtain ⟨q, vs, ex, h1, h2⟩ := rd
  exact ⟨_, sl_list, q, vs, ex, rel.QJ h1, iQ rel (h2.cutV lo hi) p⟩
 case ref i =>
  simp only [aG] at rd
  obtain ⟨q, ex, h1⟩ := rd
  simp only [m9] at p
  split at p
  ·rename_i xs hw
   obtain ⟨u, hu, vs, rfl, h2⟩ := rel.ob i q _ h1 hw
   exact ⟨_, sl_list, q, vs, ex, .of hu, iQ rel (h2.cutV lo hi) p⟩
  ·exact p.elim
theorem yE (hf : SlM S f) (ha : JE S a ma) (hl : JO S lo ml) (hh : JO S hi mh) : JE S (.Subscript a (.Slice lo hi none p2) pos) (qF f ma ml mh) := fun X E c xo => by
 have hr : SlR X (aB7 X.K E f) := fun pins s σ H x v vl vu l u sl Q J rx hs pl pu ⟨I, F, G, d, w, rel, rd, p⟩ => by
  obtain ⟨r, h1, h2⟩ := hf X E c xo I F G d w H x l u Q rel rd p
  exact h1 pins s σ H x v vl vu l u sl Q J rx hs pl pu h2
 refine b6 (pe_slice hr (ha X E c xo) (hl X E c xo) (hh X E c xo)) fun σ H Q ⟨I, F, G, ds, w, rel, rs, p⟩ => ?_
 refine bR (f := fun ds x w1 => (ml ds w1).bind fun l w2 => (mh ds w2).bind fun u w3 => f x l u w3) rel rs p fun I1 F1 H1 x w1 v e1 rel1 rs1 rv p1 => ?_
 refine ⟨I1, F1, G, ds, w1, rel1, rs1, (a9.bind p1).mono fun I2 F2 H2 l w2 _ e2 rel2 p2 => ?_⟩
 refine ⟨I2, F2, G, ds, w2, rel2, rs1.ext e2, (a9.bind p2).mono fun I3 F3 H3 u w3 _ e3 rel3 p3 => ?_⟩
 exact ⟨I3, F3, G, x, w3, rel3, aG.ext (e2.trans e3) _ _ rv, p3⟩
end
def setM (o i d : D) (w : W) : Res Unit := match o with
 | .ref r => (match w[r]? with
  | some (.lst xs) => (match i with
   | .int k => (match ixN xs.length k with
    | some j => .ok () (w.set r (.lst (xs.set j d)))
    | none => .bad)
   | _ => .bad)
  | some (.dK kvs) => (match keyD i with
   | some k => if kvs.length < sizeLine then .ok () (w.set r (.dK (putD kvs k d))) else .bad
   | none => .bad)
  | some (.dT kvs) => (match i with
   | .tup ys => (match uV ys with
    | some k => if kvs.length < sizeLine then .ok () (w.set r (.dT (putD kvs k d))) else .bad
    | none => .bad)
   | _ => .bad)
  | _ => .bad)
 | _ => .bad
def c8 (mo mi : ME) : MG := fun d σ w => (mo σ w).bind fun o w1 => (mi σ w1).bind fun i w2 => (setM o i d w2).bind fun _ w3 => .ok σ w3
def aBO (K : PySem.W.Frag) (E : XK) : TSet := fun o i v H Q => ∃ I F G x y d w, Rel K I F G w H ∧ aG K I F x o ∧ aG K I F y i ∧ aG K I F d v ∧ a9 K I F G E (fun _ _ H' _ _ => Q H') (setM x y d w)
theorem aAF {X : Cx} {E : XK} (hu : X.A.units + 1 < cLine) : PSet X (aBO X.K E) := by
 intro pins s σ H o i v ov iv u Q J ro ri rv ⟨I, F, G, x, y, d, w, rel, rx, ry, rd, p⟩
 cases x <;> first | exact p.elim | skip
 rename_i r
 simp only [aG] at rx
 obtain ⟨a, rfl, h1⟩ := rx
 simp only [setM] at p
 split at p
 ·rename_i xs hw
  obtain ⟨t, hu', vs, rfl, h2⟩ := rel.ob r a _ h1 hw
  cases y <;> first | exact p.elim | skip
  rename_i k
  simp only [aG] at ry
  subst ry
  dsimp only at p
  split at p
  ·rename_i j hj
   exact set_list pins s σ H _ _ v ov iv u Q J ro ri rv ⟨a, vs, k, j, rfl, rfl, hu', by rw [← h2.length]; exact hj, p I F _ .refl (rel.upd h1 hw ⟨_, rfl, h2.set j rd⟩)⟩
  ·exact p.elim
 ·rename_i kvs hw
  obtain ⟨t, hu', vs, rfl, h2⟩ := rel.ob r a _ h1 hw
  split at p
  ·rename_i k hk
   split at p
   ·rename_i hl
    obtain rfl := qD ry hk
    cases ro
    exact d_setItem hu J (.inl ⟨vs, k, hu', rfl, by rw [← h2.length]; exact hl, rfl⟩) ri rv fun s' J' => ⟨_, J', p I F _ .refl (rel.upd h1 hw ⟨_, rfl, h2.put k rd⟩)⟩
   ·exact p.elim
  ·exact p.elim
 ·rename_i kvs hw
  obtain ⟨t, hu', vs, rfl, h2⟩ := rel.ob r a _ h1 hw
  cases y <;> first | exact p.elim | skip
  rename_i ys
  dsimp only at p
  split at p
  ·rename_i k hk
   split at p
   ·rename_i hl
    simp only [aG] at ry
    obtain ⟨b, us, rfl, hb, rl⟩ := ry
    obtain rfl := rY rl hk
    cases ro
    exact d_setItem hu J (.inr ⟨vs, k, b, hu', rfl, rel.fz _ _ hb, by rw [← h2.length]; exact hl, rfl⟩) ri rv fun s' J' => ⟨_, J', p I F _ .refl (rel.upd h1 hw ⟨_, rfl, h2.put k rd⟩)⟩
   ·exact p.elim
  ·exact p.elim
 ·exact p.elim
section
variable {S : aM} {pos : Pos} {o i : Expr} {mo mi : ME}
theorem aBr (ho : JE S o mo) (hi : JE S i mi)
  (ha : ∀ (env : Env) v, assign (.Subscript o i pos) env v = (do
   let ov ← holding [v] (eval o env)
   let iv ← holding [v, ov] (eval i env)
   standAt pos
   holding [v, ov, iv] (setItem ov iv v)
   release [v, ov, iv] []) := by intro _ _; rfl) : JG S (.Subscript o i pos) (c8 mo mi) := fun X E c xo =>
 oW (pg_sub (ho X E c xo) (hi X E c xo) (aAF (E := E) (by have := c.room.units; omega)) (ha X.env)) fun v σ H Q ⟨I, F, G, d, ds, w, rel, rs, rv, p⟩ => by
  refine bR (f := fun ds x w1 => (mi ds w1).bind fun y w2 => (setM x y d w2).bind fun _ w3 => Res.ok ds w3) rel rs p fun I1 F1 H1 x w1 u e1 rel1 rs1 ru p1 => ?_
  refine bR (f := fun ds y w2 => (setM x y d w2).bind fun _ w3 => Res.ok ds w3) rel1 rs1 p1 fun I2 F2 H2 y w2 t e2 rel2 rs2 rt p2 => ?_
  exact ⟨I2, F2, G, x, y, d, w2, rel2, aG.ext e2 _ _ ru, rt, aG.ext (e1.trans e2) _ _ rv, (a9.bind p2).mono fun I3 F3 H3 z w3 _ e3 rel3 p3 => p3 I3 F3 H3 .refl rel3 σ (rs2.ext e3)⟩
end
def aC4 (K : PySem.W.Frag) (E : XK) (m : MF) : List V → Hp → VK → Prop := fun vs H Q => ∃ I F G ds w, Rel K I F G w H ∧ RepL K I F ds vs ∧ a9 K I F G E (RV K Q) (m ds w)
def CB (S : aM) (f : Value) (m : MF) : Prop := ∀ X E, Ctx S X → pX X E → CallR X f (aC4 X.K E m)
def aL (m : MF) (ma : MA) : ME := fun σ w => (ma σ w).bind fun xs w1 => m xs w1
section
variable {S : aM} {m : MF} {x : Str} {p pos : Pos} {e : Expr} {es : List Expr} {ma : MA} {f : Value}
theorem uC (h : ∀ (X : Cx) (E : XK), Ctx S X → pX X E → ∀ (I : List Addr) (F G : Hp) (ds : List D) (w : W) (H : Hp) (vs : List V) (Q : VK), Rel X.K I F G w H → RepL X.K I F ds vs → a9 X.K I F G E (RV X.K Q) (m ds w) → ∃ r, CallR X f r ∧ r vs H Q) : CB S f m :=
 fun X E c xo pins s σ H vs us Q J r ⟨I, F, G, ds, w, rel, rl, p⟩ => by
  obtain ⟨r', h1, h2⟩ := h X E c xo I F G ds w H vs Q rel rl p
  exact h1 pins s σ H vs us Q J r h2
theorem P5 {K : PySem.W.Frag} {E : XK} {σ : L2.St} {H : Hp} {Q : VK} (h : sC K E (aL m ma) σ H Q) : tCB (aC4 K E m) (XC K E ma) σ H Q := by
 obtain ⟨I, F, G, ds, w, rel, rs, p⟩ := h
 exact cQ (f := fun _ xs w1 => m xs w1) rel rs p fun I1 F1 H1 xs w1 vs e1 rel1 rs1 rvs p1 => ⟨I1, F1, G, xs, w1, rel1, rvs, p1⟩
theorem bE {id : String} (hc : CB S (.builtin id) m) (hg : S.sc.names.lookup x = some .globalImplicit) (hm : S.mg x = none) (hv : bootBuiltins x = some (.builtin id)) (ha : JA S (e :: es) ma) (hn : x ≠ "__name__" := by decide) (hdb : (x == ("__debug__" : Str)) = false := by decide)
  (he : ∀ env : Env, starEach (e :: es) env = (false, eval e env) :: starEach es env := by intro _; rfl) (hpl : ∀ env : Env, (backTo pos (starEach es env)).any (·.1) = false := by intro _; rfl) : JE S (.Call (.Name x p) (e :: es) [] pos) (aL m ma) := fun X E c xo =>
 b6 (pe_callB (hc X E c xo) (by show X.env.scope.names.lookup x = _; rw [c.sc]; exact hg) (by rw [c.mg]; exact hm) hv (ha X E c xo) hn hdb (he X.env) (hpl X.env)) fun _ _ _ h => P5 h
theorem bU {id : String} (hc : CB S (.type id) m) (hg : S.sc.names.lookup x = some .globalImplicit) (hm : S.mg x = none) (hv : bootBuiltins x = some (.type id)) (ha : JA S (e :: es) ma) (hn : x ≠ "__name__" := by decide) (hdb : (x == ("__debug__" : Str)) = false := by decide)
  (he : ∀ env : Env, starEach (e :: es) env = (false, eval e env) :: starEach es env := by intro _; rfl) (hpl : ∀ env : Env, (backTo pos (starEach es env)).any (·.1) = false := by intro _; rfl) : JE S (.Call (.Name x p) (e :: es) [] pos) (aL m ma) := fun X E c xo =>
 b6 (pe_callTy (hc X E c xo) (by show X.env.scope.names.lookup x = _; rw [c.sc]; exact hg) (by rw [c.mg]; exact hm) hv (ha X E c xo) hn hdb (he X.env) (hpl X.env)) fun _ _ _ h => P5 h
end
theorem RepL.one {K : PySem.W.Frag} {I : List Addr} {F : Hp} {d : D} {vs : List V} (h : RepL K I F [d] vs) : ∃ v, vs = [v] ∧ aG K I F d v := by
 simp only [RepL] at h
 obtain ⟨v, r, rfl, h1, rfl⟩ := h
 exact ⟨v, rfl, h1⟩
theorem RepL.two {K : PySem.W.Frag} {I : List Addr} {F : Hp} {d e : D} {vs : List V} (h : RepL K I F [d, e] vs) : ∃ v u, vs = [v, u] ∧ aG K I F d v ∧ aG K I F e u := by
 simp only [RepL] at h
 obtain ⟨v, r, rfl, h1, u, r2, rfl, h2, rfl⟩ := h
 exact ⟨v, u, rfl, h1, h2⟩
theorem uL {K : PySem.W.Frag} {I : List Addr} {F G H : Hp} {w : W} (rel : Rel K I F G w H) {d : D} {v : V} {xs : List D} (h : aG K I F d v) (e : d.items w = some xs) : ∃ a vs, v = .ref a ∧ (SqL K H a vs ∨ SqT K H a vs) ∧ RepL K I F xs vs := by
 cases d <;> simp only [D.items, af, reduceCtorEq] at e <;> simp only [aG] at h
 case tup => subst e; obtain ⟨a, vs, h0, h1, h2⟩ := h; exact ⟨a, vs, h0, .inr (.of (rel.fz _ _ h1)), h2⟩
 case pW => subst e; obtain ⟨a, vs, h0, h1, h2⟩ := h; exact ⟨a, vs, h0, .inr (rel.MD h1), h2⟩
 case lst => subst e; obtain ⟨a, vs, h0, h1, h2⟩ := h; exact ⟨a, vs, h0, .inl (.of (rel.fz _ _ h1)), h2⟩
 case mH => subst e; obtain ⟨a, vs, h0, h1, h2⟩ := h; exact ⟨a, vs, h0, .inl (rel.QJ h1), h2⟩
 case ref i =>
  split at e
  ·rename_i ys hw
   cases e
   obtain ⟨a, h0, h1⟩ := h
   obtain ⟨u, hu, vs, rfl, h2⟩ := rel.ob i a _ h1 hw
   exact ⟨a, vs, h0, .inl (.of hu), h2⟩
  ·cases e
def BK (d : D) (w : W) : Option Nat := match d with
 | .str z => if z.length ≤ sizeLine then some z.length else none
 | .ref i => (match w[i]? with
  | some (.lst xs) => some xs.length
  | some (.dK kvs) => some kvs.length
  | _ => none)
 | d => (d.items w).map List.length
def cU : MF := fun ds w => match ds with
 | [d] => (match BK d w with
  | some n => .ok (.int n) w
  | none => .bad)
 | _ => .bad
def jQ : List D → Option (List Int)
 | [] => some []
 | .int i :: r => (jQ r).map (i :: ·)
 | _ :: _ => none
theorem nV {K : PySem.W.Frag} {I : List Addr} {F : Hp} : ∀ {ds : List D} {vs : List V} {ns : List Int}, RepL K I F ds vs → jQ ds = some ns → vs = ns.map V.int
 | [], vs, ns, h, e => by simp only [jQ, af] at e; subst e; simp only [RepL] at h; exact h
 | d :: ds, vs, ns, h, e => by
  cases d <;> simp only [jQ, aj, reduceCtorEq] at e
  obtain ⟨r, e1, rfl⟩ := e
  simp only [RepL, aG] at h
  obtain ⟨v, t, rfl, rfl, h2⟩ := h
  rw [nV h2 e1]
  rfl
def sI (d : D) (w : W) : Option (List D) := match d with
 | .lst xs => some xs
 | .mH xs => some xs
 | .ref i => (match w[i]? with
  | some (.lst xs) => some xs
  | _ => none)
 | _ => none
def tU (d : D) : Option (List D) := match d with
 | .tup xs => some xs
 | .pW xs => some xs
 | _ => none
theorem GL {K : PySem.W.Frag} {I : List Addr} {F G H : Hp} {w : W} (rel : Rel K I F G w H) {d : D} {v : V} {xs : List D} (h : aG K I F d v) (e : sI d w = some xs) : ∃ a vs, v = .ref a ∧ SqL K H a vs ∧ RepL K I F xs vs := by
 cases d <;> simp only [sI, af, reduceCtorEq] at e <;> simp only [aG] at h
 case lst => subst e; obtain ⟨a, vs, h0, h1, h2⟩ := h; exact ⟨a, vs, h0, .of (rel.fz _ _ h1), h2⟩
 case mH => subst e; obtain ⟨a, vs, h0, h1, h2⟩ := h; exact ⟨a, vs, h0, rel.QJ h1, h2⟩
 case ref i =>
  split at e
  ·rename_i ys hw
   cases e
   obtain ⟨a, h0, h1⟩ := h
   obtain ⟨u, hu, vs, rfl, h2⟩ := rel.ob i a _ h1 hw
   exact ⟨a, vs, h0, .of hu, h2⟩
  ·cases e
theorem W3 {K : PySem.W.Frag} {I : List Addr} {F G H : Hp} {w : W} (rel : Rel K I F G w H) {d : D} {v : V} {xs : List D} (h : aG K I F d v) (e : tU d = some xs) : ∃ a vs, v = .ref a ∧ SqT K H a vs ∧ RepL K I F xs vs := by
 cases d <;> simp only [tU, af, reduceCtorEq] at e <;> simp only [aG] at h
 case tup => subst e; obtain ⟨a, vs, h0, h1, h2⟩ := h; exact ⟨a, vs, h0, .of (rel.fz _ _ h1), h2⟩
 case pW => subst e; obtain ⟨a, vs, h0, h1, h2⟩ := h; exact ⟨a, vs, h0, rel.MD h1, h2⟩
def LF : MF := fun ds w => match ds with
 | [d] => (match (sI d w).bind jQ with
  | some ns => .ok (.int ns.sum) w
  | none => .bad)
 | _ => .bad
def aAe : MF := fun ds w => match ds with
 | [d] => (match d.items w with
  | some xs => .ok (.lst xs) w
  | none => .bad)
 | _ => .bad
def AI : MF := fun ds w => match ds with
 | [d] => (match d.items w with
  | some xs => .ok (.ref w.length) (w ++ [.lst xs])
  | none => .bad)
 | _ => .bad
def bW : MF := fun ds w => match ds with
 | [.tup xs] => .ok (.tup xs) w
 | [d] => (match sI d w with
  | some xs => .ok (.tup xs) w
  | none => .bad)
 | _ => .bad
def aCT (d : D) (w : W) : Option Str := match d.py w with
 | some p => if p.showable = true ∧ p.hasDict = false ∧ p.depth ≤ 60 ∧ p.shown.length ≤ sizeLine then some p.shown else none
 | none => none
def Q2 : MF := fun ds w => match ds with
 | [d] => (match aCT d w with
  | some z => .ok (.str z) w
  | none => .bad)
 | _ => .bad
def AS : MF := fun ds w => match ds with
 | [.int i] => .ok (.int i) w
 | [.bl b] => .ok (.int (if b then 1 else 0)) w
 | _ => .bad
def max2 : MF := fun ds w => match ds with
 | [.int i, .int j] => .ok (.int (if j > i then j else i)) w
 | _ => .bad
def min2 : MF := fun ds w => match ds with
 | [.int i, .int j] => .ok (.int (if j < i then j else i)) w
 | _ => .bad
section
variable {S : aM}
theorem oX : CB S (.builtin "len") cU := uC fun X E c xo I F G ds w H vs Q rel rl p => by
 unfold cU at p
 split at p
 ·rename_i d
  obtain ⟨v, rfl, rv⟩ := rl.one
  split at p
  ·rename_i n hn
   have go : ∀ {xs : List D}, d.items w = some xs → n = xs.length → ∃ r, CallR X (.builtin "len") r ∧ r [v] H Q := fun {xs} h1 h2 => by
    obtain ⟨a, us, rfl, hq, hr⟩ := uL rel rv h1
    refine ⟨_, call_len, .ref a, n, rfl, ?_, p.nE rel (by simp [aG])⟩
    rw [h2, hr.length]
    rcases hq with hq | hq
    ·exact .inl ⟨us, hq, rfl⟩
    ·exact .inr ⟨us, hq, rfl⟩
   cases d <;> simp only [BK, D.items, Option.map_some, Option.map_none, af, reduceCtorEq] at hn
   case str z =>
    split at hn
    ·rename_i hz
     cases hn
     simp only [aG] at rv
     subst rv
     exact ⟨_, call_len, .str z, z.length, rfl, ⟨hz, rfl⟩, p.nE rel (by simp [aG])⟩
    ·cases hn
   case tup => exact go (by simp [D.items]) hn.symm
   case pW => exact go (by simp [D.items]) hn.symm
   case lst => exact go (by simp [D.items]) hn.symm
   case mH => exact go (by simp [D.items]) hn.symm
   case ref i =>
    split at hn
    ·rename_i xs hw
     exact go (by simp [D.items, hw]) (Option.some.inj hn).symm
    ·rename_i kvs hw
     cases hn
     simp only [aG] at rv
     obtain ⟨a, rfl, h1⟩ := rv
     obtain ⟨u, hu, us, rfl, h2⟩ := rel.ob i a _ h1 hw
     exact ⟨_, call_lenD, a, us, rfl, hu, p.nE rel (by simp [aG, h2.length])⟩
    ·cases hn
  ·exact p.elim
 ·exact p.elim
theorem aAM : CB S (.builtin "sum") LF := uC fun X E c xo I F G ds w H vs Q rel rl p => by
 unfold LF at p
 split at p
 ·rename_i d
  obtain ⟨v, rfl, rv⟩ := rl.one
  split at p
  ·rename_i ns hn
   obtain ⟨xs, h1, h2⟩ := cj.mp hn
   obtain ⟨a, us, rfl, hq, hr⟩ := GL rel rv h1
   obtain rfl := nV hr h2
   exact ⟨_, cr_sum c.calm, a, ns, rfl, hq, p.nE rel (by simp [aG])⟩
  ·exact p.elim
 ·exact p.elim
theorem UO : CB S (.type "list") AI := uC fun X E c xo I F G ds w H vs Q rel rl p => by
 unfold AI at p
 split at p
 ·rename_i d
  obtain ⟨v, rfl, rv⟩ := rl.one
  split at p
  ·rename_i xs hn
   obtain ⟨a, us, rfl, hq, hr⟩ := uL rel rv hn
   exact ⟨_, call_list_of, a, us, rfl, hq, P7 (o := .lst xs) rel ⟨us, rfl, hr⟩ p⟩
  ·exact p.elim
 ·exact p.elim
theorem fF : CB S (.type "tuple") bW := uC fun X E c xo I F G ds w H vs Q rel rl p => by
 unfold bW at p
 split at p
 ·rename_i xs
  obtain ⟨v, rfl, rv⟩ := rl.one
  have rv' := rv
  simp only [aG] at rv'
  obtain ⟨a, us, rfl, h1, h2⟩ := rv'
  exact ⟨_, call_tuple_of, a, us, rfl, .inr ⟨.of (rel.fz _ _ h1), p.nE rel rv⟩⟩
 ·rename_i d _
  obtain ⟨v, rfl, rv⟩ := rl.one
  split at p
  ·rename_i xs hn
   obtain ⟨a, us, rfl, hq, hr⟩ := GL rel rv hn
   exact ⟨_, call_tuple_of, a, us, rfl, .inl ⟨hq, u9 rel hr p⟩⟩
  ·exact p.elim
 ·exact p.elim
theorem aAu : CB S (.type "int") AS := uC fun X E c xo I F G ds w H vs Q rel rl p => by
 unfold AS at p
 split at p
 ·rename_i i
  obtain ⟨v, rfl, rv⟩ := rl.one
  simp only [aG] at rv
  subst rv
  exact ⟨_, call_int1, .inl ⟨i, rfl, p.nE rel (by simp [aG])⟩⟩
 ·rename_i b
  obtain ⟨v, rfl, rv⟩ := rl.one
  simp only [aG] at rv
  subst rv
  exact ⟨_, call_int1, .inr ⟨b, rfl, p.nE rel (by simp [aG])⟩⟩
 ·exact p.elim
end
abbrev RM := D → List D → W → Res D
def aDu (K : PySem.W.Frag) (E : XK) (m : RM) : V → List V → Hp → VK → Prop := fun x vs H Q => ∃ I F G d ds w, Rel K I F G w H ∧ aG K I F d x ∧ RepL K I F ds vs ∧ a9 K I F G E (RV K Q) (m d ds w)
def MB (S : aM) (id : String) (m : RM) : Prop := ∀ X E, Ctx S X → pX X E → MtR X id (aDu X.K E m)
def W7 (d : D) (w : W) : Option String := match d with
 | .str _ => some "str"
 | .lst _ => some "list"
 | .mH _ => some "list"
 | .ref i => (match w[i]? with
  | some (.lst _) => some "list"
  | some (.dK _) => some "dict"
  | some (.dT _) => some "dict"
  | some (.dG _) => some "dict"
  | _ => none)
 | _ => none
def aAE (K : PySem.W.Frag) (T : String) (x : V) (H : Hp) : Prop := tyV K T x H ∨ (T = "dict" ∧ ∃ p o kvs, x = .ref p ∧ H p = some (.frz o (.dT kvs)))
theorem ZF {X : Cx} {pins : List (Addr × Obj)} {σ : L2.St} {H : Hp} {s : Shared} {T : String} {x : V} {v : Value} (I : Inv X pins σ H s) (r : RelV x v) (ty : aAE X.K T x H) :
  s.TypeIs v T ∧ ∀ a, v = .ref a → ∃ ob, s.heap.get? a = some ob ∧ ob.dict = none := by
 rcases ty with ty | ⟨rfl, p, o, kvs, rfl, hp⟩
 ·exact tyV_is I r ty
 ·cases r
  obtain ⟨_, hgd, ex, _⟩ := I.frzT hp
  exact ⟨⟨o, hgd, ex.1⟩, fun a e => by cases e; exact ⟨o, hgd, ex.2.1⟩⟩
def aDH (K : PySem.W.Frag) (T : String) (r : V → List V → Hp → VK → Prop) (to : TE) (t : TA) : TE := fun σ H Q => to σ H fun x H1 => aAE K T x H1 ∧ t σ H1 fun xs H2 => r x xs H2 Q
section
variable {X : Cx} {o e : Expr} {es : List Expr} {to : TE} {t : TA} {name : Str} {apos cpos : Pos} {T id : String} {r : V → List V → Hp → VK → Prop}
theorem aAU (pa : PlainAttrs T) (slot : Slot T name id) (hty : typeOf (.builtin id) = pure (.type "method_descriptor")) (hm : MtR X id r) (ho : PE X o to) (ha : PA X (e :: es) t)
  (hbase : attributeBase o name X.env (eval o X.env) = eval o X.env := by rfl)
  (hfew : ((backTo cpos (starEach (e :: es) X.env)).all (fun x => !x.1) && (backToKw cpos (keywordEach [] X.env)).all (fun x => x.1.isSome)
   && decide ((e :: es).length + ([] : List Keyword).length + (if ([] : List Keyword).isEmpty then 0 else 1) < 30)) = true := by rfl)
  (hline : (apos.endLine == cpos.line) = true := by rfl) (hs : starEach (e :: es) X.env = (false, eval e X.env) :: starEach es X.env := by rfl) (hplain : (backTo cpos (starEach es X.env)).any (·.1) = false := by rfl) :
  PE X (.Call (.Attribute o name apos) (e :: es) [] cpos) (aDH X.K T r to t) := by
 refine ⟨fun pins s σ H Q I h => ?_⟩
 refine wpAny_Call_method_late hbase hfew hline rfl (thn (ho.run pins s σ H _ I h) fun v s1 ⟨x, H1, I1, r1, ty, q1⟩ => ?_)
 obtain ⟨h1, h2⟩ := ZF I1 r1 ty
 refine ⟨T, id, pa, slot, hty, h1, h2, ?_⟩
 have hA := ha.run cpos pins s1 σ H1 _ I1 q1
 rw [hs] at hA ⊢
 refine Calls.callWith_builtin (by show (false || (backTo cpos (starEach es X.env)).any (·.1)) = false; rw [hplain] <;> rfl) (Calls.evalArgs_plain ?_)
 exact thn hA fun us s2 ⟨vs, H2, I2, r2, q2⟩ => hm pins s2 σ H2 x vs v us Q I2 r1 r2 q2
end
theorem aBv {K : PySem.W.Frag} {I : List Addr} {F G H : Hp} {w : W} (rel : Rel K I F G w H) {d : D} {v : V} (h : aG K I F d v) {T : String} (e : W7 d w = some T) : aAE K T v H := by
 cases d <;> simp only [W7, af, reduceCtorEq] at e <;> simp only [aG] at h
 case str => subst h; exact .inl e.symm
 case lst => obtain ⟨a, vs, rfl, h1, h2⟩ := h; exact .inl (.inl ⟨e.symm, vs, .of (rel.fz _ _ h1)⟩)
 case mH => obtain ⟨a, vs, rfl, h1, h2⟩ := h; exact .inl (.inl ⟨e.symm, vs, rel.QJ h1⟩)
 case ref i =>
  obtain ⟨a, rfl, h1⟩ := h
  split at e
  ·rename_i xs hw
   cases e
   obtain ⟨u, hu, vs, rfl, _⟩ := rel.ob i a _ h1 hw
   exact .inl (.inl ⟨rfl, vs, .of hu⟩)
  ·rename_i xs hw
   cases e
   obtain ⟨u, hu, vs, rfl, _⟩ := rel.ob i a _ h1 hw
   exact .inl (.inr (.inr (.inl ⟨rfl, .inl ⟨vs, hu⟩⟩)))
  ·rename_i xs hw
   cases e
   obtain ⟨u, hu, vs, rfl, _⟩ := rel.ob i a _ h1 hw
   exact .inl (.inr (.inr (.inl ⟨rfl, .inr ⟨vs, hu⟩⟩)))
  ·rename_i xs hw
   cases e
   obtain ⟨u, hu, ob, vs, rfl, _⟩ := rel.ob i a _ h1 hw
   exact .inr ⟨rfl, a, ob, vs, rfl, hu⟩
  ·cases e
def bA (T : String) (m : RM) (mo : ME) (ma : MA) : ME := fun σ w => (mo σ w).bind fun d w1 => if W7 d w1 = some T then (ma σ w1).bind fun xs w2 => m d xs w2 else .bad
section
variable {S : aM} {m : RM} {o e : Expr} {es : List Expr} {mo : ME} {ma : MA} {name : Str} {apos cpos : Pos} {T id : String}
theorem cB (pa : PlainAttrs T) (slot : Slot T name id) (hm : MB S id m) (ho : JE S o mo) (ha : JA S (e :: es) ma) (hty : typeOf (.builtin id) = pure (.type "method_descriptor") := by rfl)
  (hbase : ∀ env : Env, attributeBase o name env (eval o env) = eval o env := by intro _; rfl)
  (hfew : ∀ env : Env, ((backTo cpos (starEach (e :: es) env)).all (fun x => !x.1) && (backToKw cpos (keywordEach [] env)).all (fun x => x.1.isSome)
   && decide ((e :: es).length + ([] : List Keyword).length + (if ([] : List Keyword).isEmpty then 0 else 1) < 30)) = true := by intro _; rfl)
  (hline : (apos.endLine == cpos.line) = true := by rfl) (hs : ∀ env : Env, starEach (e :: es) env = (false, eval e env) :: starEach es env := by intro _; rfl) (hplain : ∀ env : Env, (backTo cpos (starEach es env)).any (·.1) = false := by intro _; rfl) :
  JE S (.Call (.Attribute o name apos) (e :: es) [] cpos) (bA T m mo ma) := fun X E c xo =>
 b6 (aAU pa slot hty (hm X E c xo) (ho X E c xo) (ha X E c xo) (hbase X.env) (hfew X.env) hline (hs X.env) (hplain X.env)) fun σ H Q ⟨I, F, G, ds, w, rel, rs, p⟩ =>
  bR (f := fun ds d w1 => if W7 d w1 = some T then (ma ds w1).bind fun xs w2 => m d xs w2 else .bad) rel rs p fun I1 F1 H1 d w1 v e1 rel1 rs1 rv p1 => by
   split at p1
   ·rename_i ht
    refine ⟨aBv rel1 rv ht, ?_⟩
    exact cQ (f := fun _ xs w2 => m d xs w2) rel1 rs1 p1 fun I2 F2 H2 xs w2 vs e2 rel2 rs2 rvs p2 => ⟨I2, F2, G, d, xs, w2, rel2, aG.ext e2 _ _ rv, rvs, p2⟩
   ·exact p1.elim
theorem CO {id : String} (h : ∀ (X : Cx) (E : XK), Ctx S X → pX X E → ∀ (I : List Addr) (F G : Hp) (d : D) (ds : List D) (w : W) (H : Hp) (x : V) (vs : List V) (Q : VK), Rel X.K I F G w H → aG X.K I F d x → RepL X.K I F ds vs → a9 X.K I F G E (RV X.K Q) (m d ds w) →
  ∃ r, MtR X id r ∧ r x vs H Q) : MB S id m := fun X E c xo pins s σ H x vs v us Q J rx rv ⟨I, F, G, d, ds, w, rel, rd, rl, p⟩ => by
 obtain ⟨r', h1, h2⟩ := h X E c xo I F G d ds w H x vs Q rel rd rl p
 exact h1 pins s σ H x vs v us Q J rx rv h2
end
def b8 : RM := fun d ds w => match d, ds with
 | .ref i, [y] => (match w[i]? with
  | some (.lst xs) => if xs.length < sizeLine then .ok .non (w.set i (.lst (xs ++ [y]))) else .bad
  | _ => .bad)
 | _, _ => .bad
def xD : RM := fun d ds w => match d, ds with
 | .ref i, [.int n] => (match w[i]? with
  | some (.lst xs) => if -(2 ^ 63) ≤ n ∧ n < 2 ^ 63 then (match seqIndex? n xs.length with
   | some k => (match xs[k]? with
    | some y => .ok y (w.set i (.lst (xs.eraseIdx k)))
    | none => .bad)
   | none => .bad) else .bad
  | _ => .bad)
 | _, _ => .bad
section
variable {K : PySem.W.Frag} {I : List Addr} {F : Hp}
theorem RepL.dropLast {ds : List D} {vs : List V} (r : RepL K I F ds vs) : RepL K I F ds.dropLast vs.dropLast := by
 rw [List.dropLast_eq_take, List.dropLast_eq_take, ← r.length]
 exact r.take _
theorem RepL.eraseIdx {ds : List D} {vs : List V} (r : RepL K I F ds vs) (i : Nat) : RepL K I F (ds.eraseIdx i) (vs.eraseIdx i) := by
 rw [List.eraseIdx_eq_take_drop_succ, List.eraseIdx_eq_take_drop_succ]
 exact (r.take _).append (r.drop _)
end
section
variable {S : aM}
theorem EW : MB S "list.append" b8 := CO fun X E c xo I F G d ds w H x vs Q rel rd rl p => by
 unfold b8 at p
 split at p
 ·rename_i i y
  simp only [aG] at rd
  obtain ⟨a, rfl, hi⟩ := rd
  obtain ⟨v, rfl, rv⟩ := rl.one
  split at p
  ·rename_i xs hw
   obtain ⟨u, hu, us, rfl, hr⟩ := rel.ob i a _ hi hw
   split at p
   ·rename_i hl
    exact ⟨_, mt_append, a, us, v, rfl, rfl, hu, by rw [← hr.length]; exact hl, p.nE (rel.upd hi hw ⟨_, rfl, hr.append (RepL.cons rv (by simp [RepL]))⟩) (by simp [aG])⟩
   ·exact p.elim
  ·exact p.elim
 ·exact p.elim
theorem UL : MB S "list.pop" xD := CO fun X E c xo I F G d ds w H x vs Q rel rd rl p => by
 unfold xD at p
 split at p
 ·rename_i i n
  simp only [aG] at rd
  obtain ⟨a, rfl, hi⟩ := rd
  obtain ⟨t, rfl, rt⟩ := rl.one
  simp only [aG] at rt
  subst rt
  split at p
  ·rename_i xs hw
   obtain ⟨u, hu, us, rfl, hr⟩ := rel.ob i a _ hi hw
   split at p
   ·rename_i hn
    split at p
    ·rename_i k hk
     split at p
     ·rename_i y hy
      obtain ⟨v, hv, rv⟩ := hr.get hy
      exact ⟨_, mt_popAt, a, us, n, k, v, rfl, rfl, hu, hn.1, hn.2, by rw [← hr.length]; exact hk, hv, p.nE (rel.upd hi hw ⟨_, rfl, hr.eraseIdx k⟩) rv⟩
     ·exact p.elim
    ·exact p.elim
   ·exact p.elim
  ·exact p.elim
 ·exact p.elim
end
def tI (x y : D) (w : W) : Option Bool := match x.py w, y.py w with
 | some p, some (.list qs) => if SeqAt.shaped p = true ∧ SeqAt.shaped (.list qs) = true then some (qs.any fun z => PyData.eqv z p) else none
 | some p, some (.tuple qs) => if SeqAt.shaped p = true ∧ SeqAt.shaped (.tuple qs) = true then some (qs.any fun z => PyData.eqv z p) else none
 | _, _ => none
def inD (x y : D) (w : W) : Option Bool := match y with
 | .ref i => (match w[i]? with
  | some (.dK kvs) => (oE (.dK kvs) x).map Option.isSome
  | some (.dT kvs) => (oE (.dT kvs) x).map Option.isSome
  | _ => tI x y w)
 | y => tI x y w
def JR (x y : D) (w : W) : Res D := match inD x y w with
 | some b => .ok (.bl b) w
 | none => .bad
def TC (x y : D) (w : W) : Res D := match inD x y w with
 | some b => .ok (.bl (!b)) w
 | none => .bad
def aCF (K : PySem.W.Frag) : R2 := fun x y H Q => ∃ d ds, Dp K H x d ∧ Dp K H y (.tuple ds) ∧ SeqAt.shaped d = true ∧ SeqAt.shaped (.tuple ds) = true ∧ Q (.bl (ds.any fun z => PyData.eqv z d)) H
theorem W9 {X : Cx} (hu : X.A.units + 65 < cLine) : OpR X (compareOp .In) (aCF X.K) := by
 intro pins s σ H x y v u Q I rx ry h
 obtain ⟨d, ds, hd, he, sd, se, q⟩ := h
 obtain ⟨as, r1⟩ := Dp.reads I d x v hd rx
 obtain ⟨bs, r2⟩ := Dp.reads I (.tuple ds) y u he ry
 exact SeqAt.in_tuple_reads r2 r1 (SeqAt.canLay_of_shaped se) (SeqAt.canLay_of_shaped sd) (room_in_shaped sd hu) ⟨.bl _, H, I, rfl, q⟩
theorem SD {X : Cx} (hu : X.A.units + 1 < cLine) : OpR X (compareOp .In) (fun x y H Q => ∃ a q, y = .ref a ∧ DGet H a x q ∧ Q (.bl q.isSome) H) := by
 intro pins s σ H x y v u Q J rx ry h
 obtain ⟨a, q, ey, g, hq⟩ := h
 subst ey
 cases ry
 exact d_in hu J g rx fun s' J' => ⟨.bl _, H, J', rfl, hq⟩
theorem K5.isSome {K : PySem.W.Frag} {I : List Addr} {F : Hp} {d : Option D} {q : Option V} (h : K5 K I F d q) : q.isSome = d.isSome := by
 cases d with
 | none => rw [show q = none from h]; rfl
 | some d => obtain ⟨v, rfl, _⟩ := h; rfl
section
variable {S : aM}
theorem TN {X : Cx} {I : List Addr} {F G : Hp} {d e : D} {w : W} {H : Hp} {x y : V} (rel : Rel X.K I F G w H) (rd : aG X.K I F d x) (re : aG X.K I F e y) {b : Bool} (h : tI d e w = some b) :
  ∃ p qs, Dp X.K H x p ∧ SeqAt.shaped p = true ∧ b = (qs.any fun z => PyData.eqv z p) ∧ ((Dp X.K H y (.list qs) ∧ SeqAt.shaped (.list qs) = true) ∨ (Dp X.K H y (.tuple qs) ∧ SeqAt.shaped (.tuple qs) = true)) := by
 unfold tI at h
 split at h
 ·rename_i p qs h1 h2
  split at h
  ·rename_i hs
   cases h
   exact ⟨p, qs, xO rel rd h1, hs.1, rfl, .inl ⟨xO rel re h2, hs.2⟩⟩
  ·cases h
 ·rename_i p qs h1 h2
  split at h
  ·rename_i hs
   cases h
   exact ⟨p, qs, xO rel rd h1, hs.1, rfl, .inr ⟨xO rel re h2, hs.2⟩⟩
  ·cases h
 ·cases h
theorem aAY {X : Cx} {I : List Addr} {F G : Hp} {d e : D} {w : W} {H : Hp} {x y : V} (rel : Rel X.K I F G w H) (rd : aG X.K I F d x) (re : aG X.K I F e y) {b : Bool} (h : inD d e w = some b) :
  tI d e w = some b ∨ ∃ a q, y = .ref a ∧ DGet H a x q ∧ q.isSome = b := by
 unfold inD at h
 split at h
 ·rename_i i
  simp only [aG] at re
  obtain ⟨a, rfl, hi⟩ := re
  split at h
  ·rename_i kvs hw
   simp only [aj] at h
   obtain ⟨r, h1, rfl⟩ := h
   obtain ⟨q, g, hr⟩ := zP rel hi hw rd h1
   exact .inr ⟨a, q, rfl, g, hr.isSome⟩
  ·rename_i kvs hw
   simp only [aj] at h
   obtain ⟨r, h1, rfl⟩ := h
   obtain ⟨q, g, hr⟩ := zP rel hi hw rd h1
   exact .inr ⟨a, q, rfl, g, hr.isSome⟩
  ·exact .inl h
 ·exact .inl h
theorem aCw : O2 S (compareOp .In) JR := gJ fun X E c xo I F G d e w H x y Q rel rd re p => by
 unfold JR at p
 split at p
 ·rename_i b hb
  have hu := c.room.un
  rcases aAY rel rd re hb with h | ⟨a, q, rfl, g, rfl⟩
  ·obtain ⟨pp, qs, h1, h2, rfl, h3 | h3⟩ := TN rel rd re h
   ·exact ⟨_, op_inD (by omega), pp, qs, h1, h3.1, h2, h3.2, p.nE rel (by simp [aG])⟩
   ·exact ⟨_, W9 (by omega), pp, qs, h1, h3.1, h2, h3.2, p.nE rel (by simp [aG])⟩
  ·exact ⟨_, SD (by omega), a, q, rfl, g, p.nE rel (by simp [aG])⟩
 ·exact p.elim
end
open PySem.W (EachIs AllAlike Sortable alike dataLe)
def aDi (w : W) (d : D) : PyData := (d.py w).getD .none
def TF : PyData → Bool
 | .tuple (_ :: _) => true
 | _ => false
def QN : PyData → Bool
 | .none => false
 | .tuple _ => false
 | _ => true
def nL (ps : List PyData) : Bool := (ps.all fun p => ps.all fun q => alike p q) && (ps.all TF || ps.all QN) && ps.all fun p => decide (p.depth ≤ 60)
theorem nL.h1 {ps : List PyData} (h : nL ps = true) : AllAlike ps := by
 simp only [nL, ag, ao] at h
 exact fun d hd e he => h.1.1 d hd e he
theorem nL.h2 {ps : List PyData} (h : nL ps = true) : Sortable ps := by
 simp only [nL, ag, Bool.or_eq_true, ao] at h
 rcases h.1.2 with h | h
 ·refine .inl fun d hd => ?_
  have := h d hd
  unfold TF at this
  split at this
  ·exact ⟨_, _, rfl⟩
  ·cases this
 ·refine .inr fun d hd => ?_
  have := h d hd
  unfold QN at this
  split at this
  ·cases this
  ·cases this
  ·rename_i n1 n2
   exact ⟨n1, fun xs z => n2 xs z⟩
theorem nL.h3 {ps : List PyData} (h : nL ps = true) : ∀ p ∈ ps, p.depth ≤ 60 := by
 simp only [nL, ag, ao, ai] at h
 exact h.2
def aDa (xs : List D) (w : W) : Option (List D) := if xs.all (fun d => (d.py w).isSome) = true ∧ nL (xs.map (aDi w)) = true ∧ xs.length ≤ sizeLine then some (xs.mergeSort (dataLe false (aDi w))) else none
def QT : MF := fun ds w => match ds with
 | [d] => (match (sI d w).bind fun xs => aDa xs w with
  | some ys => .ok (.lst ys) w
  | none => .bad)
 | _ => .bad
def zT (f : Str) (v : D) : List (Str × D) → List (Str × D)
 | [] => [(f, v)]
 | (g, x) :: r => if g = f then (g, v) :: r else (g, x) :: zT f v r
theorem aP.lookup {K : PySem.W.Frag} {I : List Addr} {F : Hp} {κ : Type} [BEq κ] (k : κ) : ∀ {kvs : List (κ × D)} {r : List (κ × V)}, aP K I F kvs r → K5 K I F (kvs.lookup k) (r.lookup k)
 | [], r, h => by simp only [aP] at h; subst h; rfl
 | (j, d) :: kvs, r, h => by
  simp only [aP] at h
  obtain ⟨v, t, rfl, h1, h2⟩ := h
  simp only [List.lookup]
  cases e : (k == j) with
  | true => exact ⟨v, rfl, h1⟩
  | false => exact aP.lookup k h2
theorem aP.zT {K : PySem.W.Frag} {I : List Addr} {F : Hp} (f : Str) {d : D} {v : V} (hv : aG K I F d v) : ∀ {kvs : List (Str × D)} {r : List (Str × V)}, aP K I F kvs r → aP K I F (Pc.zT f d kvs) (putF f v r)
 | [], r, h => by simp only [aP] at h; subst h; simp only [Pc.zT, putF, aP]; exact ⟨v, [], rfl, hv, rfl⟩
 | (j, x) :: kvs, r, h => by
  simp only [aP] at h
  obtain ⟨u, t, rfl, h1, h2⟩ := h
  simp only [Pc.zT, putF]
  by_cases e : j = f
  ·rw [if_pos e, if_pos e]; simp only [aP]; exact ⟨v, t, rfl, hv, h2⟩
  ·rw [if_neg e, if_neg e]; simp only [aP]; exact ⟨u, _, rfl, h1, aP.zT f hv h2⟩
def aCP (C : Addr) (f : Str) (d : D) (w : W) : Res D := match d with
 | .ref i => (match w[i]? with
  | some (.ins C' fs) => if C' = C then (match fs.lookup f with
   | some x => .ok x w
   | none => .bad) else .bad
  | _ => .bad)
 | _ => .bad
def QQ (C : Addr) (f : Str) (d x : D) (w : W) : Res Unit := match d with
 | .ref i => (match w[i]? with
  | some (.ins C' fs) => if C' = C ∧ fs.length < 1000 then .ok () (w.set i (.ins C (zT f x fs))) else .bad
  | _ => .bad)
 | _ => .bad
def cX (C : Addr) (f : Str) (m : ME) : ME := zN (aCP C f) m
def uJ (C : Addr) (f : Str) (mo mv : ME) : MS := fun σ w => (mv σ w).bind fun x w1 => (mo σ w1).bind fun d w2 => (QQ C f d x w2).bind fun _ w3 => .ok (.nx σ) w3
theorem NC {K : PySem.W.Frag} {I : List Addr} {F G H : Hp} {w : W} (rel : Rel K I F G w H) {q : Addr} (hq : H q = none) (u : HO) : Rel K I F G w (upd H q u) := by
 refine ⟨rel.len, rel.nd, fun i a o h1 h2 => ?_, fun a t h => ?_, rel.ap, fun a t h => ?_, rel.gf, rel.gt⟩
 ·obtain ⟨t, h3, h4⟩ := rel.ob i a o h1 h2
  exact ⟨t, by rw [upd_ne (ne_of_none h3 hq)]; exact h3, h4⟩
 ·rw [upd_ne (ne_of_none (rel.fz a t h) hq)]; exact rel.fz a t h
 ·rw [upd_ne (ne_of_none (rel.gz a t h) hq)]; exact rel.gz a t h
def WT (m : MF) (C : Addr) (xs : List D → List D) (w : W) : Res D := (m (xs [.ref w.length]) (w ++ [.ins C []])).bind fun r w1 => match r with
 | .non => .ok (.ref w.length) w1
 | _ => .bad
def aC6 (C : Addr) (m : MF) (n : Nat) (gd : List D → List D → List D) (ma : MA) : ME := fun σ w => (ma σ w).bind fun xs w1 => if xs.length = n then WT m C (fun s => gd (s ++ xs) []) w1 else .bad
def TQ (C : Addr) (m : MF) (n j : Nat) (gd : List D → List D → List D) (ma mk : MA) : ME := fun σ w => (ma σ w).bind fun xs w1 => (mk σ w1).bind fun zs w2 => if xs.length = n ∧ zs.length = j then WT m C (fun s => gd (s ++ xs) zs) w2 else .bad
section
variable {S : aM} {pos pos' : Pos} {e : Expr} {m : ME}
theorem jv (i : Nat) {x : Str} (hN : S.N[i]? = some x := by rfl) (hv : Vis S.sc x := by first | exact Or.inl rfl | exact Or.inr (Or.inl rfl) | exact Or.inr (Or.inr rfl)) (hd : (x == ("__debug__" : Str)) = false := by decide) (hcd : (x == ("__classdict__" : Str)) = false := by decide) : JE S (.Name x pos) (aB i) :=
 aBi i hN hv hd hcd
theorem FG (i : Nat) {x : Str} (hN : S.N[i]? = some x := by rfl) (h1 : Loc S.sc x := by first | exact Or.inl rfl | exact Or.inr rfl) (h2 : S.fn x = true ∨ S.sc.names.lookup x = some .local := by first | exact Or.inl rfl | exact Or.inr rfl) : JG S (.Name x pos) (aN i) := YZ hN ⟨h1, h2⟩
theorem sA {vs : List Nat} (i : Nat) {x : Str} (hN : S.N[i]? = some x := by rfl) (h1 : Loc S.sc x := by first | exact Or.inl rfl | exact Or.inr rfl) (h2 : S.fn x = true ∨ S.sc.names.lookup x = some .local := by first | exact Or.inl rfl | exact Or.inr rfl) (hv : i ∈ vs := by decide) : JC S vs (.Name x pos) (aN i) := YU hN ⟨h1, h2⟩ hv
theorem C1 (i : Nat) {x : Str} (he : JE S e m) (hN : S.N[i]? = some x := by rfl) (h1 : Loc S.sc x := by first | exact Or.inl rfl | exact Or.inr rfl) (h2 : S.fn x = true ∨ S.sc.names.lookup x = some .local := by first | exact Or.inl rfl | exact Or.inr rfl) (hs : ∀ env : Env, swapsWith e (some (.Name x pos')) pos.line env = pure false := by intro _; rfl) :
  JS S (.Assign [.Name x pos'] e pos) (aO m (aN i)) := aAL hN ⟨h1, h2⟩ he hs
end
def aK : List D → List D → List D := fun xs _ => xs
def pick {α : Type} (is : List (Bool × Nat)) (us ws : List α) : List α := is.filterMap fun p => if p.1 = true then ws[p.2]? else us[p.2]?
theorem Vals.at? {vs : List V} {us : List Value} (r : Vals vs us) (i : Nat) : (vs[i]? = none ∧ us[i]? = none) ∨ ∃ v u, vs[i]? = some v ∧ us[i]? = some u ∧ RelV v u := by
 induction r generalizing i with
 | nil => exact .inl ⟨by simp, by simp⟩
 | cons h _ ih =>
  cases i with
  | zero => exact .inr ⟨_, _, rfl, rfl, h⟩
  | succ i => simpa using ih i
theorem RepL.at? {K : PySem.W.Frag} {I : List Addr} {F : Hp} {ds : List D} {vs : List V} (r : RepL K I F ds vs) (i : Nat) : (ds[i]? = none ∧ vs[i]? = none) ∨ ∃ d v, ds[i]? = some d ∧ vs[i]? = some v ∧ aG K I F d v := by
 cases h : ds[i]? with
 | none => exact .inl ⟨rfl, by rw [List.getElem?_eq_none_iff] at h ⊢; rw [← r.length]; exact h⟩
 | some d => obtain ⟨v, h1, h2⟩ := r.get h; exact .inr ⟨d, v, rfl, h1, h2⟩
theorem R6 (is : List (Bool × Nat)) {vs zs : List V} {us ws : List Value} (h1 : Vals vs us) (h2 : Vals zs ws) : Vals (pick is vs zs) (pick is us ws) := by
 induction is with
 | nil => exact .nil
 | cons p is ih =>
  obtain ⟨b, i⟩ := p
  unfold pick at ih ⊢
  cases b with
  | true =>
   rcases Vals.at? h2 i with ⟨e1, e2⟩ | ⟨v, u, e1, e2, r⟩
   ·simpa [List.filterMap_cons, e1, e2] using ih
   ·simpa [List.filterMap_cons, e1, e2] using (show Vals (v :: _) (u :: _) from .cons r ih)
  | false =>
   rcases Vals.at? h1 i with ⟨e1, e2⟩ | ⟨v, u, e1, e2, r⟩
   ·simpa [List.filterMap_cons, e1, e2] using ih
   ·simpa [List.filterMap_cons, e1, e2] using (show Vals (v :: _) (u :: _) from .cons r ih)
theorem UE (is : List (Bool × Nat)) {K : PySem.W.Frag} {I : List Addr} {F : Hp} {xs zs : List D} {vs us : List V} (h1 : RepL K I F xs vs) (h2 : RepL K I F zs us) : RepL K I F (pick is xs zs) (pick is vs us) := by
 induction is with
 | nil => simp [pick, RepL]
 | cons p is ih =>
  obtain ⟨b, i⟩ := p
  unfold pick at ih ⊢
  cases b with
  | true =>
   rcases RepL.at? h2 i with ⟨e1, e2⟩ | ⟨v, u, e1, e2, r⟩
   ·simpa [List.filterMap_cons, e1, e2] using ih
   ·simpa [List.filterMap_cons, e1, e2] using RepL.cons r ih
  | false =>
   rcases RepL.at? h1 i with ⟨e1, e2⟩ | ⟨v, u, e1, e2, r⟩
   ·simpa [List.filterMap_cons, e1, e2] using ih
   ·simpa [List.filterMap_cons, e1, e2] using RepL.cons r ih
theorem E2 {K : PySem.W.Frag} {x qual : Str} {params : Arguments} {body : List Stmt} {scope : Scope} {kws : List (Str × V)} {f : Addr} {fd : FuncData} {ps : List Str} (F : FunD K x qual params body scope [] kws f fd) (n : Nat) (ks : List Str) (is : List (Bool × Nat))
  (h : ∀ (kV doc pm : Value) (an : Option Addr) (cdv ct : Value) (us ws : List Value), us.length = n → ws.length = ks.length → bindArgs (PySem.W.fnOf x qual params body scope .none kV doc pm an cdv ct) ⟨us, ks.zip ws⟩ = pure (ps.zip (pick is us ws)))
  (hlen : ∀ xs zs : List D, xs.length = n → zs.length = ks.length → (pick is xs zs).length = ps.length) : b5 K fd ps n ks (pick is) :=
 T7 F n ks (fun us ws => pick is us ws) h (fun h1 h2 => R6 is h1 h2) (fun I F' xs vs zs us h1 h2 => UE is h1 h2) hlen
section
variable {S : aM} {k : Nat} {f : Addr} {fd : FuncData} {ps ks : List Str} {m : MF} {gd : List D → List D → List D} {x : Str} {p pos : Pos} {kws : List Keyword} {mk : MA}
theorem RW (hk : k ≤ S.k) (Gf : eR S.P S.w S.K S.mg S.base k f fd ps m) (B : b5 S.K fd ps 0 ks gd) (hg : S.sc.names.lookup x = some .globalImplicit) (hm : S.mg x = some (.ref f)) (kp : PySem.W.keepIn S.K (.ref f) = true) (hkw : JK S kws mk)
  (hall : ∀ env : Env, (backToKw pos (keywordEach kws env)).all (·.1.isSome) = true := by intro _; rfl) (hks : ∀ env : Env, (backToKw pos (keywordEach kws env)).filterMap (·.1) = ks := by intro _; rfl)
  (hdb : (x == ("__debug__" : Str)) = false := by decide)
  (hpl : ∀ env : Env, ((backTo pos (starEach [] env)).any (·.1) || (backToKw pos (keywordEach kws env)).any (·.1.isNone)) = false := by intro _; rfl) :
  JE S (.Call (.Name x p) [] kws pos) (tV m 0 ks.length gd aC mk) := fun X E cx xo => by
 refine ⟨fun pins s σ H Q J ⟨I, F, G, ds, w, rel, rs, p⟩ => ?_⟩
 refine wpAny_Call_Name_kw (ld_glob J (by show X.env.scope.names.lookup x = _; rw [cx.sc]; exact hg) (by rw [cx.mg]; exact hm) ?_ hdb)
 refine PySem.W.callWith_KW0 (h₀ := X.base) J.ok.mod.kin (by rw [cx.K]; exact kp) (hall X.env) ?_ (hpl X.env)
 refine thn ((hkw X E cx xo).run pos pins s σ H _ J (cQ (f := fun _ zs w2 => if ([] : List D).length = 0 ∧ zs.length = ks.length then m (gd [] zs) w2 else .bad)
  (Q := fun ys H2 => ∃ I2 F2 zs w2, Rel X.K I2 F2 G w2 H2 ∧ RepL X.K I2 F2 zs ys ∧ zs.length = ks.length ∧ a9 X.K I2 F2 G E (RV X.K Q) (m (gd [] zs) w2)) rel rs p fun I2 F2 H2 zs w2 ys e2 rel2 rs2 rvs2 p2 => ?_)) fun ws s2 hq2 => ?_
 ·split at p2
  ·rename_i hl
   exact ⟨I2, F2, zs, w2, rel2, rvs2, hl.2, p2⟩
  ·exact p2.elim
 ·obtain ⟨ys, H2, J2, r2, I2, F2, zs, w2, rel2, rvs2, hl, p2⟩ := hq2
  refine ⟨J2.kIn, ?_⟩
  have Gf' : eR X.prog X.w X.K X.mg X.base k f fd ps m := by rw [cx.P, cx.w, cx.K, cx.mg, cx.base]; exact Gf
  have B' : b5 X.K fd ps 0 ks gd := by rw [cx.K]; exact B
  rw [hks X.env]
  exact aAd (ks := ks) (us := []) (vs := []) (xs := []) xo Gf' B' (cx.room.mono hk) cx.gds J2 rel2 (by simp [RepL]) rvs2 .nil r2 rfl hl p2
end
section
variable {S : aM} {k n j : Nat} {f : Addr} {fd : FuncData} {ps ks : List Str} {m : MF} {gd : List D → List D → List D} {x : Str} {p pos : Pos} {e : Expr} {es : List Expr} {kws : List Keyword} {ma mk : MA}
theorem aCv (hk : k ≤ S.k) (Gf : eR S.P S.w S.K S.mg S.base k f fd ps m) (B : b5 S.K fd ps 0 ks gd) (hg : S.sc.names.lookup x = some .globalImplicit) (hm : S.mg x = some (.ref f)) (kp : PySem.W.keepIn S.K (.ref f) = true) (hkw : JK S kws mk) (hj : ks.length = j := by rfl)
  (hall : ∀ env : Env, (backToKw pos (keywordEach kws env)).all (·.1.isSome) = true := by intro _; rfl) (hks : ∀ env : Env, (backToKw pos (keywordEach kws env)).filterMap (·.1) = ks := by intro _; rfl)
  (hdb : (x == ("__debug__" : Str)) = false := by decide)
  (hpl : ∀ env : Env, ((backTo pos (starEach [] env)).any (·.1) || (backToKw pos (keywordEach kws env)).any (·.1.isNone)) = false := by intro _; rfl) :
  JE S (.Call (.Name x p) [] kws pos) (tV m 0 j gd aC mk) := by subst hj; exact RW hk Gf B hg hm kp hkw hall hks hdb hpl
end
def WN (N ps : List Str) (sc : Scope) : Bool := (match sc.kind with
 | .function => true
 | _ => false) && !sc.isCoroutine && !sc.isGenerator && decide N.Nodup && decide (N.take ps.length = ps) && (ps.all fun x => decide (sc.names.lookup x = some .local) || decide (sc.names.lookup x = some .cell)) && sc.names.all fun y => decide (y.2 ≠ .free)
theorem bF {N ps : List Str} {sc : Scope} (h : WN N ps sc = true) : FnScope N ps sc := by
 unfold WN at h
 simp only [ag, ai, ao, Bool.or_eq_true, Bool.not_eq_true'] at h
 obtain ⟨⟨⟨⟨⟨⟨h1, h2⟩, h3⟩, h4⟩, h5⟩, h6⟩, h7⟩ := h
 refine ⟨?_, h2, h3, h4, h5, h6, h7⟩
 split at h1
 ·assumption
 ·cases h1
def SU (f g : D → D → W → Res D) (ma mb mc : ME) : ME := fun σ w => (ma σ w).bind fun x w1 => (mb σ w1).bind fun y w2 => (f x y w2).bind fun r w3 => match r with
 | .bl b => if b = true then (mc σ w3).bind fun z w4 => g y z w4 else .ok (.bl false) w3
 | _ => .bad
section
variable {S : aM} {pos : Pos} {a b c : Expr} {ma mb mc : ME} {f g : D → D → W → Res D}
theorem WI {K : PySem.W.Frag} {E : XK} {σ : L2.St} {H : Hp} {Q : VK} (h : sC K E (SU f g ma mb mc) σ H Q) : tChain (VL K E f) (VL K E g) (sC K E ma) (sC K E mb) (sC K E mc) σ H Q := by
 obtain ⟨I, F, G, ds, w, rel, rs, p⟩ := h
 refine ⟨I, F, G, ds, w, rel, rs, (a9.bind p).mono fun I1 F1 H1 x w1 _ e1 rel1 p1 v rv => ?_⟩
 refine ⟨I1, F1, G, ds, w1, rel1, rs.ext e1, (a9.bind p1).mono fun I2 F2 H2 y w2 _ e2 rel2 p2 u ru => ?_⟩
 refine ⟨I2, F2, G, x, y, w2, rel2, aG.ext e2 _ _ rv, ru, (a9.bind p2).mono fun I3 F3 H3 r w3 _ e3 rel3 p3 t rt => ?_⟩
 cases r <;> first | exact p3.elim | skip
 rename_i k _
 simp only [aG] at rt
 refine ⟨k, rt, ?_⟩
 cases k with
 | false => exact p3.nE rel3 (by simp [aG])
 | true =>
  refine ⟨I3, F3, G, ds, w3, rel3, (rs.ext e1).ext (e2.trans e3), (a9.bind p3).mono fun I4 F4 H4 z w4 _ e4 rel4 p4 q rq => ?_⟩
  exact ⟨I4, F4, G, y, z, w4, rel4, aG.ext (e3.trans e4) _ _ ru, rq, p4⟩
theorem S1 {op op' : CmpOp} (ho : O2 S (compareOp op) f) (ho' : O2 S (compareOp op') g) (ha : JE S a ma) (hb : JE S b mb) (hc : JE S c mc) (hm : lastMarks [op, op'] [b, c] = false := by with_unfolding_all rfl) :
  JE S (.Compare a [op, op'] [b, c] pos) (SU f g ma mb mc) := fun X E cx xo => b6 (pe_chain (ho X E cx xo) (ho' X E cx xo) (ha X E cx xo) (hb X E cx xo) (hc X E cx xo) hm) fun _ _ _ h => WI h
end
theorem nF {S : aM} {x : Str} {n : String} {pos : Pos} (hg : S.sc.names.lookup x = some .globalImplicit) (hm : S.mg x = none) (hv : bootBuiltins x = some (.type n)) (hn : x ≠ "__name__" := by decide) (hd : (x == ("__debug__" : Str)) = false := by decide) : JE S (.Name x pos) (eC (.ty n)) := fun X E cx xo =>
 b6 (pe_bltn (v := .ty n) (by show X.env.scope.names.lookup x = _; rw [cx.sc]; exact hg) (by rw [cx.mg]; exact hm) hv rfl hn hd) fun σ H Q ⟨I, F, G, ds, w, rel, rs, p⟩ => p I F H .refl rel _ (by simp [aG])
inductive y6 where
 | b (n : String) | o (C : Addr)
 deriving DecidableEq
def y6.v : y6 → Value
 | .b n => .type n
 | .o C => .ref C
def SW (d : D) (w : W) : Option y6 := match d with
 | .non => some (.b "NoneType")
 | .bl _ => some (.b "bool")
 | .int _ => some (.b "int")
 | .str _ => some (.b "str")
 | .tup _ => some (.b "tuple")
 | .pW _ => some (.b "tuple")
 | .lst _ => some (.b "list")
 | .mH _ => some (.b "list")
 | .ref i => (match w[i]? with
  | some (.lst _) => some (.b "list")
  | some (.dK _) => some (.b "dict")
  | some (.dT _) => some (.b "dict")
  | some (.dF _) => some (.b "dict")
  | some (.dG _) => none
  | some (.ins C _) => some (.o C)
  | none => none)
 | .BV _ _ => some (.b "dict")
 | _ => none
def names7 : List String := ["NoneType", "bool", "int", "str", "tuple", "list", "dict"]
def V3 (t n : String) : Bool := t == n || (t == "bool" && n == "int")
theorem QF : ∀ t ∈ names7, ∀ n ∈ ["bool", "int", "str", "tuple", "list", "dict"], kitB t n = some (V3 t n) := by decide +kernel
structure Z5 (K : PySem.W.Frag) (C : Addr) : Prop where
 cl : Cls K C
 ha : PySem.W.findIn K (.ref C) "__class__" = some (some (.builtin "object.__class__"))
 hn : PySem.W.specialIn K (.builtin "object.__class__") "__get__" = some (some (.builtin "getset_descriptor.__get__"))
 tk : PySem.W.takesIn K (.builtin "object.__class__") = some true
 hm : PySem.W.mroIn K C (.type "object") = some true
def TY : List D → Option (List String)
 | [] => some []
 | .ty n :: ds => (TY ds).map fun ns => n :: ns
 | _ :: _ => none
def fZ (kc : y6 → y6 → Option Bool) : MF := fun ds w => match ds with
 | [d, .ty n] => (match SW d w with
  | some (.b t) => if t ∈ names7 ∧ n ∈ ["bool", "int", "str", "tuple", "list", "dict"] then .ok (.bl (V3 t n)) w else .bad
  | some (.o C) => (match kc (.o C) (.b n) with
   | some r => .ok (.bl r) w
   | none => .bad)
  | none => .bad)
 | [d, .con C] => (match SW d w with
  | some t => (match kc t (.o C) with
   | some r => .ok (.bl r) w
   | none => .bad)
  | none => .bad)
 | [d, .tup cs] => (match SW d w, TY cs with
  | some (.b t), some ns => if t ∈ names7 ∧ ∀ n ∈ ns, n ∈ ["bool", "int", "str", "tuple", "list", "dict"] then .ok (.bl (ns.any (V3 t))) w else .bad
  | _, _ => .bad)
 | _ => .bad
structure aCj (K : PySem.W.Frag) (kc : y6 → y6 → Option Bool) : Prop where
 one : ∀ t c r, kc t c = some r → PySem.W.kitOne K t.v c.v = some r
 ins : ∀ C c r, kc (.o C) c = some r → Z5 K C
def gI : y6 → y6 → Option Bool := fun _ _ => none
theorem jH {K : PySem.W.Frag} : aCj K gI := ⟨fun _ _ _ h => (by cases h), fun _ _ _ h => (by cases h)⟩
theorem FU {K : PySem.W.Frag} {I : List Addr} {F G H : Hp} {w : W} (rel : Rel K I F G w H) {d : D} {v : V} (h : aG K I F d v) {t : y6} (e : SW d w = some t) (hi : ∀ C, t = .o C → Z5 K C) : TyX K H v t.v := by
 have hT : ∀ {a : Addr} {vs : List V}, SqT K H a vs → TyX K H (.ref a) (.type "tuple") := fun {a vs} q => by
  rcases q with (q | ⟨o, q⟩) | q
  ·exact .base (.tup q)
  ·exact .fTuple q
  ·obtain ⟨o, its, n, q1, q2, _⟩ := q
   exact .kTuple q1 q2
 have hL : ∀ {a : Addr} {vs : List V}, SqL K H a vs → TyX K H (.ref a) (.type "list") := fun {a vs} q => by
  rcases q with (q | ⟨o, q⟩) | q
  ·exact .base (.lst q)
  ·exact .base (.frz q)
  ·obtain ⟨o, its, n, q1, q2, _⟩ := q
   exact .kList q1 q2
 cases d <;> simp only [SW, af, reduceCtorEq] at e <;> simp only [aG] at h
 case non => subst h; subst e; exact .base .non
 case bl => subst h; subst e; exact .base (.bl _)
 case int => subst h; subst e; exact .base (.int _)
 case str => subst h; subst e; exact .base (.str _)
 case tup => obtain ⟨a, vs, rfl, h1, _⟩ := h; subst e; exact hT (.of (rel.fz _ _ h1))
 case pW => obtain ⟨a, vs, rfl, h1, _⟩ := h; subst e; exact hT (rel.MD h1)
 case lst => obtain ⟨a, vs, rfl, h1, _⟩ := h; subst e; exact hL (.of (rel.fz _ _ h1))
 case mH => obtain ⟨a, vs, rfl, h1, _⟩ := h; subst e; exact hL (rel.QJ h1)
 case ref i =>
  obtain ⟨a, rfl, hi'⟩ := h
  split at e
  ·rename_i hw; cases e; obtain ⟨u, hu, vs, rfl, _⟩ := rel.ob i a _ hi' hw; exact .base (.lst hu)
  ·rename_i hw; cases e; obtain ⟨u, hu, vs, rfl, _⟩ := rel.ob i a _ hi' hw; exact .base (.dK hu)
  ·rename_i hw; cases e; obtain ⟨u, hu, vs, rfl, _⟩ := rel.ob i a _ hi' hw; exact .base (.dT hu)
  ·rename_i hw; cases e; obtain ⟨u, hu, o, vs, rfl, _⟩ := rel.ob i a _ hi' hw; exact .fDict hu
  ·cases e
  ·rename_i C fs hw
   cases e
   obtain ⟨u, hu, dx, r, rfl, _⟩ := rel.ob i a _ hi' hw
   have z := hi C rfl
   exact .base (.ins hu z.cl z.ha z.hn z.tk z.hm)
  ·cases e
 case BV =>
  obtain ⟨a, kvs, rfl, h1, _⟩ := h
  subst e
  rcases h1 with h1 | ⟨o, h1⟩
  ·exact .base (.dK (rel.fz _ _ h1))
  ·exact .fDict (rel.fz _ _ h1)
theorem LZ {K : PySem.W.Frag} {I : List Addr} {F : Hp} {t : String} (ht : t ∈ names7) : ∀ {cs : List D} {ns : List String} {vs : List V}, TY cs = some ns → RepL K I F cs vs → (∀ n ∈ ns, n ∈ ["bool", "int", "str", "tuple", "list", "dict"]) → ∃ ws, Paired ClsV vs ws ∧ PySem.W.kitAny K (.type t) ws = some (ns.any (V3 t))
 | [], ns, vs, e, r, _ => by
  simp only [TY, af] at e
  subst e
  simp only [RepL] at r
  subst r
  exact ⟨[], .nil, kitAny_nil⟩
 | d :: ds, ns, vs, e, r, hn => by
  cases d <;> simp only [TY, aj, reduceCtorEq] at e
  rename_i n
  obtain ⟨ns', e1, rfl⟩ := e
  simp only [RepL, aG] at r
  obtain ⟨v, r', rfl, rfl, r2⟩ := r
  obtain ⟨ws, p, q⟩ := LZ ht e1 r2 fun m hm => hn m (av _ hm)
  refine ⟨.type n :: ws, .cons (.ty n) p, ?_⟩
  have k1 : PySem.W.kitOne K (.type t) (.type n) = some (V3 t n) := kit_ty (QF t ht n (hn n (aq ..)))
  rw [List.any_cons]
  refine kitAny_cons k1 (fun hb => ?_) fun hb => ?_
  ·rw [hb, Bool.false_or]; exact q
  ·rw [hb, Bool.true_or]
theorem nM {S : aM} {kc : y6 → y6 → Option Bool} (hk : aCj S.K kc) : CB S (.builtin "isinstance") (fZ kc) := uC fun X E c xo I F G ds w H vs Q rel rl p => by
 unfold fZ at p
 split at p
 ·rename_i d n
  obtain ⟨v, u, rfl, rv, ru⟩ := rl.two
  simp only [aG] at ru
  subst ru
  split at p
  ·rename_i t ht
   split at p
   ·rename_i hc
    exact ⟨_, call_isi, v, .ty n, _, .type n, _, rfl, .ty n, FU rel rv ht (fun C z => by cases z), kit_ty (QF t hc.1 n hc.2), p.nE rel (by simp [aG])⟩
   ·exact p.elim
  ·rename_i C hC
   split at p
   ·rename_i r hr
    exact ⟨_, call_isi, v, .ty n, _, .type n, _, rfl, .ty n, FU rel rv hC (fun C' z => by cases z; rw [c.K]; exact hk.ins _ _ _ hr), by rw [c.K]; exact hk.one _ _ _ hr, p.nE rel (by simp [aG])⟩
   ·exact p.elim
  ·exact p.elim
 ·rename_i d C
  obtain ⟨v, u, rfl, rv, ru⟩ := rl.two
  simp only [aG] at ru
  subst ru
  split at p
  ·rename_i t ht
   split at p
   ·rename_i r hr
    exact ⟨_, call_isi, v, .ref C, _, .ref C, _, rfl, .own C, FU rel rv ht (fun C' z => by subst z; rw [c.K]; exact hk.ins _ _ _ hr), by rw [c.K]; exact hk.one _ _ _ hr, p.nE rel (by simp [aG])⟩
   ·exact p.elim
  ·exact p.elim
 ·rename_i d cs
  obtain ⟨v, u, rfl, rv, ru⟩ := rl.two
  simp only [aG] at ru
  obtain ⟨tp, vs, rfl, h2, h3⟩ := ru
  split at p
  ·rename_i t ns ht hn
   split at p
   ·rename_i hc
    obtain ⟨ws, hp, hk2⟩ := LZ (K := X.K) hc.1 hn h3 hc.2
    exact ⟨_, call_isiT, v, tp, vs, _, ws, _, rfl, rel.fz _ _ h2, hp, FU rel rv ht (fun C z => by cases z), hk2, p.nE rel (by simp [aG])⟩
   ·exact p.elim
  ·exact p.elim
 ·exact p.elim
def rF : List D → Option (List Bool)
 | [] => some []
 | .bl b :: r => (rF r).map (b :: ·)
 | _ :: _ => none
theorem AF {K : PySem.W.Frag} {I : List Addr} {F : Hp} : ∀ {ds : List D} {vs : List V} {ns : List Bool}, RepL K I F ds vs → rF ds = some ns → vs = ns.map V.bl
 | [], vs, ns, h, e => by simp only [rF, af] at e; subst e; simp only [RepL] at h; exact h
 | d :: ds, vs, ns, h, e => by
  cases d <;> simp only [rF, aj, reduceCtorEq] at e
  obtain ⟨r, e1, rfl⟩ := e
  simp only [RepL, aG] at h
  obtain ⟨v, t, rfl, rfl, h2⟩ := h
  rw [AF h2 e1]
  rfl
def allM : MF := fun ds w => match ds with
 | [d] => (match (sI d w).bind rF with
  | some bs => .ok (.bl (bs.all id)) w
  | none => .bad)
 | _ => .bad
theorem sZ {S : aM} : CB S (.builtin "all") allM := uC fun X E c xo I F G ds w H vs Q rel rl p => by
 unfold allM at p
 split at p
 ·rename_i d
  obtain ⟨v, rfl, rv⟩ := rl.one
  split at p
  ·rename_i bs hn
   obtain ⟨xs, h1, h2⟩ := cj.mp hn
   obtain ⟨a, us, rfl, hq, hr⟩ := GL rel rv h1
   obtain rfl := AF hr h2
   exact ⟨_, cr_all c.calm, a, bs, rfl, hq, p.nE rel (by simp [aG])⟩
  ·exact p.elim
 ·exact p.elim
def M4 (x y : D) (w : W) : Res D := match x, y with
 | .int a, .int b => .ok (.bl (decide (a < b))) w
 | x, y => match (tU x).bind jQ, (tU y).bind jQ with
  | some ns, some ms => .ok (.bl (HT.lexLt ns ms)) w
  | _, _ => .bad
theorem Z8 {S : aM} : O2 S (compareOp .Lt) M4 := gJ fun X E c xo I F G d e w H x y Q rel rd re p => by
 unfold M4 at p
 split at p
 ·simp only [aG] at rd re
  exact ⟨_, op_lt, _, _, rd, re, p.nE rel (by simp [aG])⟩
 ·split at p
  ·rename_i ns ms h1 h2
   obtain ⟨xs, q1, q2⟩ := cj.mp h1
   obtain ⟨ys, q3, q4⟩ := cj.mp h2
   obtain ⟨a, us, rfl, g1, g2⟩ := W3 rel rd q1
   obtain ⟨b, ts, rfl, g3, g4⟩ := W3 rel re q3
   obtain rfl := nV g2 q2
   obtain rfl := nV g4 q4
   exact ⟨_, op_ltT (by have := c.room.un; omega), a, b, ns, ms, rfl, rfl, g1, g3, p.nE rel (by simp [aG])⟩
  ·exact p.elim
theorem A5 {K : PySem.W.Frag} {I : List Addr} {F G H : Hp} {w : W} {q : Addr} {u : HO} (rel : Rel K I F (upd G q u) w H) (hG : G q = none) : Rel K I F G w H :=
 ⟨rel.len, rel.nd, rel.ob, rel.fz, rel.ap, fun a v h => rel.gz a v (by rw [upd_ne (ne_of_none h hG)]; exact h), fun a v h => rel.gf a v (by rw [upd_ne (ne_of_none h hG)]; exact h), fun a xs h => rel.gt a xs (by rw [upd_ne (ne_of_none h hG)]; exact h)⟩
theorem a9.more {α : Type} {K : PySem.W.Frag} {I : List Addr} {F G : Hp} {E : XK} {R R' : List Addr → Hp → Hp → α → W → Prop} {r : Res α} {q : Addr} {u : HO} (p : a9 K I F G E R r) (hG : G q = none)
  (k : ∀ I' F' H' a w, r = .ok a w → Ext I F I' F' → Rel K I' F' (upd G q u) w H' → R I' F' H' a w → R' I' F' H' a w) : a9 K I F (upd G q u) E R' r := by
 cases r with
 | ok a w => exact fun I' F' H' e rel => k I' F' H' a w rfl e rel (p I' F' H' e (A5 rel hG))
 | E5 x w => exact fun I' F' H' c d e rel rx => p I' F' H' c d e (A5 rel hG) rx
 | bad => exact p
abbrev MP := Sg → W → Res (List (D × D))
def R7 : MP := fun _ w => .ok [] w
def mA (mk mv : ME) (r : MP) : MP := fun σ w => (mk σ w).bind fun k w1 => (mv σ w1).bind fun v w2 => (r σ w2).bind fun ps w3 => .ok ((k, v) :: ps) w3
def keyed : List (D × D) → Option (List (Key × D))
 | [] => some []
 | (k, v) :: r => match keyD k, keyed r with
  | some j, some t => some ((j, v) :: t)
  | _, _ => none
def xF {κ : Type} [DecidableEq κ] (kvs more : List (κ × D)) : List (κ × D) := more.foldl (fun acc kv => putD acc kv.1 kv.2) kvs
def NU (m : MP) : ME := fun σ w => (m σ w).bind fun ps w1 => match keyed ps with
 | some kvs => if kvs.length ≤ 15 then .ok (.ref w1.length) (w1 ++ [.dK (xF [] kvs)]) else .bad
 | none => .bad
def FP : ME := fun _ w => .ok (.ref w.length) (w ++ [.dT []])
def aB5 (K : PySem.W.Frag) (I : List Addr) (F : Hp) (ps : List (D × D)) (vs : List (V × V)) : Prop := RepL K I F (ps.map (·.1)) (vs.map (·.1)) ∧ RepL K I F (ps.map (·.2)) (vs.map (·.2))
def RPs (K : PySem.W.Frag) (Q : List (V × V) → Hp → Prop) : List Addr → Hp → Hp → List (D × D) → W → Prop := fun I' F' H' ps _ => ∀ vs, aB5 K I' F' ps vs → Q vs H'
def lowP (K : PySem.W.Frag) (E : XK) (m : MP) : L2.St → Hp → (List (V × V) → Hp → Prop) → Prop := fun σ H Q => ∃ I F G ds w, Rel K I F G w H ∧ e8 K I F ds σ ∧ a9 K I F G E (RPs K Q) (m ds w)
def JD (S : aM) (pos : Pos) (ks : List (Option Expr)) (vs : List Expr) (m : MP) : Prop := ∀ X E, Ctx S X → pX X E → ∃ trs, PPs X pos ks vs trs ∧ ∀ σ H Q, lowP X.K E m σ H Q → tPairs trs σ H Q
theorem aP.merge {K : PySem.W.Frag} {I : List Addr} {F : Hp} {κ : Type} [DecidableEq κ] : ∀ {more : List (κ × D)} {rs : List (κ × V)} {kvs : List (κ × D)} {vs : List (κ × V)}, aP K I F more rs → aP K I F kvs vs → aP K I F (xF kvs more) (rs.foldl (fun acc kv => putK acc kv.1 kv.2) vs)
 | [], rs, kvs, vs, h, g => by simp only [aP] at h; subst h; exact g
 | (k, d) :: more, rs, kvs, vs, h, g => by
  simp only [aP] at h
  obtain ⟨v, r, rfl, h1, h2⟩ := h
  exact aP.merge (more := more) (rs := r) h2 (g.put k h1)
theorem EL {K : PySem.W.Frag} {I : List Addr} {F : Hp} : ∀ {ps : List (D × D)} {vs : List (V × V)} {kvs : List (Key × D)}, aB5 K I F ps vs → keyed ps = some kvs → ∃ r : List (Key × V), vs = r.map (fun kv => (kV kv.1, kv.2)) ∧ aP K I F kvs r
 | [], vs, kvs, h, e => by
  simp only [keyed, af] at e
  subst e
  have := h.1
  simp only [List.map_nil, RepL, List.map_eq_nil_iff] at this
  subst this
  exact ⟨[], rfl, by simp [aP]⟩
 | (k, d) :: ps, vs, kvs, h, e => by
  obtain ⟨h1, h2⟩ := h
  cases vs with
  | nil => simp only [List.map_cons, List.map_nil, RepL] at h1; obtain ⟨_, _, z, _⟩ := h1; cases z
  | cons x vs =>
   obtain ⟨x1, x2⟩ := x
   simp only [List.map_cons, RepL] at h1 h2
   obtain ⟨v, r, z1, g1, g2⟩ := h1
   obtain ⟨u, t, z2, g3, g4⟩ := h2
   cases z1
   cases z2
   simp only [keyed] at e
   split at e
   ·rename_i j tt e1 e2
    cases e
    obtain ⟨rr, e3, e4⟩ := EL ⟨g2, g4⟩ e2
    refine ⟨(j, x2) :: rr, ?_, ?_⟩
    ·rw [List.map_cons, ← e3, qD g1 e1]
    ·simp only [aP]; exact ⟨x2, rr, rfl, g3, e4⟩
   ·cases e
section
variable {S : aM} {pos : Pos} {k v : Expr} {ks : List (Option Expr)} {vs : List Expr} {mk mv : ME} {m : MP}
theorem UA : JD S pos [] [] R7 := fun X E cx xo => ⟨[], pps_nil, fun σ H Q ⟨I, F, G, ds, w, rel, rs, p⟩ => p I F H .refl rel [] ⟨by simp [RepL], by simp [RepL]⟩⟩
theorem rX (hk : JE S k mk) (hv : JE S v mv) (hr : JD S pos ks vs m) : JD S pos (some k :: ks) (v :: vs) (mA mk mv m) := fun X E cx xo => by
 obtain ⟨trs, h1, h2⟩ := hr X E cx xo
 refine ⟨(sC X.K E mk, sC X.K E mv) :: trs, pps_cons (hk X E cx xo) (hv X E cx xo) h1, fun σ H Q ⟨I, F, G, ds, w, rel, rs, p⟩ => ?_⟩
 refine bR (f := fun ds x w1 => (mv ds w1).bind fun y w2 => (m ds w2).bind fun ps w3 => .ok ((x, y) :: ps) w3) rel rs p fun I1 F1 H1 x w1 a e1 rel1 rs1 ra p1 => ?_
 refine bR (f := fun ds y w2 => (m ds w2).bind fun ps w3 => .ok ((x, y) :: ps) w3) rel1 rs1 p1 fun I2 F2 H2 y w2 b e2 rel2 rs2 rb p2 => ?_
 refine h2 σ H2 _ ⟨I2, F2, G, ds, w2, rel2, rs2, (a9.bind p2).mono fun I3 F3 H3 ps w3 _ e3 rel3 p3 us ru => ?_⟩
 refine p3 I3 F3 H3 .refl rel3 ((a, b) :: us) ⟨?_, ?_⟩
 ·exact RepL.cons (aG.ext (e2.trans e3) _ _ ra) ru.1
 ·exact RepL.cons (aG.ext e3 _ _ rb) ru.2
theorem W4 (h : JD S pos ks vs m) (hall : ks.all (·.isSome) = true := by rfl) (hl : ks.length = vs.length := by rfl) (h0 : ks ≠ [] := by simp) (h15 : ks.length ≤ 15 := by exact ah rfl) : JE S (.Dict ks vs pos) (NU m) := fun X E cx xo => by
 obtain ⟨trs, g1, g2⟩ := h X E cx xo
 refine b6 (pe_disp g1 hall hl h0 h15) fun σ H Q ⟨I, F, G, ds, w, rel, rs, p⟩ q hq => ?_
 have hG : G q = none := by
  cases z : G q with
  | none => rfl
  | some u => rw [rel.gz _ _ z] at hq; cases hq
 refine g2 σ _ _ ⟨I, F, upd G q (.dK []), ds, w, rel.keep hq, rs, (a9.bind p).more hG fun I1 F1 H1 ps w1 _ e1 rel1 p1 us ru => ?_⟩
 refine ⟨rel1.gz q _ upd_same, ?_⟩
 split at p1
 ·rename_i kvs hk
  split at p1
  ·rename_i hl'
   obtain ⟨r, e2, e3⟩ := EL ru hk
   refine ⟨r, e2, by rw [← e3.length]; exact hl', ?_⟩
   obtain ⟨ee, rel2⟩ := (rel1.V1 (u' := .dK (mergeK [] r))).owned hG (o := .dK (xF [] kvs)) ⟨_, rfl, aP.merge e3 (by simp [aP])⟩
   refine p1 _ _ _ ee rel2 _ ?_
   simp only [aG]
   refine ⟨q, rfl, ?_⟩
   rw [← rel1.len, bp (az _)]
   simp
  ·exact p1.elim
 ·exact p1.elim
end
def getM : RM := fun d ds w => match d, ds with
 | .ref i, [k, z] => (match w[i]? with
  | some o => (match oE o k with
   | some r => .ok (r.getD z) w
   | none => .bad)
  | none => .bad)
 | _, _ => .bad
theorem aBk {S : aM} : MB S "dict.get" getM := CO fun X E c xo I F G d ds w H x vs Q rel rd rl p => by
 unfold getM at p
 split at p
 ·rename_i i k z
  simp only [aG] at rd
  obtain ⟨a, rfl, hi⟩ := rd
  obtain ⟨vk, vz, rfl, rk, rz⟩ := rl.two
  split at p
  ·rename_i o hw
   split at p
   ·rename_i r hr
    obtain ⟨q, g, hq⟩ := zP rel hi hw rk hr
    refine ⟨fun x xs H Q => ∃ a k z o, x = .ref a ∧ xs = [k, z] ∧ DGet H a k o ∧ Q (o.getD z) H, fun pins s σ H x xs v us Q J rx rxs h => ?_, a, vk, vz, q, rfl, rfl, g, ?_⟩
    ·obtain ⟨a, k, z, o, rfl, rfl, g, q⟩ := h
     cases rx
     obtain ⟨u1, u2, rfl, r1, r2⟩ := rxs.two
     exact d_get2 (by have := c.room.un; omega) J g r1 r2 fun w' s' J' r' => ⟨_, H, J', r', q⟩
    ·refine p.nE rel ?_
     cases r with
     | none => rw [show q = none from hq]; exact rz
     | some d => obtain ⟨v, rfl, hv⟩ := hq; exact hv
   ·exact p.elim
  ·exact p.elim
 ·exact p.elim
def ZD : Key → D
 | .inl i => .int i
 | .inr x => .str x
def VJ (d : D) (w : W) : Res kP := match d with
 | .ref i => (match w[i]? with
  | some (.dK kvs) => .ok ⟨kvs.map fun p => .tup [ZD p.1, p.2], always⟩ (w.set i (.dF kvs))
  | _ => .bad)
 | _ => .bad
def QZ (m : ME) : MI := fun σ w => (m σ w).bind VJ
theorem aP.get {K : PySem.W.Frag} {I : List Addr} {F : Hp} {κ : Type} : ∀ {kvs : List (κ × D)} {r : List (κ × V)} {i : Nat} {k : κ} {v : V}, aP K I F kvs r → r[i]? = some (k, v) → ∃ d, kvs[i]? = some (k, d) ∧ aG K I F d v
 | [], r, i, k, v, h, e => by simp only [aP] at h; subst h; simp at e
 | (j, d) :: kvs, r, 0, k, v, h, e => by
  simp only [aP] at h
  obtain ⟨u, t, rfl, h1, h2⟩ := h
  simp at e
  obtain ⟨rfl, rfl⟩ := e
  exact ⟨d, rfl, h1⟩
 | (j, d) :: kvs, r, i + 1, k, v, h, e => by
  simp only [aP] at h
  obtain ⟨u, t, rfl, h1, h2⟩ := h
  obtain ⟨d', h3, h4⟩ := aP.get (i := i) h2 (by simpa using e)
  exact ⟨d', by simpa using h3, h4⟩
theorem xK {K : PySem.W.Frag} {I : List Addr} {F G H : Hp} {w : W} {ds : List D} {vs : List V} (rel : Rel K I F G w H) (r : RepL K I F ds vs) {q : Addr} (hq : H q = none) : ∃ F2, Ext I F I F2 ∧ Rel K I F2 G w (upd H q (.tup vs)) ∧ aG K I F2 (.tup ds) (.ref q) := by
 have hF : F q = none := by
  cases h : F q with
  | none => rfl
  | some u => rw [rel.fz _ _ h] at hq; cases hq
 have e : Ext I F I (upd F q (.tup vs)) := ⟨List.prefix_refl _, fun a u h => by rw [upd_ne (ne_of_none h hF)]; exact h⟩
 refine ⟨_, e, ⟨rel.len, rel.nd, fun i a o h1 h2 => ?_, fun a u h => ?_, fun i a o h h0 hf => ?_, fun a u h => ?_, fun a u h => ?_, rel.gt⟩, ?_⟩
 ·obtain ⟨u, h3, h4⟩ := rel.ob i a o h1 h2
  exact ⟨u, by rw [upd_ne (ne_of_none h3 hq)]; exact h3, mJ.ext e h4⟩
 ·by_cases ha : a = q
  ·subst ha; rw [upd_same] at h ⊢; exact h
  ·rw [upd_ne ha] at h ⊢; exact rel.fz a u h
 ·obtain ⟨u, h3, _⟩ := rel.ob i a o h h0
  rw [upd_ne (ne_of_none h3 hq)]; exact rel.ap i a o h h0 hf
 ·rw [upd_ne (ne_of_none (rel.gz a u h) hq)]; exact rel.gz a u h
 ·rw [upd_ne (ne_of_none (rel.gz a u h) hq)]; exact rel.gf a u h
 ·simp only [aG]
  exact ⟨q, vs, rfl, upd_same, RepL.ext e _ _ r⟩
open Classical in
open Classical in
theorem still {α : Type} {K : PySem.W.Frag} {R : List Addr → Hp → Hp → α → W → Prop} {r : Res α} {I : List Addr} {F G : Hp} {q : Addr} {u : HO} (hG : G q = none) (p : a9 K I F G E0 R r) :
  a9 K I F (upd G q u) E0 (fun I' F' H' a w => Rel K I' F' (upd G q u) w H' ∧ ∀ H'', Rel K I' F' G w H'' → R I' F' H'' a w) r := by
 cases r with
 | ok a w => exact fun I' F' H' e q => ⟨q, fun H'' q' => p I' F' H'' e q'⟩
 | E5 x w => exact fun I' F' H' c d e q rx => p I' F' H' c d e (A5 q hG) rx
 | bad => exact p
structure KTab (K : PySem.W.Frag) (w : World) (d : Addr) (tab : List (Str × Option D)) : Prop where
 ex : ∃ es n, KDict K w d es n
 hit : ∀ z x, tab.lookup z = some (some x) → ∃ u v, PySem.W.nsIn K d z = some (some u) ∧ RelV v u ∧ ∀ I F, aG K I F x v
 miss : ∀ z, tab.lookup z = some none → PySem.W.nsIn K d z = some none
 out : ∀ z, tab.lookup z = none → PySem.W.nsIn K d z = some none
def ML (d : Addr) (tab : List (Str × Option D)) (x y : D) (w : W) : Res D := match x, y with
 | .str z, .con a => if a = d then (match tab.lookup z with
  | some o => .ok (.bl o.isSome) w
  | none => .ok (.bl false) w) else .bad
 | _, _ => .bad
def OV (d : Addr) (tab : List (Str × Option D)) (x y : D) (w : W) : Res D := match x, y with
 | .con a, .str z => if a = d then (match tab.lookup z with
  | some (some v) => .ok v w
  | _ => .bad) else .bad
 | _, _ => .bad
theorem aAJ {S : aM} {d : Addr} {tab : List (Str × Option D)} (T : KTab S.K S.w d tab) : O2 S (compareOp .In) (ML d tab) := gJ fun X E c xo I F G a b w H x y Q rel rd re p => by
 unfold ML at p
 split at p
 ·rename_i z a'
  simp only [aG] at rd re
  subst rd re
  split at p
  ·rename_i hd
   subst hd
   obtain ⟨es, n, T1⟩ := T.ex
   rw [← c.K, ← c.w] at T1
   cases h : tab.lookup z with
   | none => rw [h] at p; exact ⟨_, op_in_kd T1, z, none, rfl, rfl, by rw [c.K]; exact T.out z h, p.nE rel (by simp [aG])⟩
   | some o =>
    rw [h] at p
    cases o with
    | none => exact ⟨_, op_in_kd T1, z, none, rfl, rfl, by rw [c.K]; exact T.miss z h, p.nE rel (by simp [aG])⟩
    | some v =>
     obtain ⟨u, v', h1, h2, h3⟩ := T.hit z v h
     exact ⟨_, op_in_kd T1, z, some u, rfl, rfl, by rw [c.K]; exact h1, p.nE rel (by simp [aG])⟩
  ·exact p.elim
 ·exact p.elim
theorem aAP {S : aM} {d : Addr} {tab : List (Str × Option D)} (T : KTab S.K S.w d tab) : UQ S (OV d tab) := MW fun X E c xo I F G a b w H x y Q rel rd re p => by
 unfold OV at p
 split at p
 ·rename_i a' z
  simp only [aG] at rd re
  subst rd re
  split at p
  ·rename_i hd
   subst hd
   obtain ⟨es, n, T1⟩ := T.ex
   rw [← c.K, ← c.w] at T1
   cases h : tab.lookup z with
   | none => rw [h] at p; exact p.elim
   | some o =>
    cases o with
    | none => rw [h] at p; exact p.elim
    | some v =>
    rw [h] at p
    obtain ⟨u, v', h1, h2, h3⟩ := T.hit z v h
    exact ⟨_, ix_kdict, a', z, v', rfl, rfl, ⟨es, n, u, T1.at_, T1.lit, by rw [c.K]; exact h1, h2⟩, p.nE rel (by rw [c.K]; exact h3 _ _)⟩
  ·exact p.elim
 ·exact p.elim
theorem aA6 {S : aM} {d : Addr} {tab : List (Str × Option D)} {a b : Expr} {ma mb : ME} {pos : Pos} (T : KTab S.K S.w d tab) (ha : JE S a ma) (hb : JE S b mb) (hs : PlainIx b := by intro _ _; rfl) : JE S (.Subscript a b pos) (aD (OV d tab) ma mb) := fun X E c xo =>
 b6 (pe_ix (aAP T X E c xo) (ha X E c xo) (hb X E c xo) hs) fun _ _ _ h => vC h
open RZ (nextOf_tuple_item nextOf_tuple_end zipTH1 zipTH2 zipTH3 zipTH4)
abbrev pR (h : Heap) (z TI TO : Addr) (f0 : Value) : Prop :=
 h.get? z = some { cls := .type "zip", dict := none, data := .fields #[f0, .bool false, .bool true, .ref TI, .ref TO], slots := #[] }
abbrev W8 (h : Heap) (l1 l2 : Addr) : Heap := (zipTH4 h l1 l2).push { cls := .type "zip", data := .fields #[.none, .bool false, .bool true, .ref (zipTH2 h l1 l2).objs.size, .ref (zipTH3 h l1 l2).objs.size] }
theorem KG (a b c : Value) : checkTypeCall "zip" ⟨[a, b], [(Str.ofString "strict", c)]⟩ = pure () := by kernel_rfl
theorem PD (a b c : Value) : checkBuiltinCall "zip.__new__" ⟨[.type "zip", a, b], [(Str.ofString "strict", c)]⟩ = pure () := by kernel_rfl
theorem XJ (x a b c : Value) : argsOk "object.__init__" ⟨[x, a, b], [(Str.ofString "strict", c)]⟩ := by unfold argsOk; kernel_rfl
theorem aBH (l1 l2 : Addr) (xs ys : Array Value) : Meets (Builtin.«zip.__new__» ⟨[.type "zip", .ref l1, .ref l2], [(Str.ofString "strict", .bool true)]⟩) (fun _ R s => s.heap.IsTuple l1 xs ∧ s.heap.IsTuple l2 ys ∧
   R (.ok (.ret (.ref (zipTH4 s.heap l1 l2).objs.size))) { s with heap := W8 s.heap l1 l2 }) :=
 .of_wp fun prog w A R s ⟨t1, t2, fin⟩ => by
  obtain ⟨hp, gs, dr, tk, os⟩ := s
  have sub0 := sub_zip
  have T1 : Heap.IsTuple (Shared.heap ⟨hp, gs, dr, tk, os⟩) l1 xs := t1
  have T2 : Heap.IsTuple (Shared.heap ⟨hp.push { cls := .type "tuple_iterator", data := .fields #[.ref l1, .int 0 0] }, gs, dr, tk, os⟩) l2 ys := Heap.IsTuple.push t2 _
  have s1 : (Str.ofString "strict" == ("strict" : Str)) = true := by decide +kernel
  have s2 : (Str.ofString "strict" != ("strict" : Str)) = false := by decide +kernel
  wp_walk using wpAny_pyIter_tuple T1, wpAny_pyIter_tuple T2
  exact ⟨_, rfl, fin⟩
open RZ (nextOf_tuple_item nextOf_tuple_end zipTH1 zipTH2 zipTH3 zipTH4)
section
variable {prog : Program} {w : World} {A : Around} {E : Value → Shared → Prop} {s : Shared}
theorem ZG {l1 l2 : Addr} {xs ys : Array Value} {Q : Value → Shared → Prop} (t1 : s.heap.IsTuple l1 xs) (t2 : s.heap.IsTuple l2 ys)
  (fin : ∀ g, pR g (s.heap.objs.size + 4) (s.heap.objs.size + 2) (s.heap.objs.size + 3) .none → IsPair g (s.heap.objs.size + 2) (.ref s.heap.objs.size) (.ref (s.heap.objs.size + 1)) → IsPair g (s.heap.objs.size + 3) .none .none →
   g.IsTupleIter s.heap.objs.size l1 0 → g.IsTupleIter (s.heap.objs.size + 1) l2 0 → (∀ c o, s.heap.get? c = some o → g.get? c = some o) → Q (.ref (s.heap.objs.size + 4)) { s with heap := g }) :
  wpAny (model prog w) A (call (.type "zip") [.ref l1, .ref l2] [(Str.ofString "strict", .bool true)]) Q E s := by
 refine callType_newKw F.called_zip (by decide) (KG _ _ _) (PD _ _ _) (fun x => XJ x _ _ _) F.entry_zip_new (aBH l1 l2 xs ys) ⟨t1, t2, ?_⟩
 have n1 : (zipTH1 s.heap l1).objs.size = s.heap.objs.size + 1 := Heap.size_push ..
 have n2 : (zipTH2 s.heap l1 l2).objs.size = s.heap.objs.size + 2 := by rw [Heap.size_push, n1]
 have n3 : (zipTH3 s.heap l1 l2).objs.size = s.heap.objs.size + 3 := by rw [Heap.size_push, n2]
 have n4 : (zipTH4 s.heap l1 l2).objs.size = s.heap.objs.size + 4 := by rw [Heap.size_push, n3]
 have up1 : ∀ {c o}, (zipTH4 s.heap l1 l2).get? c = some o → (W8 s.heap l1 l2).get? c = some o := fun h => Heap.get?_push_of_some _ h
 have up2 : ∀ {c o}, (zipTH3 s.heap l1 l2).get? c = some o → (W8 s.heap l1 l2).get? c = some o := fun h => up1 (Heap.get?_push_of_some _ h)
 have up3 : ∀ {c o}, (zipTH2 s.heap l1 l2).get? c = some o → (W8 s.heap l1 l2).get? c = some o := fun h => up2 (Heap.get?_push_of_some _ h)
 have up4 : ∀ {c o}, (zipTH1 s.heap l1).get? c = some o → (W8 s.heap l1 l2).get? c = some o := fun h => up3 (Heap.get?_push_of_some _ h)
 have k5 : (W8 s.heap l1 l2).get? (zipTH4 s.heap l1 l2).objs.size = some _ := Heap.get?_push_size _ rfl
 have k4 : (W8 s.heap l1 l2).get? (zipTH3 s.heap l1 l2).objs.size = some _ := up1 (Heap.get?_push_size _ rfl)
 have k3 : (W8 s.heap l1 l2).get? (zipTH2 s.heap l1 l2).objs.size = some _ := up2 (Heap.get?_push_size _ rfl)
 have k2 : (W8 s.heap l1 l2).get? (zipTH1 s.heap l1).objs.size = some _ := up3 (Heap.get?_push_size _ rfl)
 have k1 : (W8 s.heap l1 l2).get? s.heap.objs.size = some _ := up4 (Heap.get?_push_size _ rfl)
 show _ ∧ _
 rw [n2, n3, n4] at k5
 rw [n1, n2] at k3
 rw [n3] at k4
 rw [n1] at k2
 rw [n4]
 exact ⟨⟨_, k5, rfl⟩, fin _ k5 k3 k4 ⟨_, k1, rfl, rfl⟩ ⟨_, k2, rfl, rfl⟩ fun c o h => up4 (Heap.get?_push_of_some _ h)⟩
theorem MY {it l : Addr} {i : Nat} {items : Array Value} {x : Value} {Q : Option Value → Shared → Prop} (a : s.heap.IsTupleIter it l i) (b : s.heap.IsTuple l items) (c : items[i]? = some x)
  (q : ∀ g, g.IsTupleIter it l (i + 1) → Heap.SameBut it s.heap g → Q (some x) { s with heap := g }) : wpAny (model prog w) A (Builtin.SmallTypes.nextOrEnd (.ref it)) Q E s := by
 unfold Builtin.SmallTypes.nextOrEnd
 exact wpAny_bind (wpAny_attempt (nextOf_tuple_item a b c fun g g1 g2 => wpAny_pure (q g g1 g2)))
theorem P4 {it l : Addr} {i : Nat} {items : Array Value} {Q : Option Value → Shared → Prop} (hh : A.handled = none) (a : s.heap.IsTupleIter it l i) (b : s.heap.IsTuple l items) (c : items[i]? = none)
  (q : ∀ g, Heap.ExtBut it s.heap g → Q none { s with heap := g }) : wpAny (model prog w) A (Builtin.SmallTypes.nextOrEnd (.ref it)) Q E s := by
 unfold Builtin.SmallTypes.nextOrEnd
 refine wpAny_bind (wpAny_attempt (nextOf_tuple_end hh a b c fun g e g1 ⟨o, g2, g3⟩ => ?_))
 refine wpAny_bind (wpAny_isInstance (T := "StopIteration") (b := true) ⟨o, g2, g3⟩ isSubtype_stop ?_)
 exact wpAny_pure (q g g1)
theorem BD {T : Addr} {a b x : Value} {k : Nat} {Q : Unit → Shared → Prop} (h : IsPair s.heap T a b) (q : ∀ g, g.get? T = some { cls := .type "tuple", data := .seq ((#[a, b] : Array Value).setIfInBounds k x) } → Heap.SameBut T s.heap g → Q () { s with heap := g }) :
  wpAny (model prog w) A (updateSeq T (·.setIfInBounds k x)) Q E s := wpAny_updateSeq_pair h q
theorem XM {z TI TO i1 i2 l1 l2 : Addr} {k : Nat} {xs ys : Array Value} {x y a b : Value} {Q : Value → Shared → Prop} (D : ZipApart z TI TO i1 i2 l1 l2)
  (hz : pR s.heap z TI TO .none) (hI : IsPair s.heap TI (.ref i1) (.ref i2)) (hO : IsPair s.heap TO a b) (a1 : s.heap.IsTupleIter i1 l1 k) (a2 : s.heap.IsTupleIter i2 l2 k) (b1 : s.heap.IsTuple l1 xs) (b2 : s.heap.IsTuple l2 ys) (c1 : xs[k]? = some x) (c2 : ys[k]? = some y)
  (fin : ∀ g, pR g z TI TO (rawInt s.heap.objs.size) → IsPair g TO x y → g.IsTupleIter i1 l1 (k + 1) → g.IsTupleIter i2 l2 (k + 1) → IsPair g s.heap.objs.size x y → (∀ c o, c ≠ z → c ≠ TO → c ≠ i1 → c ≠ i2 → s.heap.get? c = some o → g.get? c = some o) → Q (.ref s.heap.objs.size) { s with heap := g }) :
  wpAny (model prog w) A (Builtin.«zip.__next__» ⟨[.ref z], []⟩) (fun f t => ∃ v, f = .done (.ret v) ∧ Q v t) E s := by
 show wpAny _ _ (field (.ref z) 2 >>= _) _ _ _
 refine wpAny_bind (wpAny_field hz rfl (x := .bool true) rfl ?_)
 show wpAny _ _ (field (.ref z) 3 >>= _) _ _ _
 refine wpAny_bind (wpAny_field hz rfl (x := .ref TI) rfl ?_)
 refine wpAny_bind (wpAny_seqItems hI rfl ?_)
 show wpAny _ _ (Builtin.SmallTypes.ownedTupleIsFree (.ref z) >>= _) _ _ _
 refine wpAny_bind ?_
 unfold Builtin.SmallTypes.ownedTupleIsFree
 refine wpAny_bind (wpAny_field hz rfl (x := .none) rfl (wpAny_pure ?_))
 simp only [ae]
 refine wpAny_bind (wpAny_rule ?_)
 refine wpAny_bind (wpAny_field hz rfl (x := .ref TO) rfl ?_)
 refine wpAny_bind (wpAny_setField_rec hz (by simp) fun g1 z1 s1 => ?_)
 have z1' : pR g1 z TI TO .ellipsis := z1
 refine wpAny_bind ?_
 simp only [List.zipIdx_cons, List.zipIdx_nil, List.forIn_cons, List.forIn_nil]
 refine wpAny_bind (wpAny_bind (wpAny_onRaise ?_))
 show wpAny _ _ (Builtin.SmallTypes.nextOrEnd (.ref i1)) _ _ _
 refine MY (a1.extBut s1.extBut D.i1z) (b1.extBut s1.extBut D.l1z) c1 fun g2 d1 s2 => ?_
 have O2 : IsPair g2 TO a b := s2.extBut _ _ D.TOi1 (s1.extBut _ _ D.TOz hO)
 refine wpAny_bind (wpAny_seqItems O2 rfl ?_)
 refine wpAny_bind (BD O2 fun g3 O3 s3 => ?_)
 have O3' : IsPair g3 TO x b := O3
 refine wpAny_bind (wpAny_letGo (wpAny_pure ?_))
 refine wpAny_bind (wpAny_bind (wpAny_onRaise ?_))
 show wpAny _ _ (Builtin.SmallTypes.nextOrEnd (.ref i2)) _ _ _
 refine MY (((a2.extBut s1.extBut D.i2z).extBut s2.extBut D.i12.symm).extBut s3.extBut D.TOi2.symm) (((b2.extBut s1.extBut D.l2z).extBut s2.extBut D.l2i1).extBut s3.extBut D.l2TO) c2 fun g4 d2 s4 => ?_
 have O4 : IsPair g4 TO x b := s4.extBut _ _ D.TOi2 O3'
 refine wpAny_bind (wpAny_seqItems O4 rfl ?_)
 refine wpAny_bind (BD O4 fun g5 O5 s5 => ?_)
 have O5' : IsPair g5 TO x y := O5
 refine wpAny_bind (wpAny_letGo (wpAny_pure (wpAny_pure ?_)))
 refine wpAny_bind (wpAny_seqItems O5' rfl ?_)
 refine wpAny_bind (wpAny_newTuple ?_)
 have size5 : g5.objs.size = s.heap.objs.size := by rw [s5.1, s4.1, s3.1, s2.1, s1.1]
 have z5 : pR g5 z TI TO .ellipsis := s5.extBut _ _ D.TOz.symm (s4.extBut _ _ D.i2z.symm (s3.extBut _ _ D.TOz.symm (s2.extBut _ _ D.i1z.symm z1')))
 have kp : ∀ c o, c ≠ z → c ≠ TO → c ≠ i1 → c ≠ i2 → s.heap.get? c = some o → g5.get? c = some o := fun c o n1 n2 n3 n4 e =>
  s5.extBut _ _ n2 (s4.extBut _ _ n4 (s3.extBut _ _ n2 (s2.extBut _ _ n3 (s1.extBut _ _ n1 e))))
 have d1' : g5.IsTupleIter i1 l1 (k + 1) := ((d1.extBut s3.extBut D.TOi1.symm).extBut s4.extBut D.i12).extBut s5.extBut D.TOi1.symm
 have d2' : g5.IsTupleIter i2 l2 (k + 1) := d2.extBut s5.extBut D.TOi2.symm
 have zl : z < g5.objs.size := Heap.lt_size z5
 show wpAny _ _ (Builtin.SmallTypes.ownedTupleHandOut (.ref z) (.ref g5.objs.size) >>= _) _ _ _
 refine wpAny_bind ?_
 unfold Builtin.SmallTypes.ownedTupleHandOut
 have z6 : pR (g5.push { cls := .type "tuple", data := .seq #[x, y] }) z TI TO .ellipsis := Heap.get?_push_of_some _ z5
 refine wpAny_bind (wpAny_setField_rec z6 (by simp) fun g7 z7 s7 => ?_)
 have z7' : pR g7 z TI TO (rawInt g5.objs.size) := z7
 refine wpAny_setField_rec z7' (by simp) fun g8 z8 s8 => ?_
 have z8' : pR g8 z TI TO (rawInt g5.objs.size) := z8
 have up : ∀ c o, c ≠ z → g5.get? c = some o → g8.get? c = some o := fun c o n e => s8.extBut _ _ n (s7.extBut _ _ n (Heap.get?_push_of_some _ e))
 have T8 : IsPair g8 g5.objs.size x y := s8.extBut _ _ (Nat.ne_of_gt zl) (s7.extBut _ _ (Nat.ne_of_gt zl) (Heap.get?_push_size _ rfl))
 rw [size5] at z8' T8
 refine wpAny_pure ⟨_, rfl, ?_⟩
 show Q (.ref g5.objs.size) _
 rw [size5]
 exact fin g8 z8' (up _ _ D.TOz O5') (d1'.at fun o e => up _ o D.i1z e) (d2'.at fun o e => up _ o D.i2z e) T8 fun c o n1 n2 n3 n4 e => up c o n1 (kp c o n1 n2 n3 n4 e)
theorem aAx {z TI TO i1 i2 l1 l2 : Addr} {k : Nat} {xs ys : Array Value} {a b : Value} {Q : Fin → Shared → Prop} (hh : A.handled = none) (D : ZipApart z TI TO i1 i2 l1 l2)
  (hz : pR s.heap z TI TO .none) (hI : IsPair s.heap TI (.ref i1) (.ref i2)) (hO : IsPair s.heap TO a b) (a1 : s.heap.IsTupleIter i1 l1 k) (a2 : s.heap.IsTupleIter i2 l2 k) (b1 : s.heap.IsTuple l1 xs) (b2 : s.heap.IsTuple l2 ys) (c1 : xs[k]? = none) (c2 : ys[k]? = none)
  (fin : ∀ g e, (∀ c o, c ≠ z → c ≠ TO → c ≠ i1 → c ≠ i2 → s.heap.get? c = some o → g.get? c = some o) → (∃ o, g.get? e = some o ∧ o.cls = .type "StopIteration") → E (.ref e) { s with heap := g }) :
  wpAny (model prog w) A (Builtin.«zip.__next__» ⟨[.ref z], []⟩) Q E s := by
 show wpAny _ _ (field (.ref z) 2 >>= _) _ _ _
 refine wpAny_bind (wpAny_field hz rfl (x := .bool true) rfl ?_)
 show wpAny _ _ (field (.ref z) 3 >>= _) _ _ _
 refine wpAny_bind (wpAny_field hz rfl (x := .ref TI) rfl ?_)
 refine wpAny_bind (wpAny_seqItems hI rfl ?_)
 show wpAny _ _ (Builtin.SmallTypes.ownedTupleIsFree (.ref z) >>= _) _ _ _
 refine wpAny_bind ?_
 unfold Builtin.SmallTypes.ownedTupleIsFree
 refine wpAny_bind (wpAny_field hz rfl (x := .none) rfl (wpAny_pure ?_))
 simp only [ae]
 refine wpAny_bind (wpAny_rule ?_)
 refine wpAny_bind (wpAny_field hz rfl (x := .ref TO) rfl ?_)
 refine wpAny_bind (wpAny_setField_rec hz (by simp) fun g1 z1 s1 => ?_)
 have z1' : pR g1 z TI TO .ellipsis := z1
 refine wpAny_bind ?_
 simp only [List.zipIdx_cons, List.zipIdx_nil, List.forIn_cons, List.forIn_nil]
 refine wpAny_bind (wpAny_bind (wpAny_onRaise ?_))
 show wpAny _ _ (Builtin.SmallTypes.nextOrEnd (.ref i1)) _ _ _
 refine P4 hh (a1.extBut s1.extBut D.i1z) (b1.extBut s1.extBut D.l1z) c1 fun g2 s2 => ?_
 have z2 : pR g2 z TI TO .ellipsis := s2 _ _ D.i1z.symm z1'
 refine wpAny_bind (wpAny_setField_rec z2 (by simp) fun g3 _ s3 => ?_)
 refine wpAny_bind (wpAny_bind ?_)
 show wpAny _ _ (forIn ((List.drop 1 [Value.ref i1, Value.ref i2]).zipIdx 1) PUnit.unit _) _ _ _
 simp only [List.drop_succ_cons, List.drop_zero, List.zipIdx_cons, List.zipIdx_nil, List.forIn_cons, List.forIn_nil]
 refine wpAny_bind (wpAny_bind (P4 hh (((a2.extBut s1.extBut D.i2z).extBut s2 D.i12.symm).extBut s3.extBut D.i2z) (((b2.extBut s1.extBut D.l2z).extBut s2 D.l2i1).extBut s3.extBut D.l2z) c2 fun g4 s4 => ?_))
 show wpAny _ _ (pure (ForInStep.yield PUnit.unit)) _ _ _
 refine wpAny_pure ?_
 refine wpAny_pure ?_
 refine wpAny_bind (wpAny_rule ?_)
 unfold Builtin.SmallTypes.stopIteration
 refine wpAny_bind ?_
 simp only [newExc, newTuple]
 refine wpAny_bind (wpAny_newObj_type ?_ (by size_fits))
 refine wpAny_bind (m := firstArgMember _ _) (wpAny_of_eq (a := Value.none) (by first | rfl | (simp only [firstArgMember]; rfl)) ?_)
 refine wpAny_newObj_type ?_ (by size_fits)
 simp only [raiseNew]
 refine wpAny_bind (wpAny_handled ?_)
 rw [hh]
 refine wpAny_bind (wpAny_pure (wpAny_throw ?_))
 refine fin _ _ (fun c o n1 _ n3 n4 e => ?_) ⟨_, Heap.get?_push_size _ rfl, rfl⟩
 exact Heap.get?_push_of_some _ (Heap.get?_push_of_some _ (s4 _ _ n4 (s3.extBut _ _ n1 (s2 _ _ n3 (s1.extBut _ _ n1 e)))))
theorem JN {z TI TO i1 i2 l1 l2 : Addr} {k : Nat} {xs ys : Array Value} {x y a b : Value} {Q : Option Value → Shared → Prop} (D : ZipApart z TI TO i1 i2 l1 l2)
  (hz : pR s.heap z TI TO .none) (hI : IsPair s.heap TI (.ref i1) (.ref i2)) (hO : IsPair s.heap TO a b) (a1 : s.heap.IsTupleIter i1 l1 k) (a2 : s.heap.IsTupleIter i2 l2 k) (b1 : s.heap.IsTuple l1 xs) (b2 : s.heap.IsTuple l2 ys) (c1 : xs[k]? = some x) (c2 : ys[k]? = some y)
  (fin : ∀ g, pR g z TI TO (rawInt s.heap.objs.size) → IsPair g TO x y → g.IsTupleIter i1 l1 (k + 1) → g.IsTupleIter i2 l2 (k + 1) → IsPair g s.heap.objs.size x y → (∀ c o, c ≠ z → c ≠ TO → c ≠ i1 → c ≠ i2 → s.heap.get? c = some o → g.get? c = some o) → Q (some (.ref s.heap.objs.size)) { s with heap := g }) :
  wpAny (model prog w) A (pyNext (.ref z)) Q E s := by
 have ty : s.TypeIs (.ref z) "zip" := ⟨_, hz, rfl⟩
 unfold pyNext
 exact wpAny_bind (wpAny_attempt (wpAny_callSpecial?_slot (name := Str.ofString "__next__") ty F.slot_zip_next (wpAny_call_entry F.slot_zip_next ty F.entry_zip_next (XM D hz hI hO a1 a2 b1 b2 c1 c2 fun g e1 e2 e3 e4 e5 e6 => wpAny_pure (fin g e1 e2 e3 e4 e5 e6)) (F.args_zip_next_1 _))))
theorem NG {z TI TO i1 i2 l1 l2 : Addr} {k : Nat} {xs ys : Array Value} {a b : Value} {Q : Option Value → Shared → Prop} (hh : A.handled = none) (D : ZipApart z TI TO i1 i2 l1 l2)
  (hz : pR s.heap z TI TO .none) (hI : IsPair s.heap TI (.ref i1) (.ref i2)) (hO : IsPair s.heap TO a b) (a1 : s.heap.IsTupleIter i1 l1 k) (a2 : s.heap.IsTupleIter i2 l2 k) (b1 : s.heap.IsTuple l1 xs) (b2 : s.heap.IsTuple l2 ys) (c1 : xs[k]? = none) (c2 : ys[k]? = none)
  (fin : ∀ g, (∀ c o, c ≠ z → c ≠ TO → c ≠ i1 → c ≠ i2 → s.heap.get? c = some o → g.get? c = some o) → Q none { s with heap := g }) : wpAny (model prog w) A (pyNext (.ref z)) Q E s := by
 have ty : s.TypeIs (.ref z) "zip" := ⟨_, hz, rfl⟩
 unfold pyNext
 refine wpAny_bind (wpAny_attempt (wpAny_callSpecial?_slot (name := Str.ofString "__next__") ty F.slot_zip_next (wpAny_call_entry F.slot_zip_next ty F.entry_zip_next (aAx hh D hz hI hO a1 a2 b1 b2 c1 c2 fun g e kp he => ?_) (F.args_zip_next_1 _))))
 obtain ⟨o, h1, h2⟩ := he
 refine wpAny_bind (wpAny_isInstance (T := "StopIteration") (b := true) ⟨o, h1, h2⟩ isSubtype_stop ?_)
 exact wpAny_pure (fin _ kp)
theorem QK {z TI TO : Addr} {f0 : Value} {Q : Value → Shared → Prop} (hz : pR s.heap z TI TO f0) (h : Q (.ref z) s) : wpAny (model prog w) A (pyIter (.ref z)) Q E s := by
 have ty : s.TypeIs (.ref z) "zip" := ⟨_, hz, rfl⟩
 refine wpAny_pyIter_slot ty F.slot_zip_iter (wpAny_call_entry F.slot_zip_iter ty F.entry_zip_iter ?_ (F.args_zip_iter_1 _))
 show wpAny _ _ (ret (.ref z)) _ _ s
 exact wpAny_pure ⟨_, rfl, "zip", _, ty, F.slot_zip_next.lookup, h⟩
theorem T3 {elts : List Expr} {x1 : Nat} {pos : Pos} {z TI TO T : Addr} {Q : Unit → Shared → Prop} (hz : pR s.heap z TI TO (rawInt T))
  (fin : ∀ g, pR g z TI TO .none → Heap.SameBut z s.heap g → Q () { s with heap := g }) : wpAny (model prog w) A (letOwnedTupleGo (.Tuple elts x1 pos) (.ref z) (.ref T)) Q E s := by
 unfold letOwnedTupleGo
 refine wpAny_bind (wpAny_load hz ?_)
 show wpAny _ _ (if (["enumerate", "zip", "dict_itemiterator", "dict_reverseitemiterator", "odict_iterator", "itertools.zip_longest", "itertools.pairwise"].contains "zip" &&
   (#[rawInt T, .bool false, .bool true, .ref TI, .ref TO] : Array Value)[0]? == some (rawInt T)) = true then _ else _) Q E s
 rw [if_pos (by simp)]
 refine wpAny_bind (wpAny_rule ?_)
 show wpAny _ _ (setField (.ref z) 0 .none) Q E s
 exact wpAny_setField_rec hz (by simp) fun g h1 h2 => fin g h1 h2
end
def aCp (K : PySem.W.Frag) (a b : Addr) : It :=
 ⟨fun i H => ∃ (xs ys : List V) (x y : V), SqT K H a xs ∧ SqT K H b ys ∧ xs[i]? = some x ∧ ys[i]? = some y,
  fun i H v H' => ∃ T x y, v = .ref T ∧ H T = none ∧ H' = upd H T (.tup [x, y]) ∧ (∀ xs, SqT K H a xs → xs[i]? = some x) ∧ ∀ ys, SqT K H b ys → ys[i]? = some y,
  fun i H => ∃ xs ys : List V, SqT K H a xs ∧ SqT K H b ys ∧ xs.length ≤ i ∧ ys.length ≤ i⟩
theorem YJ {P : Program} {w : World} {K : PySem.W.Frag} {elts : List Expr} {kk : Nat} {tpos : Pos} {a b z TI TO i1 i2 : Addr} (D : ZipApart z TI TO i1 i2 a b) :
  Turn P w K (.Tuple elts kk tpos) (aCp K a b) [z, TI, TO, i1, i2] z (fun i h => pR h z TI TO .none ∧ IsPair h TI (.ref i1) (.ref i2) ∧ (∃ x y, IsPair h TO x y) ∧ h.IsTupleIter i1 a i ∧ h.IsTupleIter i2 b i) where
 mem := by simp
 obj := fun i h st c hc => by
  obtain ⟨f1, f2, ⟨x, y, f3⟩, ⟨o1, e1, _, d1⟩, ⟨o2, e2, _, d2⟩⟩ := st
  have cs : c = z ∨ c = TI ∨ c = TO ∨ c = i1 ∨ c = i2 := by simpa using hc
  rcases cs with rfl | rfl | rfl | rfl | rfl
  ·exact ⟨_, f1, fun v q => nomatch q⟩
  ·exact ⟨_, f2, fun v q => nomatch q⟩
  ·exact ⟨_, f3, fun v q => nomatch q⟩
  ·exact ⟨o1, e1, fun v q => by rw [d1] at q; cases q⟩
  ·exact ⟨o2, e2, fun v q => by rw [d2] at q; cases q⟩
 keep := fun i h h' st k => by
  obtain ⟨f1, f2, ⟨x, y, f3⟩, f4, f5⟩ := st
  exact ⟨k z (by simp) _ f1, k TI (by simp) _ f2, ⟨x, y, k TO (by simp) _ f3⟩, f4.at fun o q => k i1 (by simp) o q, f5.at fun o q => k i2 (by simp) o q⟩
 item := by
  intro X hP hw hK hc i pins s σ H E I fp st go
  subst hP hw hK
  obtain ⟨f1, f2, ⟨x0, y0, f3⟩, f4, f5⟩ := st
  obtain ⟨xs, ys, x, y, qx, qy, gx, gy⟩ := go
  obtain ⟨us, rv, p, _⟩ := I.tuple qx
  obtain ⟨us2, rv2, p2, _⟩ := I.tuple qy
  obtain ⟨u, hu, ru⟩ := rv.get gx
  obtain ⟨u2, hu2, ru2⟩ := rv2.get gy
  have zl : z < s.heap.objs.size := Heap.lt_size f1
  refine JN D f1 f2 f3 f4 f5 p p2 (x := u) (y := u2) (by simpa using hu) (by simpa using hu2) fun g z' TO' h1' h2' hT hk => ?_
  refine ⟨_, rfl, T3 (s := { s with heap := g }) z' fun g2 z'' sb => ?_⟩
  have hT2 : g2.get? s.heap.objs.size = some { cls := .type "tuple", data := .seq #[u, u2] } := (sb.2 _ (Nat.ne_of_gt zl)).trans hT
  have new : ObjOk X.prog X.w (upd H s.heap.objs.size (.tup [x, y])) g2 s.heap.objs.size (.tup [x, y]) := ⟨by show 2 ≤ sizeLine; decide, [u, u2], .cons ru (.cons ru2 .nil), ⟨_, hT2, rfl, _, rfl⟩⟩
  have I1 : Inv X pins σ (upd H s.heap.objs.size (.tup [x, y])) { s with heap := g2 } :=
   I.turnedNew (t' := s.toks) (ch := [z, TI, TO, i1, i2]) (fun c o hb q => by
    simp only [au, bg, or_false, not_or] at hb
    exact (sb.2 c hb.1).trans (hk c o hb.1 hb.2.2.1 hb.2.2.2.1 hb.2.2.2.2 q)) fp (az _) new
  refine ⟨.ref s.heap.objs.size, _, I1, rfl, ⟨_, x, y, rfl, I.hok.fresh (az _), rfl, fun l hl => by rw [I.tuple_inj hl qx]; exact gx, fun l hl => by rw [I.tuple_inj hl qy]; exact gy⟩, ⟨z'', ?_, ⟨u, u2, ?_⟩, ?_, ?_⟩, fun c hcm => ?_⟩
  ·exact (sb.2 _ D.TIz).trans (hk _ _ D.TIz D.TITO D.TIi1 D.TIi2 f2)
  ·exact (sb.2 _ D.TOz).trans TO'
  ·exact h1'.at fun o q => (sb.2 _ D.i1z).trans q
  ·exact h2'.at fun o q => (sb.2 _ D.i2z).trans q
  ·have hlt : c < s.heap.objs.size := by
    have cs : c = z ∨ c = TI ∨ c = TO ∨ c = i1 ∨ c = i2 := by simpa using hcm
    rcases cs with rfl | rfl | rfl | rfl | rfl
    ·exact zl
    ·exact Heap.lt_size f2
    ·exact Heap.lt_size f3
    ·obtain ⟨_, e1, _⟩ := f4; exact Heap.lt_size e1
    ·obtain ⟨_, e2, _⟩ := f5; exact Heap.lt_size e2
   rw [upd_ne (Nat.ne_of_lt hlt)]
   exact (fp c hcm).1
 done := by
  intro X hP hw hK hc i pins s σ H E I fp st go
  subst hP hw hK
  obtain ⟨f1, f2, ⟨x0, y0, f3⟩, f4, f5⟩ := st
  obtain ⟨xs, ys, qx, qy, e1, e2⟩ := go
  obtain ⟨us, rv, p, _⟩ := I.tuple qx
  obtain ⟨us2, rv2, p2, _⟩ := I.tuple qy
  have l1 := rv.length
  have l2 := rv2.length
  refine NG (I.ok.hd hc) D f1 f2 f3 f4 f5 p p2 (by simp; omega) (by simp; omega) fun g hk => ⟨rfl, I.turnedL (t' := s.toks) (ch := [z, TI, TO, i1, i2]) (fun c o hb q => ?_) fp⟩
  simp only [au, bg, or_false, not_or] at hb
  exact hk c o hb.1 hb.2.2.1 hb.2.2.2.1 hb.2.2.2.2 q
 self := fun A i s Q E st h => QK st.1 h
section
variable {M : Model} {A : Around} {E : Value → Shared → Prop} {s : Shared} {env : Env}
theorem C9 {pos : Pos} {T : String} {first : List Value} {args : List (Bool × Sem Value)} {kws : List (Option Str × Sem Value)} {Q : Value → Shared → Prop} (p1 : args.any (·.1) = false) (p2 : kws.any (·.1.isNone) = false)
  (h : wpAny M A (evalArgs (.type T) true args kws) (fun a t => wpAny M A (call (.type T) (first ++ a.pos) a.kw) Q E t) E s) : wpAny M A (callWith pos (.type T) first args kws) Q E s := by
 unfold callWith
 refine wpAny_bind (wpAny_holding (wpAny_mono h (fun a t g => wpAny_bind (wpAny_standAt ?_)) fun _ _ z => z))
 simp only [p1, p2, Bool.or_false]
 refine wpAny_bind (wpAny_pure ?_)
 exact wpAny_bind (wpAny_mono g (fun r t2 hr => wpAny_bind (wpAny_holding (wpAny_point (wpAny_pure hr)))) fun _ _ z => z)
end
section
variable {X : Cx} {e e2 : Expr} {ta : TA} {p pos tpos cp kp : Pos} {elts : List Expr} {kk k : Nat}
def iZs (K : PySem.W.Frag) (ta : TA) : TI := fun σ H R => ta σ H fun vs H1 => ∃ a b xs ys, vs = [V.ref a, V.ref b] ∧ SqT K H1 a xs ∧ SqT K H1 b ys ∧ R (aCp K a b) H1
theorem aCD (hg : Gl X "zip") (hm : X.mg "zip" = none) (ha : PA X [e, e2] ta) (hs : starEach [e, e2] X.env = (false, eval e X.env) :: starEach [e2] X.env := by rfl) (hpl : (backTo pos (starEach [e, e2] X.env)).any (·.1) = false := by rfl)
  (hk1 : (backToKw pos (keywordEach [⟨some "strict", .Constant (.bool true) k cp, kp⟩] X.env)).any (·.1.isNone) = false := by rfl) (hk2 : (backToKw pos (keywordEach [⟨some "strict", .Constant (.bool true) k cp, kp⟩] X.env)).all (·.1.isSome) = true := by rfl)
  (hk3 : (backToKw pos (keywordEach [⟨some "strict", .Constant (.bool true) k cp, kp⟩] X.env)).filterMap (·.1) = [Str.ofString "strict"] := by rfl) :
  PI X (.Tuple elts kk tpos) (.Call (.Name "zip" p) [e, e2] [⟨some "strict", .Constant (.bool true) k cp, kp⟩] pos) (iZs X.K ta) := by
 refine ⟨fun pins s σ H R I h => ?_⟩
 refine wpAny_Call_Name_kw (ld_blt I hg hm PyProof.Rows.boot_zip (C9 hpl hk1 ?_))
 have hA := ha.run pos pins s σ H _ I h
 rw [hs] at hA ⊢
 refine evalArgs_kwB hk2 (thn hA fun us s1 ⟨vs, H1, I1, r1, a, b, xs, ys, ex, qx, qy, q⟩ => ?_)
 subst ex
 rw [hk3]
 refine thn ((pk_cons (nm := some "strict") (kpos := kp) (pe_bl (b := true) (j := k) (pos := cp)) pk_nil).run pos pins s1 σ H1 (fun zs H2 => zs = [V.bl true] ∧ H2 = H1) I1 ⟨rfl, rfl⟩) fun ws s2 ⟨zs, H2, I2, rz, ez, eH⟩ => ?_
 subst ez eH
 obtain ⟨w1, rfl, rw1⟩ := rz.one
 cases rw1
 obtain ⟨u1, u2, rfl, ra, rb⟩ := r1.two
 cases ra
 cases rb
 obtain ⟨us1, rv, p1, _⟩ := I2.tuple qx
 obtain ⟨us2, rv2, p2, _⟩ := I2.tuple qy
 obtain ⟨o1, ho1, _⟩ := id p1
 obtain ⟨o2, ho2, _⟩ := id p2
 refine ZG (show s2.heap.IsTuple a us1.toArray from p1) (show s2.heap.IsTuple b us2.toArray from p2) fun g hz hI hO h1 h2 hk => QK hz ?_
 have I3 : Inv X pins σ H2 { s2 with heap := g } := I2.kept (t' := s2.toks) hk
 refine ⟨s2.heap.objs.size + 4, [s2.heap.objs.size + 4, s2.heap.objs.size + 2, s2.heap.objs.size + 3, s2.heap.objs.size, s2.heap.objs.size + 1], _, _, H2, rfl, I3, YJ (PySem.W.ktu_apart s2.heap.objs.size a b (Heap.lt_size ho1) (Heap.lt_size ho2)), ⟨hz, hI, ⟨_, _, hO⟩, h1, h2⟩, fun c hc => ?_, q⟩
 have le : s2.heap.objs.size ≤ c := by
  simp only [au, bg, or_false] at hc
  rcases hc with rfl | rfl | rfl | rfl | rfl <;> omega
 exact I2.fpOk le (I2.hok.fresh le)
end
def Z1 (ds : List D) (w : W) : Res kP := match ds with
 | [x, y] => (match tU x, tU y with
  | some xs, some ys => if xs.length = ys.length then .ok ⟨(xs.zip ys).map fun p => .tup [p.1, p.2], always⟩ w else .bad
  | _, _ => .bad)
 | _ => .bad
theorem JV {K : PySem.W.Frag} {I : List Addr} {F : Hp} {d : D} {v : V} {xs : List D} (h : aG K I F d v) (e : tU d = some xs) : ∃ a vs, v = .ref a ∧ SqT K F a vs ∧ RepL K I F xs vs := by
 cases d <;> simp only [tU, af, reduceCtorEq] at e <;> simp only [aG] at h
 case tup => subst e; obtain ⟨a, vs, h0, h1, h2⟩ := h; exact ⟨a, vs, h0, .of h1, h2⟩
 case pW => subst e; obtain ⟨a, vs, h0, h1, h2⟩ := h; exact ⟨a, vs, h0, h1, h2⟩
theorem aCN {S : aM} {e e2 : Expr} {ma : MA} {p pos tpos cp kp : Pos} {elts : List Expr} {kk k : Nat} (hg : S.sc.names.lookup ("zip" : Str) = some .globalImplicit) (hm : S.mg "zip" = none) (ha : JA S [e, e2] ma)
  (hs : ∀ env : Env, starEach [e, e2] env = (false, eval e env) :: starEach [e2] env := by intro _; rfl) (hpl : ∀ env : Env, (backTo pos (starEach [e, e2] env)).any (·.1) = false := by intro _; rfl) :
  JI S (.Tuple elts kk tpos) (.Call (.Name "zip" p) [e, e2] [⟨some "strict", .Constant (.bool true) k cp, kp⟩] pos) (cK Z1 ma) := fun X E cx xo =>
 r8 (aCD (by show X.env.scope.names.lookup _ = _; rw [cx.sc]; exact hg) (by rw [cx.mg]; exact hm) (ha X E cx xo) (hs X.env) (hpl X.env)) fun σ H R ⟨I, F, G, ds, w, rel, rs, p⟩ => cQ (f := fun _ => Z1) rel rs p fun I1 F1 H1 xs w1 vs e1 rel1 rs1 rv p1 => by
  unfold Z1 at p1
  split at p1
  ·rename_i x y
   obtain ⟨v, u, rfl, rx, ry⟩ := rv.two
   split at p1
   ·rename_i xs ys hx hy
    split at p1
    ·rename_i hl
     obtain ⟨a, us, rfl, q1, q2⟩ := JV rx hx
     obtain ⟨b, ts, rfl, q3, q4⟩ := JV ry hy
     refine ⟨a, b, us, ts, rfl, rel1.MD q1, rel1.MD q3, p1 I1 F1 H1 .refl rel1 trivial _ fun I' F' G' w' H' j e' rel' _ => ?_⟩
     have t1 := rel'.MD (zI e' q1)
     have t2 := rel'.MD (zI e' q3)
     have r1 := RepL.ext e' _ _ q2
     have r2 := RepL.ext e' _ _ q4
     have l1 : xs.length = us.length := r1.length
     have l2 : ys.length = ts.length := r2.length
     refine ⟨fun x hx => ?_, fun hj => ⟨us, ts, t1, t2, ?_, ?_⟩⟩
     ·rw [cg] at hx
      cases hz : (xs.zip ys)[j]? with
      | none => rw [hz] at hx; cases hx
      | some pr =>
       rw [hz] at hx
       cases hx
       obtain ⟨pa, pb⟩ := pr
       rw [List.getElem?_zip_eq_some] at hz
       obtain ⟨v1, g1, g2⟩ := r1.get hz.1
       obtain ⟨v2, g3, g4⟩ := r2.get hz.2
       refine ⟨⟨us, ts, v1, v2, t1, t2, g1, g3⟩, fun v H'' y => ?_⟩
       obtain ⟨T, x', y', rfl, k1, rfl, k2, k3⟩ := y
       have z1 := k2 us t1
       have z2 := k3 ts t2
       rw [g1] at z1
       rw [g3] at z2
       cases z1
       cases z2
       exact xK rel' (RepL.cons g2 (RepL.cons g4 (by simp [RepL]))) k1
     ·simp only [ay, List.length_zip] at hj; omega
     ·simp only [ay, List.length_zip] at hj; omega
    ·exact p1.elim
   ·exact p1.elim
  ·exact p1.elim
def QR : D → Value → Bool
 | .non, .none => true
 | .bl b, .bool c => b == c
 | .int i, .int j _ => decide (i = j)
 | .str x, .str y _ => decide (x = y)
 | _, _ => false
def yX : D → V
 | .bl b => .bl b
 | .int i => .int i
 | .str x => .str x
 | _ => .non
theorem LG {d : D} {u : Value} (h : QR d u = true) : RelV (yX d) u ∧ ∀ K I F, aG K I F d (yX d) := by
 cases d <;> cases u <;> simp only [QR, bz, beq_iff_eq, ai] at h
 ·exact ⟨rfl, fun _ _ _ => by simp [aG, yX]⟩
 ·subst h; exact ⟨rfl, fun _ _ _ => by simp [aG, yX]⟩
 ·subst h; exact ⟨⟨_, rfl⟩, fun _ _ _ => by simp [aG, yX]⟩
 ·subst h; exact ⟨⟨_, rfl⟩, fun _ _ _ => by simp [aG, yX]⟩
def wQ : List D → List Value → Bool
 | [], [] => true
 | d :: ds, u :: us => QR d u && wQ ds us
 | _, _ => false
theorem ED : ∀ {ds : List D} {us : List Value}, wQ ds us = true → Vals (ds.map yX) us ∧ ∀ K I F, RepL K I F ds (ds.map yX)
 | [], [], _ => ⟨.nil, fun _ _ _ => by simp [RepL]⟩
 | d :: ds, u :: us, h => by
  simp only [wQ, ag] at h
  obtain ⟨h1, h2⟩ := LG h.1
  obtain ⟨h3, h4⟩ := ED h.2
  exact ⟨.cons h1 h3, fun K I F => RepL.cons (h2 K I F) (h4 K I F)⟩
 | [], _ :: _, h => by simp [wQ] at h
 | _ :: _, [], h => by simp [wQ] at h
def GF (K : PySem.W.Frag) (d : D) (u : Value) : Bool := match d, u with
 | .pW ds, .ref a => (match K.lookup a with
  | some ⟨.type c, _, .seq its _, _⟩ => decide (c = "tuple") && (decide (its.size ≤ sizeLine) && wQ ds its.toList)
  | _ => false)
 | .con a, .ref b => decide (a = b)
 | d, u => QR d u
theorem E4 {K : PySem.W.Frag} {d : D} {u : Value} (h : GF K d u = true) : ∃ v, RelV v u ∧ ∀ I F, aG K I F d v := by
 unfold GF at h
 split at h
 ·rename_i ds a
  split at h
  ·rename_i c od its n sl hl
   simp only [ag, ai] at h
   obtain ⟨rfl, h2, h3⟩ := h
   obtain ⟨h4, h5⟩ := ED h3
   refine ⟨.ref a, rfl, fun I F => ?_⟩
   simp only [aG]
   exact ⟨a, _, rfl, .inr ⟨_, its, n, hl, rfl, rfl, h2, h4⟩, h5 K I F⟩
  ·cases h
 ·rename_i a b
  simp only [ai] at h
  subst h
  exact ⟨.ref a, rfl, fun I F => by simp [aG]⟩
 ·obtain ⟨h1, h2⟩ := LG h
  exact ⟨_, h1, h2 K⟩
def SS (S : aM) (x : Str) (d : D) : Prop := ∃ v u, S.mg x = some u ∧ RelV v u ∧ ∀ I F, aG S.K I F d v
theorem iX {S : aM} {x : Str} {d : D} {pos : Pos} (G : SS S x d) (hg : S.sc.names.lookup x = some .globalImplicit := by rfl) (hd : (x == ("__debug__" : Str)) = false := by decide) : JE S (.Name x pos) (eC d) := by
 obtain ⟨v, u, h1, h2, h3⟩ := G
 exact XB hg h1 h2 h3 hd
def BN (K : PySem.W.Frag) (x : Str) (d : D) : Bool := match PySem.W.nsIn K mainGlobals x with
 | some (some u) => GF K d u
 | _ => false
theorem k0 {S : aM} {h : Heap} {x : Str} {d : D} (kin : S.K.In h) (ns : h.Ns mainGlobals S.mg) (c : BN S.K x d = true) : SS S x d := by
 unfold BN at c
 split at c
 ·rename_i u hu
  obtain ⟨v, h1, h2⟩ := E4 c
  exact ⟨v, u, PySem.W.mg_of kin ns hu, h1, h2⟩
 ·cases c
def TM (K : PySem.W.Frag) (a : Addr) (tab : List (Str × Option D)) : Bool := match K.lookup a with
 | some ⟨_, _, .dict es _, _⟩ => es.toList.all fun e => !e.refKey && tab.any fun p => e.key.isStr p.1
 | _ => false
def TV (K : PySem.W.Frag) (a : Addr) (tab : List (Str × Option D)) : Bool := TM K a tab && tab.all fun p => match p.2 with
 | some d => (match PySem.W.nsIn K a p.1 with
  | some (some u) => GF K d u
  | _ => false)
 | none => He.eqO (PySem.W.nsIn K a p.1) (some none)
theorem RR {v : Value} {x y : Str} (h1 : v.isStr x = true) (h2 : v.isStr y = true) : x = y := by
 cases v <;> simp only [Value.isStr, bz] at h1 h2
 simp only [beq_iff_eq] at h1 h2
 rw [← h1, ← h2]
theorem TR {K : PySem.W.Frag} {a : Addr} {tab : List (Str × Option D)} (h : TM K a tab = true) (z : Str) (hz : tab.lookup z = none) : PySem.W.nsIn K a z = some none := by
 unfold TM at h
 unfold PySem.W.nsIn
 split at h
 ·rename_i c od es n sl hl
  simp only [hl]
  rw [ao] at h
  have no : ∀ p ∈ tab, p.1 ≠ z := fun p hp e => by
   rw [List.lookup_eq_none_iff] at hz
   have := hz p hp
   rw [e] at this
   simp at this
  have h1 : es.toList.find? (·.key.isStr z) = none := by
   rw [List.find?_eq_none]
   intro e he q
   have := h e he
   simp only [ag, List.any_eq_true] at this
   obtain ⟨_, p, hp, hk⟩ := this
   exact no p hp (RR hk q)
  have h2 : es.toList.any (·.refKey) = false := by
   rw [List.any_eq_false]
   intro e he
   have := h e he
   simp only [ag, Bool.not_eq_true'] at this
   simp [this.1]
  rw [h1, h2]
  rfl
 ·cases h
theorem lookup_mem {α : Type} {k : Str} {x : α} : ∀ {l : List (Str × α)}, l.lookup k = some x → (k, x) ∈ l
 | [], h => by simp at h
 | (j, y) :: r, h => by
  simp only [List.lookup] at h
  split at h
  ·rename_i e
   cases h
   rw [beq_iff_eq] at e
   subst e
   exact aq ..
  ·exact av _ (lookup_mem h)
theorem UW {K : PySem.W.Frag} {w : World} {a : Addr} {tab : List (Str × Option D)} (ex : ∃ es n, KDict K w a es n) (c : TV K a tab = true) : KTab K w a tab := by
 unfold TV at c
 rw [ag] at c
 obtain ⟨c0, c⟩ := c
 rw [ao] at c
 refine ⟨ex, fun z x h => ?_, fun z h => ?_, fun z h => TR c0 z h⟩
 ·have := c _ (lookup_mem h)
  dsimp only at this
  split at this
  ·rename_i u hu
   obtain ⟨v, h1, h2⟩ := E4 this
   exact ⟨u, v, hu, h1, h2⟩
  ·cases this
 ·exact He.eqO_ok (c _ (lookup_mem h))
def aCH {α : Type} (is : List (Nat × Nat)) (us ws mv : List α) : List α := is.filterMap fun p => match p.1 with
 | 0 => us[p.2]?
 | 1 => ws[p.2]?
 | _ => mv[p.2]?
theorem UX {S : aM} {pos : Pos} {a b c : Expr} {ma mb mc : ME} {f g : D → D → W → Res D} {op op' : CmpOp} (ho : O2 S (compareOp op) f) (ho' : O2 S (compareOp op') g) (ha : JE S a ma) (hb : JE S b mb) (hc : JE S c mc) (hm : lastMarks [op, op'] [b, c] = false := by with_unfolding_all rfl) :
  JT S (.Compare a [op, op'] [b, c] pos) (aU (SU f g ma mb mc)) := fun X E cx xo => zK (pt_chain (ho X E cx xo) (ho' X E cx xo) (ha X E cx xo) (hb X E cx xo) (hc X E cx xo) hm) fun σ H Q ⟨I, F, G, ds, w, rel, rs, p⟩ => by
  show tChain _ _ _ _ _ σ H fun x H' => ∃ k, x = .bl k ∧ Q k H'
  refine WI ⟨I, F, G, ds, w, rel, rs, (a9.bind p).mono fun I1 F1 H1 x w1 _ e1 rel1 p1 v rv => ?_⟩
  cases x <;> first | exact p1.elim | skip
  simp only [aG] at rv
  exact ⟨_, rv, p1 I1 F1 H1 .refl rel1⟩
theorem aBu {x y : Str} {a b : Expr} {px py pt pt2 : Pos} {kt k2 : Nat} {env : Env} (hk : env.scope.kind = .function) (hx : env.scope.names.lookup x = some .local) (hy : env.scope.names.lookup y = some .local) (hl : (py.line == px.line) = true) (hxy : x ≠ y)
  (h1 : ∀ v p, a ≠ .Starred v p) (h2 : ∀ v p, b ≠ .Starred v p) (hf : ([a, b].all (foldedForSure 8)) = false) (hc : ([a, b].all (constantsAlone 8)) = false) : swappedStores [.Tuple [.Name x px, .Name y py] kt pt] (.Tuple [a, b] k2 pt2) env = pure (some [x, y]) := by
 have kx : env.kindOf x = some .local := hx
 have ky : env.kindOf y = some .local := hy
 have hb : env.blockKind = .function := by unfold Env.blockKind; rw [hk]; rfl
 have st : ∀ f : Expr → Bool, (∀ e, f e = true → ∃ v p, e = .Starred v p) → ([a, b].any f) = false := fun f h => by
  rw [List.any_eq_false]
  intro e he z
  obtain ⟨v, p, rfl⟩ := h e z
  simp only [au, bg, or_false] at he
  rcases he with rfl | rfl
  ·exact h1 _ _ rfl
  ·exact h2 _ _ rfl
 unfold swappedStores
 have lx : (px.line == px.line) = true := beq_self_eq_true _
 have nxy : (y == x) = false := beq_eq_false_iff_ne.mpr (Ne.symm hxy)
 have dup : ([x, y].eraseDups).length = 2 := by
  rw [List.eraseDups_cons, List.filter_cons, nxy]
  rfl
 simp only [hb, List.length_cons, List.length_nil, Nat.zero_add, Nat.reduceAdd, beq_self_eq_true, Bool.true_or, Bool.not_true, bne_self_eq_false, Bool.false_or, bz, ab, List.filterMap_cons, kx, ky, List.head?_cons, Option.map_some, Option.getD_some, Expr.pos, lx, hl, Bool.and_self, ae, List.filterMap_nil, hf, hc, dup]
 split
 ·rename_i z
  rw [st] at z
  ·cases z
  ·intro e he
   split at he
   ·exact ⟨_, _, rfl⟩
   ·cases he
 ·rfl
def GY (i j : Nat) (ma : MA) : MS := fun σ w => (ma σ w).bind fun xs w1 => match xs with
 | [u, v] => .ok (.nx ((σ.set i (some u)).set j (some v))) w1
 | _ => .bad
theorem aAy {S : aM} (i j : Nat) {x y : Str} {a b : Expr} {ma : MA} {px py pt pt2 pos : Pos} {kt k2 : Nat} (ha : JA S [a, b] ma) (hi : S.N[i]? = some x := by rfl) (hj : S.N[j]? = some y := by rfl) (hij : i ≠ j := by decide) (hx : S.sc.names.lookup x = some .local := by rfl) (hy : S.sc.names.lookup y = some .local := by rfl)
  (hk : S.sc.kind = .function := by rfl) (hl : (py.line == px.line) = true := by rfl) (hxy : x ≠ y := by decide) (h1 : ∀ v p, a ≠ .Starred v p := by intro _ _ h; cases h) (h2 : ∀ v p, b ≠ .Starred v p := by intro _ _ h; cases h) (hf : ([a, b].all (foldedForSure 8)) = false := by rfl) (hc : ([a, b].all (constantsAlone 8)) = false := by rfl)
  (hs : ∀ env : Env, swapsWithSole [.Tuple [.Name x px, .Name y py] kt pt] (.Tuple [a, b] k2 pt2) pos.line env = pure false := by intro _; rfl) : JS S (.Assign [.Tuple [.Name x px, .Name y py] kt pt] (.Tuple [a, b] k2 pt2) pos) (GY i j ma) := fun X E cx xo =>
 kU (ps_par (i := i) (j := j) cx.calm cx.nd (by rw [cx.N]; exact hi) (by rw [cx.N]; exact hj) hij (by rw [cx.sc]; exact hx) (by rw [cx.sc]; exact hy) (ha X E cx xo) (aBu (by rw [cx.sc]; exact hk) (by rw [cx.sc]; exact hx) (by rw [cx.sc]; exact hy) hl hxy h1 h2 hf hc) (hs X.env)) fun Z σ H ⟨I, F, G, ds, w, rel, rs, p⟩ =>
  cQ (f := fun ds xs w1 => match xs with
   | [u, v] => Res.ok (Fl.nx ((ds.set i (some u)).set j (some v))) w1
   | _ => .bad) rel rs p fun I1 F1 H1 xs w1 vs e1 rel1 rs1 rv p1 => by
   split at p1
   ·obtain ⟨v, u, rfl, r1, r2⟩ := rv.two
    exact ⟨v, u, rfl, p1 I1 F1 H1 .refl rel1 _ ((rs1.set i r1).set j r2)⟩
   ·exact p1.elim
section
variable {S : aM} {elt tg iter : Expr} {ifs : List Expr} {scope : Scope} {pos py spos : Pos} {y : Str} {mi : MI} {g : MG} {t : MT} {me : ME} {own : List (Str × Nat)}
theorem jsc (i : Nat) (hi : JI S tg iter mi) (hb : blkC S.N S.sc scope own = true) (hg : JC (S.blk scope) (own.map (·.2)) tg g) (ht : JTs (S.blk scope) ifs t) (he : JE (S.blk scope) elt me)
  (hy : S.N[i]? = some y := by rfl) (hyl : S.sc.names.lookup y = some .local := by rfl) (hl : (py.line == pos.line) = true := by rfl) (ha : (scope.names.any fun (n, k) => n == y && (k == .local || k == .cell)) = false := by rfl)
  (hk : S.sc.kind = .function := by rfl) (hs : ∀ (env : Env) x, foldedSetIterable iter env x = pure x := by intro _ _; rfl) : JS S (.Assign [.Name y py] (.ListComp elt [⟨tg, iter, ifs, 0⟩] scope pos) spos) (aO (aS mi (own.map (·.2)) g t me) (aN i)) :=
 N8 hy hyl (fun env e k => sw_true k (by rw [e]; exact hyl) hl ha) hi hb hg ht he hk hs
end
def LK (C : Addr) (m : MF) : MF := fun ds w => match ds with
 | [.ref i] => (match w[i]? with
  | some (.ins C' _) => if C' = C then (m [.ref i] w).bind fun d w1 => (match d with
    | .int n => if 0 ≤ n ∧ n < 2 ^ 62 then .ok (.int n) w1 else .bad
    | _ => .bad) else .bad
  | _ => cU [.ref i] w)
 | _ => cU ds w
open AutoSeq1 (wpAny_loadPart')
open RZ (nextOf_tuple_item nextOf_tuple_end)
def zW (ds : List D) (w : W) : Res kP := match ds with
 | [x] => (match tU x with
  | some xs => .ok ⟨(List.range xs.length).zipWith (fun i x => D.tup [.int (i : Nat), x]) xs, always⟩ w
  | none => .bad)
 | _ => .bad
def CC (d : D) (w : W) : Option (List D) := match d with
 | .lst xs => some xs
 | .ref i => (match w[i]? with
  | some (.lst xs) => some xs
  | _ => none)
 | _ => none
theorem LN {K : PySem.W.Frag} {I : List Addr} {F G H : Hp} {w : W} (rel : Rel K I F G w H) {d : D} {v : V} {xs : List D} (h : aG K I F d v) (e : CC d w = some xs) : ∃ a vs, v = .ref a ∧ H a = some (.lst vs) ∧ RepL K I F xs vs := by
 cases d <;> simp only [CC, af, reduceCtorEq] at e <;> simp only [aG] at h
 case lst =>
  subst e
  obtain ⟨a, vs, h0, h1, h2⟩ := h
  exact ⟨a, vs, h0, rel.fz _ _ h1, h2⟩
 case ref i =>
  obtain ⟨a, h0, h1⟩ := h
  split at e
  ·rename_i ys hw
   cases e
   obtain ⟨u, h2, vs, rfl, h3⟩ := rel.ob i a _ h1 hw
   exact ⟨a, vs, h0, h2, h3⟩
  ·cases e
def RT (x y : D) (w : W) : Res D := match CC x w, CC y w with
 | some a, some b => if a.length + b.length ≤ sizeLine then .ok (.lst (a ++ b)) w else .bad
 | _, _ => .bad
theorem Y3 {S : aM} : O2 S (binaryOp .Add) RT := gJ fun X E c xo I F G d e w H x y Q rel rd re p => by
 unfold RT at p
 split at p
 ·rename_i a b ha hb
  obtain ⟨q, vs, rfl, h1, h2⟩ := LN rel rd ha
  obtain ⟨q', vs', rfl, h1', h2'⟩ := LN rel re hb
  split at p
  ·rename_i hl
   exact ⟨_, op_cat, q, q', vs, vs', rfl, rfl, h1, h1', by rw [← h2.length, ← h2'.length]; exact hl, iQ rel (h2.append h2') p⟩
  ·exact p.elim
 ·exact p.elim
section
variable {P : Program} {w : World} {A : Around} {E : Value → Shared → Prop} {s : Shared}
set_option maxRecDepth 100000 in
set_option maxHeartbeats 3200000 in
theorem C5 {l : Addr} {items : Array Value} (ns : List Int) {Q : Value → Shared → Prop} (hh : A.handled = none) (hl : s.heap.IsList l items) (hit : IntsAre items.toList ns) (hb : ns.length + 1 < scanBound)
  (h : ∀ (h' : Heap) (tk c : Nat), SetR w h' s.heap.objs.size (fun j => decide (j ∈ ns)) c → c ≤ ns.length → (∀ b o, s.heap.get? b = some o → h'.get? b = some o) → Q (.ref s.heap.objs.size) { s with heap := h', toks := tk }) :
  wpAny (model P w) A (call (.type "set") [.ref l]) Q E s := by
 have hisz : items.size = ns.length := by
  have q := IntsAre.length hit
  rw [Array.length_toList] at q
  exact q
 obtain ⟨c, tl, hmro⟩ := F.called_set.mro
 have hmade := F.called_set.made
 have hsub := F.called_set.sub
 refine wpAny_call (codeAny_of_tree ?_)
 show wpAny _ _ (callAny (.type "set") _) _ _ _
 refine wpAny_pure ⟨Code.quiet_builtin _ (by decide +kernel), codeAny_builtin F.entry_type_call ?_⟩
 rw [Around.under_plain (weight_type_call_type "set" [.ref l] []) rfl]
 have h1 := F.called_set.notType
 have h2 := F.called_set.canCreate
 have hct := F.typeCall_set_1 (.ref l)
 repeat (any_goals (first | assumption | wp_step))
 refine codeAny_mono (code_set_led1 (.ref l) (E := E) (Q₁ := fun obj s₁ => obj = .ref s.heap.objs.size ∧ s₁ = { s with heap := s.heap.push { cls := .type "set", dict := none, data := .set #[] 0 (.fresh 0 0 (!w.params.followText "set-order")) } }) ⟨rfl, rfl⟩) fun r s₁ hr => ?_
 cases r with
 | error e => exact hr
 | ok fl =>
  cases fl with
  | ret obj =>
   obtain ⟨rfl, rfl⟩ := hr
   have hS : (s.heap.push { cls := .type "set", dict := none, data := .set #[] 0 (.fresh 0 0 (!w.params.followText "set-order")) }).get? s.heap.objs.size = some { cls := .type "set", dict := none, data := .set #[] 0 (.fresh 0 0 (!w.params.followText "set-order")) } := Heap.get?_push_size _ rfl
   have hT : Shared.TypeIs { s with heap := s.heap.push { cls := .type "set", dict := none, data := .set #[] 0 (.fresh 0 0 (!w.params.followText "set-order")) } } (.ref s.heap.objs.size) "set" := ⟨_, hS, rfl⟩
   have hli := F.called_set.init.lookup
   have hbi := F.called_set.init.bind (.ref s.heap.objs.size)
   repeat (any_goals (first | assumption | wp_step))
   refine codeAny_mono (codeAny_call_builtin (R := wants (fun r s₂ => r = .none ∧ ∃ h' tk c, s₂ = { s with heap := h', toks := tk } ∧ SetR w h' s.heap.objs.size (fun j => decide (j ∈ ns)) c ∧ c ≤ ns.length ∧
     (∀ b o, s.heap.get? b = some o → h'.get? b = some o)) E) F.called_set.init.plain F.entry_set_init (check_set_init_1 hT ?_)) fun r₂ s₂ hr₂ => ?_
   ·obtain ⟨ol, hol, hcl, nl, hdl⟩ := hl
    obtain ⟨ocls, odict, odata, oslots⟩ := ol
    simp only at hcl hdl
    subst hcl; subst hdl
    have hol' : (s.heap.push { cls := .type "set", dict := none, data := .set #[] 0 (.fresh 0 0 (!w.params.followText "set-order")) }).get? l = some { cls := .type "list", dict := odict, data := .seq items nl, slots := oslots } := Heap.get?_push_of_some _ hol
    have hsls := PySem.F.sub_list_set
    have hslf := PySem.F.sub_list_frozenset
    have hne : (Value.type "list" == Value.type "dict") = false := by decide
    have hl1 : (s.heap.push { cls := .type "set", dict := none, data := .set #[] 0 (.fresh 0 0 (!w.params.followText "set-order")) }).IsList l items := ⟨_, hol', rfl, nl, rfl⟩
    unfold Builtin.«set.__init__» noKeywords Builtin.Frozenset.updateFrom
    generalize hPI : pyIter = PI
    wp_walk
    subst hPI
    refine wpAny_pyIter_list hl1 ?_
    refine wpAny_bind (wpAny_runValue ?_)
    have hlS : l < s.heap.objs.size := Heap.lt_size hol
    have hh3 : A.in1.in1.in1.handled = none := by simp [hh]
    have hz1 : (s.heap.push { cls := .type "set", dict := none, data := .set #[] 0 (.fresh 0 0 (!w.params.followText "set-order")) }).objs.size = s.heap.objs.size + 1 := Heap.size_push ..
    have hneI : l ≠ (s.heap.push { cls := .type "set", dict := none, data := .set #[] 0 (.fresh 0 0 (!w.params.followText "set-order")) }).objs.size := by
     rw [Heap.size_push]; exact Nat.ne_of_lt (Nat.lt_succ_of_lt hlS)
    have hSf : s.heap.objs.size ∉ [(s.heap.push { cls := .type "set", dict := none, data := .set #[] 0 (.fresh 0 0 (!w.params.followText "set-order")) }).objs.size, l] := by
     rw [Heap.size_push]; simp only [au, bh, bg, or_false, not_or]
     exact ⟨Nat.ne_of_lt (Nat.lt_succ_self _), Nat.ne_of_gt hlS⟩
    have hval : ∀ (i : Nat) (v : Value), items[i]? = some v → ∃ k t, ns[i]? = some k ∧ v = .int k t := fun i v hv => by
     have hi : i < ns.length := by rw [← hisz]; exact (Array.getElem?_eq_some_iff.mp hv).1
     obtain ⟨t, e⟩ := PyProof.Rows.IntsAre.int_at hit i v (by rw [Array.getElem?_toList]; exact hv)
     refine ⟨ns[i], t, bf hi, ?_⟩
     rw [e, List.getD_eq_getElem?_getD, bf hi] <;> rfl
    refine set_update_ints ((Walks.list hh3 _ l hneI items).toS) s.heap.objs.size
     hSf ns hisz hb hval (items.size - 0) 0 _ (by omega) (Nat.zero_le _)
     ⟨⟨_, Heap.get?_push_size _ rfl, rfl, rfl⟩, (hl1.push _)⟩ ?hS0 ?hR
    case hS0 =>
     have hget : ((s.heap.push { cls := .type "set", dict := none, data := .set #[] 0 (.fresh 0 0 (!w.params.followText "set-order")) }).push { cls := .type "list_iterator", data := .fields #[.ref l, .int 0 0] }).get? s.heap.objs.size
       = some { cls := .type "set", dict := none, data := .set #[] 0 (.fresh 0 0 (!w.params.followText "set-order")) } := Heap.get?_push_of_some _ hS
     exact ⟨0, az 0, setR_new_at hget⟩
    case hR =>
     intro s' c' hm hc' hS'
     obtain ⟨h', g2, d', tk', os'⟩ := s'
     have eg : g2 = s.gens := hm.gens
     have ed : d' = s.drawn := hm.drawn
     have eo : os' = s.os := hm.os
     subst eg; subst ed; subst eo
     show wpAny _ _ _ _ _ _
     refine wpAny_pure ?_
     show wpAny _ _ (ret Value.none) _ _ _
     rw [hisz] at hc'
     refine wpAny_pure ⟨rfl, h', tk', c', rfl, hS', hc', fun b o e => ?_⟩
     have hb0 : b < s.heap.objs.size := Heap.lt_size e
     have hb1 : b ≠ s.heap.objs.size := Nat.ne_of_lt hb0
     have hb2 : b ≠ (s.heap.push { cls := .type "set", dict := none, data := .set #[] 0 (.fresh 0 0 (!w.params.followText "set-order")) }).objs.size := by
      rw [Heap.size_push]; exact Nat.ne_of_lt (Nat.lt_succ_of_lt hb0)
     exact hm.heap b o (by simp only [au, bh, bg, or_false, not_or]; exact ⟨hb1, hb2⟩) (Heap.get?_push_of_some _ (Heap.get?_push_of_some _ e))
   ·cases r₂ with
    | error e => exact hr₂
    | ok fl₂ =>
     cases fl₂ with
     | ret r =>
      obtain ⟨rfl, h', tk, c', rfl, hS', hc', hk'⟩ := hr₂
      repeat (any_goals (first | assumption | wp_step))
      exact h _ _ _ hS' hc' hk'
     | _ => exact hr₂.elim
  | _ => exact hr.elim
end
section
variable {X : Cx}
def Z2 (K : PySem.W.Frag) (w : World) : List V → Hp → VK → Prop := fun xs H Q => ∃ (a : Addr) (ns : List Int), xs = [V.ref a] ∧ (SqL K H a (ns.map V.int) ∨ SqT K H a (ns.map V.int)) ∧ ns.length + 1 < scanBound ∧
 ∀ p c, c ≤ ns.length → H p = none → Q (.ref p) (upd H p (SetO w p (fun j => decide (j ∈ ns)) c))
theorem Y4 (hc : X.calm = true) : CallR X (.type "set") (Z2 X.K X.w) := by
 intro pins s σ H xs us Q I r h
 obtain ⟨a, ns, rfl, hs, hb, q⟩ := h
 rw [Vals.ref1 r]
 rcases hs with hs | hs
 ·obtain ⟨its, rv, hl, hlen⟩ := I.list hs
  have hi := ints_of_vals rv
  refine C5 ns (I.ok.hd hc) hl.isList (by simpa using hi) hb fun h' tk c R hc' k => ?_
  exact ⟨.ref _, upd H s.heap.objs.size (SetO X.w s.heap.objs.size (fun j => decide (j ∈ ns)) c), I.laid (t' := tk) k (az _) (setO_new R), rfl, q _ c hc' (I.hok.fresh (az _))⟩
 ·obtain ⟨its, rv, hl, hlen⟩ := I.tuple hs
  have hi := ints_of_vals rv
  refine call_set_tupI ns (I.ok.hd hc) hl (by simpa using hi) hb fun h' tk c R hc' k => ?_
  exact ⟨.ref _, upd H s.heap.objs.size (SetO X.w s.heap.objs.size (fun j => decide (j ∈ ns)) c), I.laid (t' := tk) k (az _) (setO_new R), rfl, q _ c hc' (I.hok.fresh (az _))⟩
end
def wF (k : Int) : List Int → List Int
 | [] => [k]
 | x :: xs => if k < x then k :: x :: xs else if k = x then x :: xs else x :: wF k xs
def hH (ns : List Int) : List Int := ns.foldr wF []
theorem AM {k j : Int} : ∀ {xs : List Int}, j ∈ wF k xs ↔ j = k ∨ j ∈ xs
 | [] => by simp [wF]
 | x :: xs => by
  unfold wF
  split
  ·simp
  ·split
   ·rename_i h; subst h; simp
   ·rw [au, AM (xs := xs), au]
    constructor
    ·rintro (h | h | h)
     ·exact .inr (.inl h)
     ·exact .inl h
     ·exact .inr (.inr h)
    ·rintro (h | h | h)
     ·exact .inr (.inl h)
     ·exact .inl h
     ·exact .inr (.inr h)
theorem AN {k : Int} : ∀ {xs : List Int}, xs.Pairwise (· < ·) → (wF k xs).Pairwise (· < ·)
 | [], _ => by simp [wF]
 | x :: xs, h => by
  obtain ⟨h1, h2⟩ := List.pairwise_cons.mp h
  unfold wF
  split
  ·rename_i hk
   refine List.pairwise_cons.mpr ⟨fun y hy => ?_, h⟩
   rcases au.mp hy with rfl | hy
   ·exact hk
   ·have := h1 y hy; omega
  ·split
   ·exact h
   ·refine List.pairwise_cons.mpr ⟨fun y hy => ?_, AN h2⟩
    rcases AM.mp hy with rfl | hy
    ·omega
    ·exact h1 y hy
theorem lD {j : Int} : ∀ {ns : List Int}, j ∈ hH ns ↔ j ∈ ns
 | [] => by simp [hH]
 | n :: ns => by
  have : hH (n :: ns) = wF n (hH ns) := rfl
  rw [this, AM, lD (ns := ns), au]
theorem gY : ∀ {ns : List Int}, (hH ns).Pairwise (· < ·)
 | [] => List.Pairwise.nil
 | n :: ns => AN (gY (ns := ns))
theorem rS : ∀ {xs ys : List Int}, xs.Pairwise (· < ·) → ys.Pairwise (· < ·) → (∀ k, k ∈ xs ↔ k ∈ ys) → xs = ys
 | [], [], _, _, _ => rfl
 | [], y :: ys, _, _, h => by have := (h y).mpr (aq ..); simp at this
 | x :: xs, [], _, _, h => by have := (h x).mp (aq ..); simp at this
 | x :: xs, y :: ys, hx, hy, h => by
  obtain ⟨x1, x2⟩ := List.pairwise_cons.mp hx
  obtain ⟨y1, y2⟩ := List.pairwise_cons.mp hy
  have e : x = y := by
   have a := (h x).mp (aq ..)
   have b := (h y).mpr (aq ..)
   rcases au.mp a with a | a
   ·exact a
   ·rcases au.mp b with b | b
    ·exact b.symm
    ·have := y1 x a; have := x1 y b; omega
  subst e
  rw [rS x2 y2 fun k => ?_]
  constructor
  ·intro hk
   have := (h k).mp (av _ hk)
   rcases au.mp this with e | e
   ·have := x1 k hk; omega
   ·exact e
  ·intro hk
   have := (h k).mpr (av _ hk)
   rcases au.mp this with e | e
   ·have := y1 k hk; omega
   ·exact e
def AA (d : D) (w : W) : Res D := match (d.items w).bind jQ with
 | some ns => if ns.length < 64 then .ok (.lst ((hH ns).map D.int)) w else .bad
 | none => .bad
theorem Rel.less {K : PySem.W.Frag} {I : List Addr} {F G H : Hp} {w : W} {q : Addr} {u : HO} (rel : Rel K I F (L2.upd G q u) w H) (hG : G q = none) : Rel K I F G w H :=
 ⟨rel.len, rel.nd, rel.ob, rel.fz, rel.ap, fun a v h => rel.gz a v (by rw [upd_ne (ne_of_none h hG)]; exact h), fun a v h => rel.gf a v (by rw [upd_ne (ne_of_none h hG)]; exact h), fun a xs h => rel.gt a xs (by rw [upd_ne (ne_of_none h hG)]; exact h)⟩
theorem Rel.aB9 {K : PySem.W.Frag} {I : List Addr} {F G H : Hp} {w : W} (rel : Rel K I F G w H) {q : Addr} {u : HO} (hq : H q = none) : Rel K I F G w (L2.upd H q u) := NC rel hq u
section
variable {S : aM} {p p2 pos pos2 : Pos} {e : Expr} {me : ME}
theorem T6 {X : Cx} {E : XK} {I1 : List Addr} {F1 G H1 : Hp} {x : D} {w1 : W} {v : V} {Q : VK} {ns : List Int} (rel1 : Rel X.K I1 F1 G w1 H1) (rv : aG X.K I1 F1 x v) (hx : (x.items w1).bind jQ = some ns) (hn : ns.length < 64)
  (k : ∀ H2, Rel X.K I1 F1 G w1 H2 → ∀ p, H2 p = none → Q (.ref p) (upd H2 p (.lst ((hH ns).map V.int)))) :
  Z2 X.K X.w [v] H1 fun y H2 => rSortedSet X.w [y] H2 Q := by
 obtain ⟨xs, e1, e2⟩ := cj.mp hx
 obtain ⟨a, vs, rfl, hq, hr⟩ := uL rel1 rv e1
 obtain rfl := nV hr e2
 refine ⟨a, ns, rfl, hq, by unfold scanBound; omega, fun p c hc hp => ⟨p, _, c, rfl, by rw [upd_same], by omega, fun ms q hm1 hm2 hm3 hq2 => ?_⟩⟩
 have : ms = hH ns := rS hm1 gY fun k => by rw [hm2, lD, ai]
 rw [this]
 exact k _ (rel1.aB9 hp) q hq2
theorem ZC (hl : S.sc.names.lookup ("sorted" : Str) = some .globalImplicit) (hm : S.mg "sorted" = none) (hg : S.sc.names.lookup ("set" : Str) = some .globalImplicit) (hn : S.mg "set" = none) (he : JE S e me)
  (n1 : ∀ env : Env, starEach [e] env = (false, eval e env) :: starEach [] env := by intro _; rfl) (n2 : ∀ env : Env, starEach [.Call (.Name "set" p2) [e] [] pos2] env = (false, eval (.Call (.Name "set" p2) [e] [] pos2) env) :: starEach [] env := by intro _; rfl) :
  JE S (.Call (.Name "sorted" p) [.Call (.Name "set" p2) [e] [] pos2] [] pos) (zN AA me) := fun X E cx xo =>
 b6 (pe_callB (cr_sortedSet cx.calm) (by show X.env.scope.names.lookup _ = _; rw [cx.sc]; exact hl) (by rw [cx.mg]; exact hm) rfl
  (pa_cons (hs := n2 X.env) (pe_callTy (Y4 cx.calm) (by show X.env.scope.names.lookup _ = _; rw [cx.sc]; exact hg) (by rw [cx.mg]; exact hn) rfl (pa_cons (hs := n1 X.env) (he X E cx xo) pa_nil) (he := n1 X.env)) pa_nil) (he := n2 X.env)) fun σ H Q ⟨I, F, G, ds, w, rel, rs, p⟩ =>
  bR (f := fun _ x w1 => AA x w1) rel rs p fun I1 F1 H1 x w1 v e1 rel1 rs1 rv pp => by
   unfold AA at pp
   split at pp
   ·rename_i ns hx
    split at pp
    ·rename_i hlt
     exact T6 (E := E) rel1 rv hx hlt fun H2 rel2 => iQ rel2 (RepL.ints _) pp
    ·exact pp.elim
   ·exact pp.elim
end
def zlM (ds : List D) (w : W) : Res kP := match ds with
 | [.lst xs, .lst ys] => .ok ⟨(xs.zip ys).map fun p => .tup [p.1, p.2], always⟩ w
 | _ => .bad
theorem aBh {S : aM} {e e2 : Expr} {ma : MA} {p pos tpos : Pos} {elts : List Expr} {kk : Nat} (hg : S.sc.names.lookup ("zip" : Str) = some .globalImplicit) (hm : S.mg "zip" = none) (ha : JA S [e, e2] ma)
  (hs : ∀ env : Env, starEach [e, e2] env = (false, eval e env) :: starEach [e2] env := by intro _; rfl) (hpl : ∀ env : Env, (backTo pos (starEach [e2] env)).any (·.1) = false := by intro _; rfl) :
  JI S (.Tuple elts kk tpos) (.Call (.Name "zip" p) [e, e2] [] pos) (cK zlM ma) := fun X E cx xo =>
 r8 (pi_zip (by show X.env.scope.names.lookup _ = _; rw [cx.sc]; exact hg) (by rw [cx.mg]; exact hm) (ha X E cx xo) (hs X.env) (hpl X.env)) fun σ H R ⟨I, F, G, ds, w, rel, rs, p⟩ => cQ (f := fun _ => zlM) rel rs p fun I1 F1 H1 xs w1 vs e1 rel1 rs1 rv p1 => by
  unfold zlM at p1
  split at p1
  ·rename_i xs ys
   obtain ⟨v, u, rfl, rx, ry⟩ := rv.two
   simp only [aG] at rx ry
   obtain ⟨a, us, rfl, q1, q2⟩ := rx
   obtain ⟨b, ts, rfl, q3, q4⟩ := ry
   refine ⟨a, b, us, ts, rfl, .of (rel1.fz _ _ q1), .of (rel1.fz _ _ q3), p1 I1 F1 H1 .refl rel1 trivial _ fun I' F' G' w' H' j e' rel' _ => ?_⟩
   have t1 : SqL X.K H' a us := rel'.QJ (.of (e'.f _ _ q1))
   have t2 : SqL X.K H' b ts := rel'.QJ (.of (e'.f _ _ q3))
   have r1 := RepL.ext e' _ _ q2
   have r2 := RepL.ext e' _ _ q4
   have l1 : xs.length = us.length := r1.length
   have l2 : ys.length = ts.length := r2.length
   refine ⟨fun x hx => ?_, fun hj => ⟨us, ts, t1, t2, ?_⟩⟩
   ·rw [cg] at hx
    cases hz : (xs.zip ys)[j]? with
    | none => rw [hz] at hx; cases hx
    | some pr =>
     rw [hz] at hx
     cases hx
     obtain ⟨pa, pb⟩ := pr
     rw [List.getElem?_zip_eq_some] at hz
     obtain ⟨v1, g1, g2⟩ := r1.get hz.1
     obtain ⟨v2, g3, g4⟩ := r2.get hz.2
     refine ⟨⟨us, ts, v1, v2, t1, t2, g1, g3⟩, fun v H'' y => ?_⟩
     obtain ⟨T, x', y', rfl, k1, rfl, k2, k3⟩ := y
     have z1 := k2 us t1
     have z2 := k3 ts t2
     rw [g1] at z1
     rw [g3] at z2
     cases z1
     cases z2
     exact xK rel' (RepL.cons g2 (RepL.cons g4 (by simp [RepL]))) k1
   ·simp only [ay, List.length_zip] at hj; omega
  ·exact p1.elim
theorem RepL.three {K : PySem.W.Frag} {I : List Addr} {F : Hp} {d e f : D} {vs : List V} (h : RepL K I F [d, e, f] vs) : ∃ v u t, vs = [v, u, t] ∧ aG K I F d v ∧ aG K I F e u ∧ aG K I F f t := by
 simp only [RepL] at h
 obtain ⟨v, r, rfl, h1, u, r2, rfl, h2, t, r3, rfl, h3, rfl⟩ := h
 exact ⟨v, u, t, rfl, h1, h2, h3⟩
def noM : MF := fun _ _ => .bad
theorem eR.bad {P : Program} {w : World} {K : PySem.W.Frag} {mg : Str → Option Value} {base : Heap} {k : Nat} {f : Addr} {fd : FuncData} {ps : List Str} : eR P w K mg base k f fd ps noM :=
 ⟨fun A outer s H args us vs Q E hr hg e0 hb r hl ⟨_, _, _, _, _, _, _, p⟩ => p.elim⟩
end Pc
namespace L2
open PySem PySem.Spec PyProof.Rows
section
variable {prog : Program} {w : World} {A : Around} {E : Value → Shared → Prop} {s : Shared}
theorem IQ (hh : A.handled = none) (I ax : Addr) (hne : ax ≠ I) (items : Array Value) (i0 : Nat) (h0 : i0 ≤ items.size) :
  Walks prog w A I [I, ax] [I] (items.size - i0) (fun i v => items[i0 + i]? = some v) (fun i h => IsTupIter h I ax (i0 + i) ∧ IsTup h ax items) where
 sub := fun b hb => by simp at hb; simp [hb]
 frame := fun _ _ _ st hk => ⟨Heap.IsTupleIter.at st.1 fun o e => hk I (by simp) o e, Heap.IsTuple.at st.2 fun o e => hk ax (by simp) o e⟩
 item := fun i s Q E hi st hQ => by
  refine next_tuple_item st.1 st.2 (x := items[i0 + i]'(by omega)) (by rw [Array.getElem?_eq_getElem]) fun h' hit' hs' => ?_
  exact hQ _ h' s.toks (by rw [Array.getElem?_eq_getElem]) ⟨hit', st.2.extBut hs'.extBut hne⟩ fun b o hb e => hs'.extBut b o (fun h => hb (by simp [h])) e
 done := fun s Q E st hQ => next_tuple_end hh st.1 st.2 (by simp; omega) fun h' he' => hQ h' s.toks fun b o hb e => he' b o (fun h => hb (by simp [h])) e
 self := fun _ _ _ _ st hQ => wpAny_pyIter_tupleiter st.1 hQ
theorem wL {t : Addr} {items : Array Value} {n : Nat} {Q : List Value → Shared → Prop} (hh : A.handled = none) (ht : IsTup s.heap t items) (hn : n ≤ items.size) (hz : items.size ≤ sizeLine)
  (hQ : ∀ (h' : Heap) (tk : Nat), (∀ b o, s.heap.get? b = some o → h'.get? b = some o) → Q (items.toList.take n ++ [.ref h'.objs.size]) { s with heap := h'.push { cls := .type "list", data := .seq (items.toList.drop n).toArray }, toks := tk }) :
  wpAny (model prog w) A (unpackItems (.ref t) (n + 1) (some n)) Q E s := by
 have hlt : t ≠ s.heap.objs.size := by obtain ⟨o, ho, _⟩ := ht; exact Nat.ne_of_lt (Heap.lt_size ho)
 have hltt : t < s.heap.objs.size := by obtain ⟨o, ho, _⟩ := ht; exact Heap.lt_size ho
 unfold unpackItems
 refine wpAny_bind ?_
 unfold notIterableAtAll
 refine wpAny_bind (wpAny_specialOf ht.typeIs slot_tuple_iter.lookup ?_)
 refine wpAny_pure ?_
 simp only [bz, ab]
 refine wpAny_bind (wpAny_holding (iter_tuple ht ?_))
 refine wpAny_bind (wpAny_holding (draw_tuple hlt n 0 _ _ ⟨_, Heap.get?_push_size _ rfl, rfl, rfl⟩ (ht.push _) (by omega) fun h₁ hit₁ hs₁ => ?_))
 have hl : (List.take n (List.drop 0 items.toList)).length = n := by simp; omega
 rw [if_neg (by rw [hl]; omega)]
 have ht₁ : IsTup h₁ t items := (ht.push _).extBut hs₁.extBut hlt
 rw [Nat.zero_add] at hit₁
 have hk1 : ∀ b o, s.heap.get? b = some o → h₁.get? b = some o := fun b o e => hs₁.extBut b o (Nat.ne_of_lt (Heap.lt_size e)) (Heap.get?_push_of_some _ e)
 have hsz : s.heap.objs.size < h₁.objs.size := by obtain ⟨o, ho, _⟩ := hit₁; exact Heap.lt_size ho
 refine wpAny_bind (wpAny_holding (wpAny_collect_iter (T := "tuple_iterator") (.inr (.inr (.inr rfl))) (IQ (A := A.in1) hh s.heap.objs.size t hlt items n hn).toS (fun i s' st => Heap.IsTupleIter.typeIs st.1) ⟨by rw [Nat.add_zero]; exact hit₁, ht₁⟩ (fun b hb => ?_) (by simp) (fun s' acc mv hi => ?_) (by omega)))
 ·simp only [au, bg, or_false] at hb
  rcases hb with rfl | rfl
  ·exact hsz
  ·exact Nat.lt_trans hltt hsz
 have ha : acc.toList = items.toList.drop n := by
  refine List.ext_getElem? fun i => ?_
  rw [List.getElem?_drop, Array.getElem?_toList, Array.getElem?_toList]
  by_cases h : i < acc.size
  ·obtain ⟨v, hv⟩ : ∃ v, acc[i]? = some v := ⟨acc[i], by simp [h]⟩
   rw [hv, hi.2 i v hv]
  ·have h1 := hi.1
   rw [Array.getElem?_eq_none (by omega), Array.getElem?_eq_none (by omega)]
 rw [ha]
 have hm : n + 1 - 1 - n = 0 := by omega
 simp only [hm, Nat.sub_zero, Nat.not_lt_zero, ab]
 rw [List.take_of_length_le (az _), List.drop_of_length_le (az _)]
 refine wpAny_bind (wpAny_newList ?_ (by simp; omega))
 refine wpAny_pure ?_
 rw [List.append_nil, List.drop_zero]
 have hk2 : ∀ b o, s.heap.get? b = some o → s'.heap.get? b = some o := fun b o e => mv.heap b o (fun hb => absurd (Heap.lt_size e) (by rw [bh.mp hb]; exact Nat.lt_irrefl _)) (hk1 b o e)
 have := hQ s'.heap s'.toks hk2
 obtain ⟨hp, g, d, tk, os⟩ := s'
 have h1 : g = s.gens := mv.gens
 have h2 : d = s.drawn := mv.drawn
 have h3 : os = s.os := mv.os
 subst h1
 subst h2
 subst h3
 exact this
end
section
variable {X : Cx} {pos : Pos}
def aAn (K : PySem.W.Frag) (n : Nat) (t : TGs) : TG := fun v σ H Q => ∃ a xs, v = .ref a ∧ SqT K H a xs ∧ n ≤ xs.length ∧ xs.length ≤ sizeLine ∧ ∀ q, H q = none → t (xs.take n ++ [.ref q]) σ (upd H q (.lst (xs.drop n))) Q
theorem X4 {es : List Expr} {k : Nat} {t : TGs} {n : Nat} (hc : X.calm = true) (h : PGs X es t)
  (hn : (assignEach es X.env).length = n + 1) (hst : (assignEach es X.env).findIdx? (·.1) = some n) : PG X (.Tuple es k pos) (aAn X.K n t) := by
 refine ⟨fun pins s σ H v u Q I r hw => ?_⟩
 obtain ⟨a, xs, e1, hq, hl, hz, hw⟩ := hw
 subst e1
 cases r
 obtain ⟨its, rv, ht, hz'⟩ := I.tuple hq
 rw [assign_Tuple]
 refine wpAny_bind (wpAny_standAt ?_)
 unfold unpack
 rw [hn, hst]
 refine wpAny_bind (wpAny_holding (wL (I.ok.hd hc) ht (by simp [← rv.length]; exact hl) (by simp [← rv.length]; exact hz) fun h' tk hx => ?_))
 have I1 : Inv X pins σ H { s with heap := h', toks := tk } := I.kept (t' := tk) hx
 have hf : H h'.objs.size = none := I1.hok.fresh (az _)
 have I2 : Inv X pins σ (upd H h'.objs.size (.lst (xs.drop n))) { s with heap := h'.push { cls := .type "list", data := .seq (its.drop n).toArray }, toks := tk } :=
  I1.laid (t' := tk) (fun b u e => Heap.get?_push_of_some _ e) (az _) ⟨by simp; omega, its.drop n, 0, rv.drop n, Heap.get?_push_size _ rfl⟩
 have vr : Vals (xs.take n ++ [.ref h'.objs.size]) (its.take n ++ [.ref h'.objs.size]) := (rv.take n).append (.cons rfl .nil)
 exact h.run pins _ σ _ _ _ Q I2 (by simpa using vr) (hw _ hf)
theorem WK {e : Expr} {p : Pos} {t : TG} (h1 : PG X e t) : PGs X [.Starred e p] (gCons t gNil) := by
 refine ⟨fun pins s σ H vs us Q I r h => ?_⟩
 obtain ⟨v, vr, e1, h⟩ := h
 subst e1
 cases r with
 | cons r rr =>
  have e : (assignEach [.Starred e p] X.env).map (·.2) = [assign e X.env] := rfl
  rw [e]
  refine assignInOrder_cons (thn (h1.run pins s σ H _ _ _ I r h) fun _ s1 ⟨σ1, H1, I1, q1⟩ => ?_)
  exact pgs_nil.run pins s1 σ1 H1 _ _ Q I1 rr q1
end
end L2
namespace Pc
open PySem PySem.Spec PyProof.Rows L2
def pQ (n : Nat) (r : IV) : MG := fun d σ w => match tU d with
 | some xs => if n ≤ xs.length ∧ xs.length ≤ sizeLine then r (xs.take n ++ [.lst (xs.drop n)]) σ w else .bad
 | none => .bad
section
variable {S : aM} {pos pos' : Pos} {e : Expr} {es : List Expr} {g : MG} {r : IV}
theorem BI (h1 : JG S e g) : JGs S [.Starred e pos] (aH g bD) := fun X E cx xo =>
 p9 (WK (h1 X E cx xo)) fun vs σ H Q ⟨I, F, G, xs, ds, w, rel, rs, rv, p⟩ => by
  cases xs with
  | nil => exact p.elim
  | cons d ds' =>
   simp only [RepL] at rv
   obtain ⟨v, u, rfl, h2, h3⟩ := rv
   simp only [aH] at p
   refine ⟨v, u, rfl, I, F, G, d, ds, w, rel, rs, h2, a9.mono (a9.bind p) fun I1 F1 H1 s1 w1 _ e1 rel1 q => ?_⟩
   intro s' rs'
   cases ds' with
   | cons _ _ => exact q.elim
   | nil =>
    simp only [RepL] at h3
    subst h3
    exact ⟨rfl, q I1 F1 H1 .refl rel1 s' rs'⟩
theorem QO {k n : Nat} (h : JGs S es r) (hn : ∀ env : Env, (assignEach es env).length = n + 1 := by intro _; rfl) (hst : ∀ env : Env, (assignEach es env).findIdx? (·.1) = some n := by intro _; rfl) : JG S (.Tuple es k pos) (pQ n r) := fun X E cx xo =>
 oW (X4 cx.calm (h X E cx xo) (hn X.env) (hst X.env)) fun v σ H Q ⟨I, F, G, d, ds, w, rel, rs, rv, p⟩ => by
  simp only [pQ] at p
  cases e : tU d with
  | none => rw [e] at p; exact p.elim
  | some xs =>
   rw [e] at p
   obtain ⟨a, vs, rfl, h1, h2⟩ : ∃ a vs, v = .ref a ∧ SqT X.K H a vs ∧ RepL X.K I F xs vs := by
    cases d <;> simp only [tU, af, reduceCtorEq] at e <;> subst e <;> simp only [aG] at rv
    ·obtain ⟨a, vs, h0, h1, h2⟩ := rv; exact ⟨a, vs, h0, .of (rel.fz _ _ h1), h2⟩
    ·obtain ⟨a, vs, h0, h1, h2⟩ := rv; exact ⟨a, vs, h0, rel.MD h1, h2⟩
   simp only at p
   split at p
   ·rename_i hl
    refine ⟨a, vs, rfl, h1, by rw [← h2.length]; exact hl.1, by rw [← h2.length]; exact hl.2, fun q hq => ?_⟩
    have hd := h2.drop n
    obtain ⟨I', F', e1, rel1, rl⟩ := iQ (E := E) (w := w) (Q := fun v H' => ∃ I' F', Ext I F I' F' ∧ Rel X.K I' F' G w H' ∧ aG X.K I' F' (.lst (xs.drop n)) v) rel hd (fun I' F' H' e1 rel' v rv => ⟨I', F', e1, rel', rv⟩) q hq
    exact ⟨I', F', G, _, ds, w, rel1, rs.ext e1, ((h2.take n).ext e1).append (RepL.cons rl (by simp [RepL])), p.ext e1⟩
   ·exact p.elim
end
def anyM : MF := fun ds w => match ds with
 | [d] => (match (tU d).bind jQ with
  | some ns => .ok (.bl (ns.any fun n => n != 0)) w
  | none => match (sI d w).bind rF with
   | some bs => .ok (.bl (bs.any id)) w
   | none => .bad)
 | _ => .bad
def e9 (xs : List D) : List D := (List.range xs.length).zipWith (fun i x => D.tup [.int (i : Nat), x]) xs
theorem CL (xs : List D) : (e9 xs).length = xs.length := by simp [e9]
theorem N6 {xs : List D} {j : Nat} {x : D} (h : (e9 xs)[j]? = some x) : ∃ d, xs[j]? = some d ∧ x = .tup [.int (j : Nat), d] := by
 have hl : j < (e9 xs).length := (ak.mp h).1
 rw [CL] at hl
 refine ⟨xs[j], bf hl, ?_⟩
 simp only [e9, List.getElem?_zipWith, List.getElem?_range hl, bf hl] at h
 cases h
 rfl
def lN (ds : List D) (w : W) : Res kP := match ds with
 | [.lst xs] => .ok ⟨e9 xs, always⟩ w
 | [.ref i] => (match w[i]? with
  | some (.lst xs) => .ok ⟨e9 xs, holds i (.lst xs)⟩ w
  | _ => .bad)
 | _ => .bad
theorem UR {K : PySem.W.Frag} {I : List Addr} {F : Hp} {a : Addr} {it : kP} {xs : List D} (hx : it.xs = e9 xs) (h : ∀ I' F' G w H, Ext I F I' F' → Rel K I' F' G w H → it.ok w → ∃ vs, SqL K H a vs ∧ RepL K I' F' xs vs) : vY K I F (Ite K a) it := fun I' F' G w H j e rel ok => by
 obtain ⟨vs, hq, r⟩ := h I' F' G w H e rel ok
 refine ⟨fun x hx' => ?_, fun hl => ⟨vs, hq, by rw [hx, CL] at hl; rw [← r.length, hl]; exact az _⟩⟩
 rw [hx] at hx'
 obtain ⟨d, hd, rfl⟩ := N6 hx'
 obtain ⟨v, hv, rv⟩ := r.get hd
 refine ⟨⟨vs, v, hq, hv⟩, fun u H' y => ?_⟩
 obtain ⟨T, x', rfl, k1, rfl, k2⟩ := y
 have := k2 vs hq
 rw [hv] at this; cases this
 exact xK rel (RepL.cons (by simp [aG]) (RepL.cons rv (by simp [RepL]))) k1
theorem WZ {S : aM} {e : Expr} {ma : MA} {p pos tpos : Pos} {elts : List Expr} {kk : Nat} (hg : S.sc.names.lookup ("enumerate" : Str) = some .globalImplicit) (hm : S.mg "enumerate" = none) (ha : JA S [e] ma)
  (hs : ∀ env : Env, starEach [e] env = [(false, eval e env)] := by intro _; rfl) : JI S (.Tuple elts kk tpos) (.Call (.Name "enumerate" p) [e] [] pos) (cK lN ma) := fun X E cx xo =>
 r8 (pi_enum (by show X.env.scope.names.lookup _ = _; rw [cx.sc]; exact hg) (by rw [cx.mg]; exact hm) (ha X E cx xo) (hs X.env)) fun σ H R ⟨I, F, G, ds, w, rel, rs, p⟩ => cQ (f := fun _ => lN) rel rs p fun I1 F1 H1 xs w1 vs e1 rel1 rs1 rv p1 => by
  unfold lN at p1
  split at p1
  ·rename_i xs
   obtain ⟨v, rfl, rx⟩ := rv.one
   simp only [aG] at rx
   obtain ⟨a, us, rfl, h1, h2⟩ := rx
   exact ⟨a, us, rfl, .of (rel1.fz _ _ h1), p1 I1 F1 H1 .refl rel1 trivial _ (UR rfl fun I' F' G w H e rel ok => ⟨us, .of (rel.fz _ _ (e.f _ _ h1)), RepL.ext e _ _ h2⟩)⟩
  ·rename_i i
   obtain ⟨v, rfl, rx⟩ := rv.one
   simp only [aG] at rx
   obtain ⟨a, rfl, ha⟩ := rx
   split at p1
   ·rename_i xs hw
    obtain ⟨u, g1, g2⟩ := rel1.ob i a _ ha hw
    obtain ⟨us, rfl, g3⟩ := g2
    refine ⟨a, us, rfl, .of g1, p1 I1 F1 H1 .refl rel1 hw _ (UR rfl fun I' F' G w H e rel ok => ?_)⟩
    obtain ⟨u', k1, k2⟩ := rel.ob i a _ (e.get ha) ok
    obtain ⟨us', rfl, k3⟩ := k2
    exact ⟨us', .of k1, k3⟩
   ·exact p1.elim
  ·exact p1.elim
end Pc
namespace L2
open PySem PySem.Spec PyProof.Rows
def smallKey : List Key → Bool
 | [.inl a, .inl s, .inl r] => (decide (0 ≤ a) && decide (a < 4)) && ((decide (0 ≤ s) && decide (s < 6)) && (decide (0 ≤ r) && decide (r < 10)))
 | _ => false
section
variable {X : Cx}
theorem pairs_at {pins : List (Addr × Obj)} {σ : St} {H : Hp} {s : Shared} (I : Inv X pins σ H s) : ∀ {ps : List Addr} {kvs : List (List Key × V)}, Paired (fun p kv => ∃ b, H p = some (.tup [.ref b, kv.2]) ∧ H b = some (.tup (kv.1.map kV))) ps kvs →
  ∃ xs : List (List Key × Addr × Value), KT H kvs xs ∧ xs.length = ps.length ∧ ∀ (j : Nat) (x : List Key × Addr × Value), xs[j]? = some x → ∃ p, ps[j]? = some p ∧ IsTup s.heap p #[.ref x.2.1, x.2.2] ∧ (tupleKind (mixKind X.prog X.w)).is s.heap x.1 x.2.1
 | [], _, .nil => ⟨[], .nil, rfl, fun j x e => by simp at e⟩
 | p :: ps, kv :: kvs, .cons ⟨b, h1, h2⟩ t => by
  obtain ⟨xs, g1, g2, g3⟩ := pairs_at I t
  obtain ⟨its, rv, ht, _⟩ := I.tuple (.inl (.inl h1))
  obtain ⟨u, y, rfl, ru, ry⟩ := vals2 rv
  cases (show u = Value.ref b from ru)
  refine ⟨(kv.1, b, y) :: xs, .cons ⟨rfl, h2, ry⟩ g1, by simp [g2], fun j x e => ?_⟩
  cases j with
  | zero =>
   cases e
   exact ⟨p, rfl, ht, key_of I.hok h2⟩
  | succ j => exact g3 j x e
end
end L2
namespace Pc
open PySem PySem.Spec PyProof.Rows L2
open Classical in
def dcL (it : kP) (vs : List Nat) (g : MG) (t : MT) (ek ev : ME) : List D → List (List Key × D) → Sg → W → Res (List (List Key × D))
 | [], acc, σ, w => if it.ok w then .ok acc w else .bad
 | x :: xs, acc, σ, w => if it.ok w then (g x (bV σ vs) w).SV.bind fun σ1 w1 => (t σ1 w1).SV.bind fun b w2 =>
   if b = true then (ek σ1 w2).SV.bind fun k w3 => (ev σ1 w3).SV.bind fun v w4 => match k with
    | .tup ks => (match uV ks with
     | some kk => if acc.length < sizeLine then dcL it vs g t ek ev xs (putD acc kk v) σ w4 else .bad
     | none => .bad)
    | _ => .bad
   else dcL it vs g t ek ev xs acc σ w2
  else .bad
def aDw (m : MI) (vs : List Nat) (g : MG) (t : MT) (ek ev : ME) : ME := fun σ w => (m σ w).bind fun it w1 => (dcL it vs g t ek ev it.xs [] σ w1).bind fun kvs w2 => .ok (.ref w2.length) (w2 ++ [.dT kvs])
theorem aP.len {κ : Type} {K : PySem.W.Frag} {I : List Addr} {F : Hp} : ∀ {ds : List (κ × D)} {vs : List (κ × V)}, aP K I F ds vs → ds.length = vs.length
 | [], vs, h => by simp only [aP] at h; subst h; rfl
 | (k, d) :: ds, vs, h => by
  simp only [aP] at h
  obtain ⟨v, r, rfl, _, h3⟩ := h
  simp [aP.len h3]
def pairOf : D → Option (List Key × D)
 | .tup [.tup ks, v] => (uV ks).map fun k => (k, v)
 | _ => none
def pairsOf : List D → Option (List (List Key × D))
 | [] => some []
 | d :: ds => match pairOf d, pairsOf ds with
  | some p, some ps => some (p :: ps)
  | _, _ => none
def aCc : MF := fun ds w => match ds with
 | [.ref i] => (match w[i]? with
  | some (.dK kvs) => .ok (.ref w.length) (w ++ [.dK kvs])
  | some (.dT kvs) => if (kvs.all fun p => smallKey p.1) = true then .ok (.ref w.length) (w ++ [.dT kvs]) else .bad
  | _ => .bad)
 | [.lst ps] => (match pairsOf ps with
  | some kvs => .ok (.ref w.length) (w ++ [.dT (xF [] kvs)])
  | none => .bad)
 | _ => .bad
def aC8 (tab : List (Str × Option D)) (ys : List D) (w : W) : Res D := match ys with
 | [.str z, y] => (match tab.lookup z with
  | some o => .ok (o.getD y) w
  | none => .ok y w)
 | _ => .bad
def aCt (d : Addr) (tab : List (Str × Option D)) (mo : ME) (ma : MA) : ME := fun σ w => (mo σ w).bind fun x w1 => match x with
 | .con a => if a = d then (ma σ w1).bind fun ys w2 => aC8 tab ys w2 else .bad
 | _ => .bad
end Pc
namespace L2
open PySem PySem.Spec PyProof.Rows
open PySem.W (EachIs AllAlike Sortable dataLe)
def leI (a b : Int) : Bool := decide (a ≤ b)
end L2
namespace Pc
open PySem PySem.Spec PyProof.Rows L2
def YO : MF := fun ds w => match ds with
 | [.tup xs] => (match jQ xs with
  | some ns => .ok (.lst ((ns.mergeSort leI).map D.int)) w
  | none => .bad)
 | ds => QT ds w
def aAc (n : Nat) (r : IV) : MG := fun d σ w => match CC d w with
 | some xs => if xs.length = n then r xs σ w else .bad
 | none => .bad
open RZ (nextOf_tuple_item nextOf_tuple_end)
def zmM (ds : List D) (w : W) : Res kP := match ds with
 | [.tup xs, .lst ys] => if xs.length = ys.length then .ok ⟨(xs.zip ys).map fun p => .tup [p.1, p.2], always⟩ w else .bad
 | _ => .bad
end Pc
namespace Pc
open PySem PySem.Spec PyProof.Rows L2 PySem.W
def eqE (x y : D) (w : W) : Res D := match x, y with
 | .ref i, .ref j => (match w[i]?, w[j]? with
  | some (.dT kvs), some (.dT []) => .ok (.bl kvs.isEmpty) w
  | _, _ => .bad)
 | _, _ => .bad
end Pc
namespace Pc
open PySem PySem.Spec PyProof.Rows L2
def aDG (C : Addr) (nm : Str) (x : D) (w : W) : Option Nat := match x with
 | .ref i => (match w[i]? with
  | some (.ins C' fs) => if C' = C ∧ fs.lookup nm = none then some i else none
  | _ => none)
 | _ => none
def xH (C : Addr) (nm : Str) (m : MF) (n : Nat) (gd : List D → List D → List D) (mo : ME) (ma : MA) : ME := fun σ w => (mo σ w).bind fun x w1 => match aDG C nm x w1 with
 | some i => (ma σ w1).bind fun xs w2 => if xs.length + 1 = n then m (gd (.ref i :: xs) []) w2 else .bad
 | none => .bad
def ZK : RM := fun d ds w => match d, ds with
 | .ref i, [.tup zs] => (match w[i]? with
  | some (.lst xs) => if xs.length + zs.length ≤ sizeLine then .ok .non (w.set i (.lst (xs ++ zs))) else .bad
  | _ => .bad)
 | _, _ => .bad
def lexLeI (ns ms : List Int) : Bool := Ob.lexAt (fun j => decide (ns.getD j 0 = ms.getD j 0)) (fun j => decide (ns.getD j 0 ≤ ms.getD j 0)) (decide (ns.length ≤ ms.length)) 0 (min ns.length ms.length)
def leA (x y : D) (w : W) : Res D := match x, y with
 | .int a, .int b => .ok (.bl (decide (a ≤ b))) w
 | .tup a, .tup b => (match jQ a, jQ b with
  | some ns, some ms => .ok (.bl (lexLeI ns ms)) w
  | _, _ => .bad)
 | _, _ => .bad
def aCU (x y : D) (w : W) : Res D := match CC x w, CC y w with
 | some a, some b => if a.length + b.length ≤ sizeLine then .ok (.ref w.length) (w ++ [.lst (a ++ b)]) else .bad
 | _, _ => .bad
end Pc
namespace He
open PySem PySem.Spec PyProof.Rows L2
abbrev AlY : Type := AlT × Bool
def XR (as : List Addr) (fa : List Fa) (fn : List DefD) (ts : List Tab) (ex : PySem.W.Frag → Bool) (g : Addr → Option Obj) : AlY := (obsT fa fn ts (frT g as), ex (frT g as))
def aCB (fn : List DefD) (ts : List Tab) (w : World) : AlY := (valT fn ts w, true)
theorem WU {as : List Addr} {fa : List Fa} {fn : List DefD} {ts : List Tab} {ex : PySem.W.Frag → Bool} {w : World} {h : Heap} (e : XR as fa fn ts ex h.get? = aCB fn ts w) : SaysX fa fn ts [] ex w h (frT h.get? as) :=
 ⟨congrArg (fun z : AlY => z.1) e, congrArg (fun z : AlY => z.2) e, (fun _ hp => nomatch hp), (fun _ hp => nomatch hp), (fun _ hp => nomatch hp)⟩
def Z3 (as : List Addr) (fa : List Fa) (fn : List DefD) (ts : List Tab) (ex : PySem.W.Frag → Bool) : PySem.W.Hook where
 α := AlY
 obs := fun s => XR as fa fn ts ex s.heap.get?
 val := fun w => aCB fn ts w
 says := fun w h => ∃ K : PySem.W.Frag, K.In h ∧ SaysX fa fn ts [] ex w h K
 of := fun _ _ e => ⟨_, frT_in, WU e⟩
 keeps := fun _ _ _ ⟨K, hK, c⟩ k => ⟨K, PySem.W.Frag.In.keeps hK k, ⟨c.t, c.more, c.hd, c.out, (fun _ hp => nomatch hp)⟩⟩
theorem ZI {as : List Addr} {fa : List Fa} {fn : List DefD} {ts : List Tab} {ex : PySem.W.Frag → Bool} {g : Addr → Option Obj} {s : Shared} (h : ∀ a, g a = s.heap.get? a) : XR as fa fn ts ex g = (Z3 as fa fn ts ex).obs s := by
 have e : g = s.heap.get? := funext h
 rw [e]
 rfl
theorem aAg {α β γ δ : Type} {e : Option α} {f : α → β} {g : α → γ} {h : α → δ} {a : β} {b : γ} {c : δ} (h1 : e.map (fun s => (f s, g s)) = some (a, b)) (h2 : e.map h = some c) : e.map (fun s => (f s, g s, h s)) = some (a, b, c) := by
 cases e with
 | none => exact nomatch h1
 | some s => 
  have q : (f s, g s) = (a, b) := Option.some.inj h1
  have q2 : h s = c := Option.some.inj h2
  have q3 := congrArg Prod.fst q
  have q4 := congrArg Prod.snd q
  show some (f s, g s, h s) = some (a, b, c)
  rw [q2, show f s = a from q3, show g s = b from q4]
end He
namespace Pc
open PySem PySem.Spec PyProof.Rows L2
def rQ : RM := fun d ds w => match d, ds with
 | .ref i, [.int j, y] => (match w[i]? with
  | some (.lst xs) => if xs.length < sizeLine ∧ 0 ≤ j ∧ j < 2 ^ 63 then .ok .non (w.set i (.lst (xs.take j.toNat ++ [y] ++ xs.drop j.toNat))) else .bad
  | _ => .bad)
 | _, _ => .bad
theorem SI {S : aM} : MB S "list.insert" rQ := CO fun X E c xo I F G d ds w H x vs Q rel rd rl p => by
 unfold rQ at p
 split at p
 ·rename_i i j y
  simp only [aG] at rd
  obtain ⟨a, rfl, hi⟩ := rd
  obtain ⟨v, u0, rfl, rj, ry⟩ := rl.two
  simp only [aG] at rj
  subst rj
  split at p
  ·rename_i xs hw
   obtain ⟨u, hu, us, rfl, hr⟩ := rel.ob i a _ hi hw
   split at p
   ·rename_i hl
    exact ⟨_, mt_insert, a, us, j, u0, rfl, rfl, hu, by rw [← hr.length]; exact hl.1, hl.2.1, hl.2.2, p.nE (rel.upd hi hw ⟨_, rfl, ((hr.take _).append (RepL.cons ry (by simp [RepL]))).append (hr.drop _)⟩) (by simp [aG])⟩
   ·exact p.elim
  ·exact p.elim
 ·exact p.elim
def calm {α : Type} : Res α → Res α
 | .ok a w => .ok a w
 | _ => .bad
def Top (X : Cx) : Prop := X.stack = X.env :: X.outer ∧ X.env.frame = some X.env.locals
def JST (S : aM) (st : Stmt) (m : MS) : Prop := ∀ X E, Ctx S X → pX X E → Top X → PS X st (LD X.K E m)
def aDY (S : aM) (st : List Stmt) (m : MS) : Prop := ∀ X E, Ctx S X → pX X E → Top X → PSs X st (LD X.K E m)
theorem JS.t {S : aM} {st : Stmt} {m : MS} (h : JS S st m) : JST S st m := fun X E cx xo _ => h X E cx xo
theorem nU.t {S : aM} {st : List Stmt} {m : MS} (h : nU S st m) : aDY S st m := fun X E cx xo _ => h X E cx xo
abbrev Ez : XK := fun _ _ _ => False
theorem a9.calm {α β : Type} {K : PySem.W.Frag} {I : List Addr} {F G : Hp} {E : XK} {R : List Addr → Hp → Hp → β → W → Prop} {r : Res α} {f : α → W → Res β} (p : a9 K I F G E R ((Pc.calm r).bind f)) : a9 K I F G Ez (fun I1 F1 _ x w1 => a9 K I1 F1 G E R (f x w1)) r := by
 cases r with
 | ok a w => exact fun I' F' H' e rel => a9.ext p e
 | E5 x w => exact False.elim p
 | bad => exact False.elim p
theorem Rel.hold {K : PySem.W.Frag} {I : List Addr} {F G H : Hp} {w : W} {x : XD} {c : Value} {d : Option Addr} (rel : Rel K I F G w H) (rx : AJ K I F H x c d) :
  ∃ G', Rel K I F G' w H ∧ (∀ I2 F2 w2 H2, Ext I F I2 F2 → Rel K I2 F2 G' w2 H2 → Rel K I2 F2 G w2 H2 ∧ AJ K I2 F2 H2 x c d) := by
 obtain ⟨ec, hx⟩ := rx
 cases hf : x.fs with
 | none =>
  rw [hf] at hx
  exact ⟨G, rel, fun I2 F2 w2 H2 e r2 => ⟨r2, ec, by rw [hf]; exact hx⟩⟩
 | some fs =>
  rw [hf] at hx
  obtain ⟨a, r, e1, e2, e3⟩ := hx
  have fin : ∀ {I2 F2 H2}, Ext I F I2 F2 → H2 a = some (.xd r) → AJ K I2 F2 H2 x c d := fun e h => ⟨ec, by rw [hf]; exact ⟨a, r, e1, h, aP.ext e _ _ e3⟩⟩
  have nI : a ∉ I := fun hm => by
   obtain ⟨i, hi⟩ := List.mem_iff_getElem?.mp hm
   have li : i < w.length := by rw [← rel.len]; exact (ak.mp hi).1
   obtain ⟨u, h1, h2⟩ := rel.ob i a w[i] hi (bf li)
   rw [e2] at h1
   cases h1
   cases hw : w[i] with
   | lst xs => rw [hw] at h2; obtain ⟨_, z, _⟩ := h2; cases z
   | dK xs => rw [hw] at h2; obtain ⟨_, z, _⟩ := h2; cases z
   | dT xs => rw [hw] at h2; obtain ⟨_, z, _⟩ := h2; cases z
   | dF xs => rw [hw] at h2; obtain ⟨_, _, z, _⟩ := h2; cases z
   | dG xs => rw [hw] at h2; obtain ⟨_, _, z, _⟩ := h2; cases z
   | ins C xs => rw [hw] at h2; obtain ⟨_, _, z, _⟩ := h2; cases z
  cases hF : F a with
  | some u =>
   have hu := rel.fz a u hF
   rw [e2] at hu
   cases hu
   exact ⟨G, rel, fun I2 F2 w2 H2 e r2 => ⟨r2, fin e (r2.fz a _ (e.f a _ hF))⟩⟩
  | none =>
   cases hG : G a with
   | some u =>
    have hu := rel.gz a u hG
    rw [e2] at hu
    cases hu
    exact ⟨G, rel, fun I2 F2 w2 H2 e r2 => ⟨r2, fin e (r2.gz a _ hG)⟩⟩
   | none =>
    refine ⟨L2.upd G a (.xd r), ⟨rel.len, rel.nd, rel.ob, rel.fz, rel.ap, fun b v hb => ?_, fun b v hb => ?_, fun b xs hb => ?_⟩, fun I2 F2 w2 H2 e r2 => ⟨r2.less hG, fin e (r2.gz a _ upd_same)⟩⟩
    ·by_cases q : b = a
     ·subst q
      rw [upd_same] at hb
      cases hb
      exact e2
     ·rw [upd_ne q] at hb
      exact rel.gz b v hb
    ·by_cases q : b = a
     ·subst q
      exact ⟨hF, nI⟩
     ·rw [upd_ne q] at hb
      exact rel.gf b v hb
    ·by_cases q : b = a
     ·subst q
      rw [upd_same] at hb
      cases hb
     ·rw [upd_ne q] at hb
      exact rel.gt b xs hb
def HP (K : PySem.W.Frag) : Prop := ∃ o, K.lookup sysModules = some o ∧ o.cls = .type "dict"
def aAm (K : PySem.W.Frag) : Bool := match K.lookup sysModules with
 | some o => (match o.cls with
  | .type n => n == "dict"
  | _ => false)
 | none => false
theorem X5 {K : PySem.W.Frag} (h : aAm K = true) : HP K := by
 unfold aAm at h
 split at h
 ·rename_i o e
  split at h
  ·rename_i n e2
   exact ⟨o, e, by rw [e2]; exact congrArg Value.type (eq_of_beq h)⟩
  ·cases h
 ·cases h
mutual
inductive Dq (K : PySem.W.Frag) (H : Hp) : V → PyData → Prop
 | non : Dq K H .non .none
 | bl (b : Bool) : Dq K H (.bl b) (.bool b)
 | int (i : Int) : Dq K H (.int i) (.int i)
 | str (x : Str) : Dq K H (.str x) (.str x)
 | lst {a : Addr} {xs : List V} {ds : List PyData} : SqL K H a xs → DqAll K H xs ds → Dq K H (.ref a) (.list ds)
 | tup {a : Addr} {xs : List V} {ds : List PyData} : SqT K H a xs → DqAll K H xs ds → Dq K H (.ref a) (.tuple ds)
 | emp {a : Addr} : (H a = some (.dK []) ∨ H a = some (.dT [])) → Dq K H (.ref a) (.dict [])
inductive DqAll (K : PySem.W.Frag) (H : Hp) : List V → List PyData → Prop
 | nil : DqAll K H [] []
 | cons {v : V} {vs : List V} {d : PyData} {ds : List PyData} : Dq K H v d → DqAll K H vs ds → DqAll K H (v :: vs) (d :: ds)
end
theorem X9 {P : Program} {w : World} {H : Hp} {h : Heap} {a : Addr} {o : HO} (x : ObjOk P w H h a o) (e : o = .dK [] ∨ o = .dT []) : (a == sysModules) = false ∧ ∃ ob es n, h.get? a = some ob ∧ ob.cls = .type "dict" ∧ ob.data = .dict es n ∧ es.toList = [] := by
 rcases e with rfl | rfl
 ·obtain ⟨_, ns, vs, kv, o, es, n, e1, e2, e3, e4, e5⟩ := x
  cases kv
  have e6 := e5.1
  refine ⟨ns, o, es, n, e1, e2.1, e3, ?_⟩
  generalize es.toList = l at e6
  cases l with
  | nil => rfl
  | cons x l => cases e6
 ·obtain ⟨_, ns, xs, pr, o, es, n, e1, e2, e3, e4, e5⟩ := x
  cases pr
  exact ⟨ns, o, es, n, e1, e2.1, e3, by rw [e4]; rfl⟩
section
variable {X : Cx} {pins : List (Addr × Obj)} {σ : L2.St} {H : Hp} {s : Shared}
mutual
theorem Dq.reads (hS : HP X.K) (I : Inv X pins σ H s) : ∀ (d : PyData) (v : V) (u : Value), Dq X.K H v d → RelV v u → ∃ as, Reads s.heap u d as ∧ sysModules ∉ as
 | .none, _, _, h, r => by
  cases h
  cases r
  exact ⟨_, Reads.none, by simp⟩
 | .bool b, _, _, h, r => by
  cases h
  cases r
  exact ⟨_, Reads.bool b, by simp⟩
 | .int i, _, _, h, r => by
  cases h
  obtain ⟨t, rfl⟩ := r
  exact ⟨_, Reads.int i t, by simp⟩
 | .str x, _, _, h, r => by
  cases h
  obtain ⟨t, rfl⟩ := r
  exact ⟨_, Reads.str x t, by simp⟩
 | .list ds, _, _, h, r => by
  cases h with
  | lst hs ha =>
   cases r
   obtain ⟨its, rv, ⟨o, n, ho, hc, _, hd⟩, _⟩ := I.list hs
   obtain ⟨as, hr, ns⟩ := Dq.readsAll hS I ds _ its ha rv
   refine ⟨_, Reads.list ho hc hd hr, fun hm => ?_⟩
   rcases au.mp hm with e | e
   ·obtain ⟨o2, h1, h2⟩ := hS
    have := I.kIn _ _ h1
    rw [e, ho] at this
    cases this
    rw [h2] at hc
    exact absurd (Value.type.inj hc) (by decide)
   ·exact ns e
 | .tuple ds, _, _, h, r => by
  cases h with
  | tup hs ha =>
   cases r
   obtain ⟨its, rv, ⟨o, ho, hc, n, hd⟩, _⟩ := I.tuple hs
   obtain ⟨as, hr, ns⟩ := Dq.readsAll hS I ds _ its ha rv
   exact ⟨_, Reads.tuple ho hc hd hr, ns⟩
 | .dict kvs, _, _, h, r => by
  cases h with
  | emp he =>
   cases r
   rename_i a
   have hx : ∃ o, H a = some o ∧ (o = .dK [] ∨ o = .dT []) := by
    rcases he with he | he
    ·exact ⟨_, he, .inl rfl⟩
    ·exact ⟨_, he, .inr rfl⟩
   obtain ⟨o, h1, h2⟩ := hx
   obtain ⟨ne, ob, es, n, e1, e2, e3, e4⟩ := X9 (I.hok a o h1) h2
   have r0 : ReadsAll s.heap (es.toList.map (·.key)) (([] : List (PyData × PyData)).map (·.1)) [] := by rw [e4]; exact .nil
   have r1 : ReadsAll s.heap (es.toList.map (·.val)) (([] : List (PyData × PyData)).map (·.2)) [] := by rw [e4]; exact .nil
   refine ⟨_, Reads.dict e1 e2 e3 r0 r1, fun hm => ?_⟩
   have : sysModules = a := by simpa using hm
   rw [← this] at ne
   simp at ne
theorem Dq.readsAll (hS : HP X.K) (I : Inv X pins σ H s) : ∀ (ds : List PyData) (vs : List V) (us : List Value), DqAll X.K H vs ds → Vals vs us → ∃ as, ReadsAll s.heap us ds as ∧ sysModules ∉ as
 | [], _, _, h, r => by
  cases h
  cases r
  exact ⟨_, ReadsAll.nil, by simp⟩
 | d :: ds, _, _, h, r => by
  cases h with
  | cons h1 h2 =>
   cases r with
   | cons r1 r2 =>
    obtain ⟨as, q1, n1⟩ := Dq.reads hS I d _ _ h1 r1
    obtain ⟨bs, q2, n2⟩ := Dq.readsAll hS I ds _ _ h2 r2
    exact ⟨_, ReadsAll.cons q1 q2, fun hm => by
     rcases bq.mp hm with e | e
     ·exact n1 e
     ·exact n2 e⟩
end
end
section
variable {K : PySem.W.Frag} {I : List Addr} {F G H : Hp} {w : W}
mutual
theorem aAp (rel : Rel K I F G w H) {f : Nat → Option PyData} (hf : ∀ i a p, I[i]? = some a → f i = some p → Dq K H (.ref a) p) : ∀ (d : D) (v : V) (p : PyData), aG K I F d v → d.eS f = some p → Dq K H v p
 | .non, v, p, h, e => by simp only [aG] at h; simp only [D.eS, af] at e; subst h; subst e; exact .non
 | .bl b, v, p, h, e => by simp only [aG] at h; simp only [D.eS, af] at e; subst h; subst e; exact .bl b
 | .int i, v, p, h, e => by simp only [aG] at h; simp only [D.eS, af] at e; subst h; subst e; exact .int i
 | .str x, v, p, h, e => by simp only [aG] at h; simp only [D.eS, af] at e; subst h; subst e; exact .str x
 | .ty _, v, p, h, e => by simp [D.eS] at e
 | .con _, v, p, h, e => by simp [D.eS] at e
 | .BV _ _, v, p, h, e => by simp [D.eS] at e
 | .tup xs, v, p, h, e => by
  simp only [aG] at h
  obtain ⟨a, vs, rfl, h2, h3⟩ := h
  simp only [D.eS, aj] at e
  obtain ⟨ps, e1, rfl⟩ := e
  exact .tup (.of (rel.fz _ _ h2)) (dq_pysR rel hf xs vs ps h3 e1)
 | .pW xs, v, p, h, e => by
  simp only [aG] at h
  obtain ⟨a, vs, rfl, h2, h3⟩ := h
  simp only [D.eS, aj] at e
  obtain ⟨ps, e1, rfl⟩ := e
  exact .tup (rel.MD h2) (dq_pysR rel hf xs vs ps h3 e1)
 | .lst xs, v, p, h, e => by
  simp only [aG] at h
  obtain ⟨a, vs, rfl, h2, h3⟩ := h
  simp only [D.eS, aj] at e
  obtain ⟨ps, e1, rfl⟩ := e
  exact .lst (.of (rel.fz _ _ h2)) (dq_pysR rel hf xs vs ps h3 e1)
 | .mH xs, v, p, h, e => by
  simp only [aG] at h
  obtain ⟨a, vs, rfl, h2, h3⟩ := h
  simp only [D.eS, aj] at e
  obtain ⟨ps, e1, rfl⟩ := e
  exact .lst (rel.QJ h2) (dq_pysR rel hf xs vs ps h3 e1)
 | .ref i, v, p, h, e => by
  simp only [aG] at h
  obtain ⟨a, rfl, h2⟩ := h
  simp only [D.eS] at e
  exact hf i a p h2 e
theorem dq_pysR (rel : Rel K I F G w H) {f : Nat → Option PyData} (hf : ∀ i a p, I[i]? = some a → f i = some p → Dq K H (.ref a) p) : ∀ (ds : List D) (vs : List V) (ps : List PyData), RepL K I F ds vs → D.pysR f ds = some ps → DqAll K H vs ps
 | [], vs, ps, h, e => by simp only [RepL] at h; simp only [D.pysR, af] at e; subst h; subst e; exact .nil
 | d :: ds, vs, ps, h, e => by
  simp only [RepL] at h
  obtain ⟨v, r, rfl, h2, h3⟩ := h
  simp only [D.pysR] at e
  split at e
  ·rename_i p ps' e1 e2
   cases e
   exact .cons (aAp rel hf d v p h2 e1) (dq_pysR rel hf ds r ps' h3 e2)
  ·cases e
end
end
def mI : MF := fun ds w => match ds with
 | [.int i] => if i.natAbs.log2 < 1920 then .ok (.str (toString i)) w else .bad
 | [.str a] => .ok (.str a) w
 | _ => .bad
theorem t6 {S : aM} : CB S (.type "str") mI := uC fun X E c xo I F G ds w H vs Q rel rl p => by
 unfold mI at p
 split at p
 ·rename_i i
  obtain ⟨v, rfl, rv⟩ := rl.one
  simp only [aG] at rv
  subst rv
  split at p
  ·rename_i hi
   exact ⟨_, call_str_int, i, rfl, hi, p.nE rel (by simp [aG])⟩
  ·exact p.elim
 ·rename_i a
  obtain ⟨v, rfl, rv⟩ := rl.one
  simp only [aG] at rv
  subst rv
  exact ⟨_, SkE.call_str_str, a, rfl, p.nE rel (by simp [aG])⟩
 ·exact p.elim
def qR : List D → Option (List PyData)
 | [] => some []
 | .int i :: ds => (qR ds).map fun ps => .int i :: ps
 | .str x :: ds => (qR ds).map fun ps => .str x :: ps
 | _ :: _ => none
mutual
def D.HK (f : Nat → Option PyData) : D → Option PyData
 | .non => some .none
 | .bl b => some (.bool b)
 | .int i => some (.int i)
 | .str x => some (.str x)
 | .ty _ => none
 | .con _ => none
 | .tup xs => (D.pysV f xs).map .tuple
 | .pW xs => (D.pysV f xs).map .tuple
 | .lst xs => (D.pysV f xs).map .list
 | .mH xs => (D.pysV f xs).map .list
 | .BV ks vs => (match qR ks, D.pysV f vs with
  | some kp, some vp => if kp.length = vp.length then some (.dict (kp.zip vp)) else none
  | _, _ => none)
 | .ref i => f i
def D.pysV (f : Nat → Option PyData) : List D → Option (List PyData)
 | [] => some []
 | d :: ds => match D.HK f d, D.pysV f ds with
  | some p, some ps => some (p :: ps)
  | _, _ => none
end
theorem NO {d : D} {ds : List D} {kp : List PyData} (h : qR (d :: ds) = some kp) : ∃ p ps, kp = p :: ps ∧ qR ds = some ps ∧ ((∃ i, d = .int i ∧ p = .int i) ∨ ∃ x, d = .str x ∧ p = .str x) := by
 cases d <;> simp only [qR, aj, reduceCtorEq] at h
 ·obtain ⟨ps, h1, rfl⟩ := h
  exact ⟨_, ps, rfl, h1, .inl ⟨_, rfl, rfl⟩⟩
 ·obtain ⟨ps, h1, rfl⟩ := h
  exact ⟨_, ps, rfl, h1, .inr ⟨_, rfl, rfl⟩⟩
theorem xT {h : Heap} {P : Program} {w : World} {K : PySem.W.Frag} {I : List Addr} {F : Hp} : ∀ {ks : List D} {kp : List PyData} {kvs : List (Key × V)} {kvs2 : List (Key × Value)} {es : List DictEntry}, qR ks = some kp → RepL K I F ks (kvs.map fun p => kV p.1) → KV kvs kvs2 → Pairs (mixKind P w) es kvs2 → ReadsAll h (es.map (·.key)) kp []
 | [], kp, kvs, kvs2, es, e, r, kv, ps => by
  simp only [qR, af] at e
  subst e
  simp only [RepL, List.map_eq_nil_iff] at r
  subst r
  cases kv
  cases ps
  exact .nil
 | d :: ds, kp, kvs, kvs2, es, e, r, kv, ps => by
  obtain ⟨p, pp, rfl, e2, e3⟩ := NO e
  cases kvs with
  | nil => simp only [List.map_nil, RepL] at r; obtain ⟨_, _, z, _⟩ := r; cases z
  | cons kv1 kvs =>
   simp only [List.map_cons, RepL] at r
   obtain ⟨v, t, z, r1, r2⟩ := r
   cases z
   cases kv with
   | cons k1 k2 =>
    cases ps with
    | @cons en kv0 es0 kvs0 p1 p2 p3 =>
     have ih := xT (h := h) e2 r2 k2 p3
     have hp : Reads h en.key p [] := by
      obtain ⟨q1, q2⟩ := k1
      obtain ⟨k, v0⟩ := kv1
      simp only at q1
      subst q1
      rcases keyIs_shape p1 with ⟨i, t, e5, e6⟩ | ⟨x, t, e5, e6⟩
      ·rw [e6]
       simp only [e5] at r1
       rcases e3 with ⟨j, rfl, rfl⟩ | ⟨x, rfl, rfl⟩
       ·simp only [aG, kV, V.int.injEq] at r1
        subst r1
        exact Reads.int _ t
       ·simp [aG, kV] at r1
      ·rw [e6]
       simp only [e5] at r1
       rcases e3 with ⟨j, rfl, rfl⟩ | ⟨y, rfl, rfl⟩
       ·simp [aG, kV] at r1
       ·simp only [aG, kV, V.str.injEq] at r1
        subst r1
        exact Reads.str _ t
     exact ReadsAll.cons (as := []) (bs := []) hp ih
theorem QG {P : Program} {w : World} : ∀ {kvs : List (Key × V)} {kvs2 : List (Key × Value)} {es : List DictEntry}, KV kvs kvs2 → Pairs (mixKind P w) es kvs2 → Vals (kvs.map fun p => p.2) (es.map (·.val))
 | [], _, _, kv, ps => by
  cases kv
  cases ps
  exact .nil
 | p :: kvs, _, _, kv, ps => by
  cases kv with
  | cons k1 k2 =>
   cases ps with
   | cons p1 p2 p3 =>
    exact .cons (by show L2.RelV p.2 (DictEntry.val _); rw [p2]; exact k1.2) (QG k2 p3)
section
variable {X : Cx} {pins : List (Addr × Obj)} {σ : L2.St} {H : Hp} {s : Shared} {I : List Addr} {F G : Hp} {w : W}
mutual
theorem EG (hS : HP X.K) (J : Inv X pins σ H s) (rel : Rel X.K I F G w H) {f : Nat → Option PyData} (hf : ∀ i a p, I[i]? = some a → f i = some p → ∃ as, Reads s.heap (.ref a) p as ∧ sysModules ∉ as) : ∀ (d : D) (v : V) (u : Value) (p : PyData), aG X.K I F d v → RelV v u → d.HK f = some p → ∃ as, Reads s.heap u p as ∧ sysModules ∉ as
 | .non, v, u, p, h, r, e => by
  simp only [aG] at h
  simp only [D.HK, af] at e
  subst h e
  cases r
  exact ⟨_, Reads.none, by simp⟩
 | .bl b, v, u, p, h, r, e => by
  simp only [aG] at h
  simp only [D.HK, af] at e
  subst h e
  cases r
  exact ⟨_, Reads.bool b, by simp⟩
 | .int i, v, u, p, h, r, e => by
  simp only [aG] at h
  simp only [D.HK, af] at e
  subst h e
  obtain ⟨t, rfl⟩ := r
  exact ⟨_, Reads.int i t, by simp⟩
 | .str x, v, u, p, h, r, e => by
  simp only [aG] at h
  simp only [D.HK, af] at e
  subst h e
  obtain ⟨t, rfl⟩ := r
  exact ⟨_, Reads.str x t, by simp⟩
 | .ty _, v, u, p, h, r, e => by simp [D.HK] at e
 | .con _, v, u, p, h, r, e => by simp [D.HK] at e
 | .tup xs, v, u, p, h, r, e => by
  simp only [aG] at h
  obtain ⟨a, vs, rfl, h2, h3⟩ := h
  simp only [D.HK, aj] at e
  obtain ⟨ps, e1, rfl⟩ := e
  cases r
  obtain ⟨its, rv, ⟨o, ho, hc, n, hd⟩, _⟩ := J.tuple (show SqT X.K H a vs from .of (rel.fz _ _ h2))
  obtain ⟨as, hr, ns⟩ := pysV_reads hS J rel hf xs vs its ps h3 rv e1
  exact ⟨_, Reads.tuple ho hc hd hr, ns⟩
 | .pW xs, v, u, p, h, r, e => by
  simp only [aG] at h
  obtain ⟨a, vs, rfl, h2, h3⟩ := h
  simp only [D.HK, aj] at e
  obtain ⟨ps, e1, rfl⟩ := e
  cases r
  obtain ⟨its, rv, ⟨o, ho, hc, n, hd⟩, _⟩ := J.tuple (rel.MD h2)
  obtain ⟨as, hr, ns⟩ := pysV_reads hS J rel hf xs vs its ps h3 rv e1
  exact ⟨_, Reads.tuple ho hc hd hr, ns⟩
 | .lst xs, v, u, p, h, r, e => by
  simp only [aG] at h
  obtain ⟨a, vs, rfl, h2, h3⟩ := h
  simp only [D.HK, aj] at e
  obtain ⟨ps, e1, rfl⟩ := e
  cases r
  obtain ⟨its, rv, ⟨o, n, ho, hc, _, hd⟩, _⟩ := J.list (show SqL X.K H a vs from .of (rel.fz _ _ h2))
  obtain ⟨as, hr, ns⟩ := pysV_reads hS J rel hf xs vs its ps h3 rv e1
  refine ⟨_, Reads.list ho hc hd hr, fun hm => ?_⟩
  rcases au.mp hm with e | e
  ·obtain ⟨o2, h1, h2⟩ := hS
   have := J.kIn _ _ h1
   rw [e, ho] at this
   cases this
   rw [h2] at hc
   exact absurd (Value.type.inj hc) (by decide)
  ·exact ns e
 | .mH xs, v, u, p, h, r, e => by
  simp only [aG] at h
  obtain ⟨a, vs, rfl, h2, h3⟩ := h
  simp only [D.HK, aj] at e
  obtain ⟨ps, e1, rfl⟩ := e
  cases r
  obtain ⟨its, rv, ⟨o, n, ho, hc, _, hd⟩, _⟩ := J.list (rel.QJ h2)
  obtain ⟨as, hr, ns⟩ := pysV_reads hS J rel hf xs vs its ps h3 rv e1
  refine ⟨_, Reads.list ho hc hd hr, fun hm => ?_⟩
  rcases au.mp hm with e | e
  ·obtain ⟨o2, h1, h2⟩ := hS
   have := J.kIn _ _ h1
   rw [e, ho] at this
   cases this
   rw [h2] at hc
   exact absurd (Value.type.inj hc) (by decide)
  ·exact ns e
 | .BV ks xs, v, u, p, h, r, e => by
  simp only [aG] at h
  obtain ⟨a, kvs, rfl, h2, h3, h4⟩ := h
  simp only [D.HK] at e
  split at e
  ·rename_i kp vp e1 e2
   split at e
   ·rename_i el
    cases e
    cases r
    have hx : ∃ u, H a = some u ∧ (u = .dK kvs ∨ ∃ o, u = .frz o (.dK kvs)) := by
     rcases h2 with h2 | ⟨o, h2⟩
     ·exact ⟨_, rel.fz _ _ h2, .inl rfl⟩
     ·exact ⟨_, rel.fz _ _ h2, .inr ⟨o, rfl⟩⟩
    obtain ⟨u, h5, h6⟩ := hx
    have ok := J.hok a u h5
    have ok2 : ObjOk X.prog X.w H s.heap a (.dK kvs) := by
     rcases h6 with rfl | ⟨o, rfl⟩
     ·exact ok
     ·exact ok.2
    obtain ⟨_, ns, kv2, kv, o, es, n, q1, q2, q3, q4, q5, q6⟩ := ok2
    have rk := xT (h := s.heap) e1 h3 kv q5
    have hv : Vals (kvs.map fun p => p.2) (es.toList.map (·.val)) := QG kv q5
    obtain ⟨as, hr, ns2⟩ := pysV_reads hS J rel hf xs _ _ vp h4 hv e2
    have f1 : ((kp.zip vp).map fun p => p.1) = kp := by
     rw [List.map_fst_zip]
     omega
    have f2 : ((kp.zip vp).map fun p => p.2) = vp := by
     rw [List.map_snd_zip]
     omega
    refine ⟨_, Reads.dict (kvs := kp.zip vp) q1 q2.1 q3 (by rw [f1]; exact rk) (by rw [f2]; exact hr), fun hm => ?_⟩
    simp only [List.append_nil, List.cons_append, au] at hm
    rcases hm with e | e
    ·rw [← e] at ns
     simp at ns
    ·exact ns2 e
   ·cases e
  ·cases e
 | .ref i, v, u, p, h, r, e => by
  simp only [aG] at h
  obtain ⟨a, rfl, h2⟩ := h
  simp only [D.HK] at e
  cases r
  exact hf i a p h2 e
theorem pysV_reads (hS : HP X.K) (J : Inv X pins σ H s) (rel : Rel X.K I F G w H) {f : Nat → Option PyData} (hf : ∀ i a p, I[i]? = some a → f i = some p → ∃ as, Reads s.heap (.ref a) p as ∧ sysModules ∉ as) : ∀ (ds : List D) (vs : List V) (us : List Value) (ps : List PyData), RepL X.K I F ds vs → Vals vs us → D.pysV f ds = some ps → ∃ as, ReadsAll s.heap us ps as ∧ sysModules ∉ as
 | [], vs, us, ps, h, r, e => by
  simp only [RepL] at h
  simp only [D.pysV, af] at e
  subst h e
  cases r
  exact ⟨_, ReadsAll.nil, by simp⟩
 | d :: ds, vs, us, ps, h, r, e => by
  simp only [RepL] at h
  obtain ⟨v, t, rfl, h2, h3⟩ := h
  simp only [D.pysV] at e
  split at e
  ·rename_i p ps' e1 e2
   cases e
   cases r with
   | cons r1 r2 =>
    obtain ⟨as, q1, n1⟩ := EG hS J rel hf d v _ p h2 r1 e1
    obtain ⟨bs, q2, n2⟩ := pysV_reads hS J rel hf ds t _ ps' h3 r2 e2
    exact ⟨_, ReadsAll.cons q1 q2, fun hm => by
     rcases bq.mp hm with e | e
     ·exact n1 e
     ·exact n2 e⟩
  ·cases e
end
end
def LU : Nat → W → Nat → Option PyData
 | 0, _, _ => none
 | n + 1, w, i => match w[i]? with
  | some (.lst xs) => (D.pysV (LU n w) xs).map .list
  | _ => none
theorem yY {X : Cx} {pins : List (Addr × Obj)} {σ : L2.St} {H : Hp} {s : Shared} {I : List Addr} {F G : Hp} {w : W} (hS : HP X.K) (J : Inv X pins σ H s) (rel : Rel X.K I F G w H) : ∀ (n i : Nat) (a : Addr) (p : PyData), I[i]? = some a → LU n w i = some p → ∃ as, Reads s.heap (.ref a) p as ∧ sysModules ∉ as
 | 0, i, a, p, _, e => by simp [LU] at e
 | n + 1, i, a, p, h, e => by
  simp only [LU] at e
  split at e
  ·rename_i xs hw
   simp only [aj] at e
   obtain ⟨ps, e1, rfl⟩ := e
   obtain ⟨u, hu, ho⟩ := rel.ob i a _ h hw
   obtain ⟨vs, rfl, h3⟩ := ho
   obtain ⟨its, rv, ⟨o, n', ho, hc, _, hd⟩, _⟩ := J.list (show SqL X.K H a vs from .of hu)
   obtain ⟨as, hr, ns⟩ := pysV_reads hS J rel (fun i a p => yY hS J rel n i a p) xs vs its ps h3 rv e1
   refine ⟨_, Reads.list ho hc hd hr, fun hm => ?_⟩
   rcases au.mp hm with e | e
   ·obtain ⟨o2, h1, h2⟩ := hS
    have := J.kIn _ _ h1
    rw [e, ho] at this
    cases this
    rw [h2] at hc
    exact absurd (Value.type.inj hc) (by decide)
   ·exact ns e
  ·cases e
def GA (d : D) (w : W) : Option Str := match d.HK (LU 8 w) with
 | some p => if p.showable = true ∧ p.depth ≤ 60 ∧ p.shown.length ≤ sizeLine then some p.shown else none
 | none => none
def sF : MF := fun ds w => match ds with
 | [d] => (match GA d w with
  | some z => .ok (.str z) w
  | none => .bad)
 | _ => .bad
theorem vL {S : aM} (hS : HP S.K) : CB S (.builtin "repr") sF := fun X E c xo pins s σ H vs us Q J r ⟨I, F, G, ds, w, rel, rl, p⟩ => by
 have hS' : HP X.K := by rw [c.K]; exact hS
 unfold sF at p
 split at p
 ·rename_i d
  obtain ⟨v, rfl, rv⟩ := rl.one
  obtain ⟨u, rfl, ru⟩ := vals1 r
  split at p
  ·rename_i z hz
   unfold GA at hz
   split at hz
   ·rename_i q hq
    split at hz
    ·rename_i hc
     cases hz
     obtain ⟨c1, c3, c4⟩ := hc
     obtain ⟨as, rd, ns⟩ := EG hS' J rel (fun i a p => yY hS' J rel 8 i a p) d v u q rv ru hq
     have fin : ∀ (h' : Heap) (t tk : Nat), (∀ b o, s.heap.get? b = some o → h'.get? b = some o) → EP X pins σ Q (.str q.shown t) { s with heap := h', toks := tk } := fun h' t tk hk => ⟨.str q.shown, H, J.kept hk, ⟨_, rfl⟩, p.nE rel (by simp [aG])⟩
     cases u with
     | ref a => exact repr_of_reads' rd c1 (fun _ => ns) c.gds (by have := c.room.units; omega) (fun _ _ h => h) (fun h' t tk hk => fin h' t tk hk) c4
     | none => cases rd; exact PySem.P.repr_of_none (by have := fin s.heap s.toks (s.toks + 1) fun _ _ h => h; simpa [PyData.shown] using this)
     | bool b => cases rd; exact PySem.P.repr_of_bool (by have := fin s.heap s.toks (s.toks + 1) fun _ _ h => h; simpa [PyData.shown] using this)
     | int i t => cases rd; exact PySem.P.repr_of_int (by simpa [PyData.showable] using c1) (by have := fin s.heap s.toks (s.toks + 1) fun _ _ h => h; simpa [PyData.shown] using this)
     | str x t => cases rd; exact PySem.P.repr_of_str (by have := fin s.heap s.toks (s.toks + 1) fun _ _ h => h; simpa [PyData.shown] using this) (by simpa [PyData.shown] using c4)
     | _ => cases rd
    ·cases hz
   ·cases hz
  ·exact p.elim
 ·exact p.elim
def y3 : List D → Option (List Str)
 | [] => some []
 | .str x :: ds => (y3 ds).map fun xs => x :: xs
 | _ :: _ => none
theorem EY {K : PySem.W.Frag} {I : List Addr} {F : Hp} : ∀ {ds : List D} {vs : List V} {ys : List Str}, RepL K I F ds vs → y3 ds = some ys → vs = ys.map V.str
 | [], vs, ys, r, e => by
  simp only [y3, af] at e
  subst e
  simp only [RepL] at r
  exact r
 | d :: ds, vs, ys, r, e => by
  cases d <;> simp only [y3, aj, reduceCtorEq] at e
  rename_i x
  obtain ⟨xs, e1, rfl⟩ := e
  simp only [RepL, aG] at r
  obtain ⟨v, t, rfl, rfl, r2⟩ := r
  rw [List.map_cons, EY r2 e1]
theorem BR {K : PySem.W.Frag} {I : List Addr} {F : Hp} : ∀ ys : List Str, RepL K I F (ys.map D.str) (ys.map V.str)
 | [] => by simp [RepL]
 | y :: ys => RepL.cons (by simp [aG]) (BR ys)
def joinM : RM := fun d ds w => match d, ds with
 | .str a, [y] => (match (y.items w).bind y3 with
  | some ys => if (ys.map (·.length)).sum + ys.length * a.length ≤ 16777216 then .ok (.str (Txt.join a ys)) w else .bad
  | none => .bad)
 | _, _ => .bad
theorem iK {S : aM} : MB S "str.join" joinM := CO fun X E c xo I F G d ds w H x vs Q rel rd rl p => by
 unfold joinM at p
 split at p
 ·rename_i a y
  simp only [aG] at rd
  subst rd
  obtain ⟨v, rfl, rv⟩ := rl.one
  split at p
  ·rename_i ys hy
   obtain ⟨xs, h1, h2⟩ := cj.mp hy
   obtain ⟨b, us, rfl, h3, h4⟩ := uL rel rv h1
   obtain rfl := EY h4 h2
   split at p
   ·rename_i hz
    exact ⟨_, mt_join, a, b, ys, rfl, rfl, h3, hz, p.nE rel (by simp [aG])⟩
   ·exact p.elim
  ·exact p.elim
 ·exact p.elim
def splitM : RM := fun d ds w => match d, ds with
 | .str a, [.str b] => if (b.length == 0) = false ∧ a.length + 2 ≤ sizeLine then .ok (.lst ((Txt.split a b).map D.str)) w else .bad
 | _, _ => .bad
theorem nQ {S : aM} : MB S "str.split" splitM := CO fun X E c xo I F G d ds w H x vs Q rel rd rl p => by
 unfold splitM at p
 split at p
 ·rename_i a b
  simp only [aG] at rd
  subst rd
  obtain ⟨v, rfl, rv⟩ := rl.one
  simp only [aG] at rv
  subst rv
  split at p
  ·rename_i hz
   exact ⟨_, mt_split, a, b, rfl, rfl, hz.1, hz.2, iQ rel (BR _) p⟩
  ·exact p.elim
 ·exact p.elim
def vS : MF := fun ds w => match ds with
 | [.str a] => (match PySem.intText? a with
  | some n => if a.length ≤ 640 then .ok (.int n) w else .bad
  | none => .bad)
 | _ => .bad
theorem Q1 {S : aM} : CB S (.type "int") vS := uC fun X E c xo I F G ds w H vs Q rel rl p => by
 unfold vS at p
 split at p
 ·rename_i a
  obtain ⟨v, rfl, rv⟩ := rl.one
  simp only [aG] at rv
  subst rv
  split at p
  ·rename_i n hn
   split at p
   ·rename_i hz
    exact ⟨_, call_int_str, a, n, rfl, hn, hz, p.nE rel (by simp [aG])⟩
   ·exact p.elim
  ·exact p.elim
 ·exact p.elim
def WG (x y : D) (w : W) : Res D := match x, y with
 | .str c, .str z => (match c.cps.toList with
  | [n] => .ok (.bl (decide (n ∈ z.cps.toList))) w
  | _ => .bad)
 | _, _ => .bad
theorem aAw {S : aM} : O2 S (compareOp .In) WG := gJ fun X E c xo I F G d e w H x y Q rel rd re p => by
 unfold WG at p
 split at p
 ·rename_i a z
  simp only [aG] at rd re
  subst rd re
  split at p
  ·rename_i n hn
   have ea : a = ⟨#[n]⟩ := by
    cases a with
    | mk cs =>
     congr
     exact Array.toList_inj.mp (by simpa using hn)
   exact ⟨_, op_in_sign, n, z, by rw [ea], rfl, p.nE rel (by simp [aG])⟩
  ·exact p.elim
 ·exact p.elim
def l7 (x : Str) : List D := x.cps.toList.map fun c => D.str ⟨#[c]⟩
def WS (d : D) (w : W) : Res kP := match d with
 | .str x => .ok ⟨l7 x, always⟩ w
 | _ => .bad
def WO (m : ME) : MI := fun σ w => (m σ w).bind WS
theorem aA1 {K : PySem.W.Frag} {I : List Addr} {F : Hp} {it : kP} {x : Str} (hx : it.xs = l7 x) : vY K I F (Its x) it := fun I' F' G w H j e rel ok => by
 refine ⟨fun y h => ?_, fun hl => ?_⟩
 ·rw [hx, l7, cg] at h
  obtain ⟨c, hc, rfl⟩ := aj.mp h
  rw [Array.getElem?_toList] at hc
  refine ⟨(Array.getElem?_eq_some_iff.mp hc).1, fun v H' y => ?_⟩
  obtain ⟨rfl, c', hc', rfl⟩ := y
  rw [hc] at hc'
  cases hc'
  exact ⟨F', .refl, rel, by simp [aG]⟩
 ·rw [hx, l7, ay, Array.length_toList] at hl
  show x.cps.size ≤ j
  omega
theorem aBK {S : aM} {tg l : Expr} {m : ME} (hl : JE S l m) : JI S tg l (WO m) := fun X E cx xo =>
 r8 (pi_str (hl X E cx xo)) fun σ H R ⟨I, F, G, ds, w, rel, rs, p⟩ => bR (f := fun _ => WS) rel rs p fun I1 F1 H1 d w1 v e1 rel1 rs1 rv p1 => by
  unfold WS at p1
  split at p1
  ·rename_i x
   simp only [aG] at rv
   subst rv
   exact ⟨x, rfl, p1 I1 F1 H1 .refl rel1 trivial _ (aA1 rfl)⟩
  ·exact p1.elim
end Pc
namespace L2
open PySem PySem.Spec PyProof.Rows
section
variable {prog : Program} {w : World} {A : Around} {E : Value → Shared → Prop} {s : Shared}
theorem FA (hh : A.handled = none) (I ax : Addr) (hne : ax ≠ I) (items : Array Value) (i0 : Nat) (h0 : i0 ≤ items.size) :
  Walks prog w A I [I, ax] [I] (items.size - i0) (fun i v => items[i0 + i]? = some v) (fun i h => h.IsListIter I ax (i0 + i) ∧ h.IsList ax items) where
 sub := fun b hb => by simp at hb; simp [hb]
 frame := fun _ _ _ st hk => ⟨st.1.at fun o e => hk I (by simp) o e, st.2.at fun o e => hk ax (by simp) o e⟩
 item := fun i s Q E hi st hQ => by
  refine wpAny_pyNext_list_item st.1 st.2 (x := items[i0 + i]'(by omega)) (by rw [Array.getElem?_eq_getElem]) fun h' hit' hs' => ?_
  exact hQ _ h' s.toks (by rw [Array.getElem?_eq_getElem]) ⟨hit', st.2.extBut hs'.extBut hne⟩ fun b o hb e => hs'.extBut b o (fun h => hb (by simp [h])) e
 done := fun s Q E st hQ => wpAny_pyNext_list_end hh st.1 st.2 (by simp; omega) fun h' he' => hQ h' s.toks fun b o hb e => he' b o (fun h => hb (by simp [h])) e
 self := fun _ _ _ _ st hQ => wpAny_pyIter_listiter st.1 hQ
theorem MZ {it t : Addr} {items : Array Value} (hne : t ≠ it) : ∀ (n i : Nat) (s : Shared) (Q : List Value → Shared → Prop), s.heap.IsListIter it t i → s.heap.IsList t items → i + n ≤ items.size →
  (∀ h' : Heap, h'.IsListIter it t (i + n) → Heap.SameBut it s.heap h' → Q ((items.toList.drop i).take n) { s with heap := h' }) → wpAny (model prog w) A (draw (.ref it) n) Q E s
 | 0, i, s, Q, hit, _, _, hQ => by
  show wpAny _ _ (pure []) Q E s
  exact wpAny_pure (by simpa using hQ s.heap hit (Heap.SameBut.refl ..))
 | n + 1, i, s, Q, hit, ht, hle, hQ => by
  have hlt : i < items.size := by omega
  show wpAny _ _ (pyNext (.ref it) >>= _) Q E s
  refine wpAny_bind (wpAny_pyNext_list_item hit ht (x := items[i]) (by simp [hlt]) fun h₁ hit₁ hs₁ => ?_)
  refine wpAny_bind (wpAny_holding (MZ hne n (i + 1) _ _ hit₁ (ht.extBut hs₁.extBut hne) (by omega) fun h₂ hit₂ hs₂ => wpAny_pure ?_))
  have hd : items.toList.drop i = items[i] :: items.toList.drop (i + 1) := by simp [List.drop_eq_getElem_cons, hlt]
  have := hQ h₂ (by rw [show i + (n + 1) = i + 1 + n by omega]; exact hit₂) (hs₁.trans hs₂)
  rw [hd, List.take_succ_cons] at this
  exact this
theorem A7 {t : Addr} {items : Array Value} {n : Nat} {Q : List Value → Shared → Prop} (hh : A.handled = none) (ht : s.heap.IsList t items) (hn : n ≤ items.size) (hz : items.size ≤ sizeLine)
  (hQ : ∀ (h' : Heap) (tk : Nat), (∀ b o, s.heap.get? b = some o → h'.get? b = some o) → Q (items.toList.take n ++ [.ref h'.objs.size]) { s with heap := h'.push { cls := .type "list", data := .seq (items.toList.drop n).toArray }, toks := tk }) :
  wpAny (model prog w) A (unpackItems (.ref t) (n + 1) (some n)) Q E s := by
 have hlt : t ≠ s.heap.objs.size := by obtain ⟨o, ho, _⟩ := ht; exact Nat.ne_of_lt (Heap.lt_size ho)
 have hltt : t < s.heap.objs.size := by obtain ⟨o, ho, _⟩ := ht; exact Heap.lt_size ho
 unfold unpackItems
 refine wpAny_bind ?_
 unfold notIterableAtAll
 refine wpAny_bind (wpAny_specialOf ht.typeIs slot_list_iter.lookup ?_)
 refine wpAny_pure ?_
 simp only [bz, ab]
 refine wpAny_bind (wpAny_holding (wpAny_pyIter_list ht ?_))
 refine wpAny_bind (wpAny_holding (MZ hlt n 0 _ _ ⟨_, Heap.get?_push_size _ rfl, rfl, rfl⟩ (ht.push _) (by omega) fun h₁ hit₁ hs₁ => ?_))
 have hl : (List.take n (List.drop 0 items.toList)).length = n := by simp; omega
 rw [if_neg (by rw [hl]; omega)]
 have ht₁ : h₁.IsList t items := (ht.push _).extBut hs₁.extBut hlt
 rw [Nat.zero_add] at hit₁
 have hk1 : ∀ b o, s.heap.get? b = some o → h₁.get? b = some o := fun b o e => hs₁.extBut b o (Nat.ne_of_lt (Heap.lt_size e)) (Heap.get?_push_of_some _ e)
 have hsz : s.heap.objs.size < h₁.objs.size := by obtain ⟨o, ho, _⟩ := hit₁; exact Heap.lt_size ho
 refine wpAny_bind (wpAny_holding (wpAny_collect_iter (T := "list_iterator") (by first | exact .inl rfl | exact .inr (.inl rfl) | exact .inr (.inr (.inl rfl)) | exact .inr (.inr (.inr rfl))) (FA (A := A.in1) hh s.heap.objs.size t hlt items n hn).toS (fun i s' st => Heap.IsListIter.typeIs st.1) ⟨by rw [Nat.add_zero]; exact hit₁, ht₁⟩ (fun b hb => ?_) (by simp) (fun s' acc mv hi => ?_) (by omega)))
 ·simp only [au, bg, or_false] at hb
  rcases hb with rfl | rfl
  ·exact hsz
  ·exact Nat.lt_trans hltt hsz
 have ha : acc.toList = items.toList.drop n := by
  refine List.ext_getElem? fun i => ?_
  rw [List.getElem?_drop, Array.getElem?_toList, Array.getElem?_toList]
  by_cases h : i < acc.size
  ·obtain ⟨v, hv⟩ : ∃ v, acc[i]? = some v := ⟨acc[i], by simp [h]⟩
   rw [hv, hi.2 i v hv]
  ·have h1 := hi.1
   rw [Array.getElem?_eq_none (by omega), Array.getElem?_eq_none (by omega)]
 rw [ha]
 have hm : n + 1 - 1 - n = 0 := by omega
 simp only [hm, Nat.sub_zero, Nat.not_lt_zero, ab]
 rw [List.take_of_length_le (az _), List.drop_of_length_le (az _)]
 refine wpAny_bind (wpAny_newList ?_ (by simp; omega))
 refine wpAny_pure ?_
 rw [List.append_nil, List.drop_zero]
 have hk2 : ∀ b o, s.heap.get? b = some o → s'.heap.get? b = some o := fun b o e => mv.heap b o (fun hb => absurd (Heap.lt_size e) (by rw [bh.mp hb]; exact Nat.lt_irrefl _)) (hk1 b o e)
 have := hQ s'.heap s'.toks hk2
 obtain ⟨hp, g, d, tk, os⟩ := s'
 have h1 : g = s.gens := mv.gens
 have h2 : d = s.drawn := mv.drawn
 have h3 : os = s.os := mv.os
 subst h1
 subst h2
 subst h3
 exact this
end
section
variable {X : Cx} {pos : Pos}
def XQ (K : PySem.W.Frag) (n : Nat) (t : TGs) : TG := fun v σ H Q => ∃ a xs, v = .ref a ∧ SqL K H a xs ∧ n ≤ xs.length ∧ xs.length ≤ sizeLine ∧ ∀ q, H q = none → t (xs.take n ++ [.ref q]) σ (upd H q (.lst (xs.drop n))) Q
theorem UD {es : List Expr} {k : Nat} {t : TGs} {n : Nat} (hc : X.calm = true) (h : PGs X es t)
  (hn : (assignEach es X.env).length = n + 1) (hst : (assignEach es X.env).findIdx? (·.1) = some n) : PG X (.Tuple es k pos) (XQ X.K n t) := by
 refine ⟨fun pins s σ H v u Q I r hw => ?_⟩
 obtain ⟨a, xs, e1, hq, hl, hz, hw⟩ := hw
 subst e1
 cases r
 obtain ⟨its, rv, ⟨o, n0, ho, hcl, _, hd⟩, hz'⟩ := I.list hq
 have ht : s.heap.IsList a its.toArray := ⟨o, ho, hcl, n0, hd⟩
 rw [assign_Tuple]
 refine wpAny_bind (wpAny_standAt ?_)
 unfold unpack
 rw [hn, hst]
 refine wpAny_bind (wpAny_holding (A7 (I.ok.hd hc) ht (by simp [← rv.length]; exact hl) (by simp [← rv.length]; exact hz) fun h' tk hx => ?_))
 have I1 : Inv X pins σ H { s with heap := h', toks := tk } := I.kept (t' := tk) hx
 have hf : H h'.objs.size = none := I1.hok.fresh (az _)
 have I2 : Inv X pins σ (upd H h'.objs.size (.lst (xs.drop n))) { s with heap := h'.push { cls := .type "list", data := .seq (its.drop n).toArray }, toks := tk } :=
  I1.laid (t' := tk) (fun b u e => Heap.get?_push_of_some _ e) (az _) ⟨by simp; omega, its.drop n, 0, rv.drop n, Heap.get?_push_size _ rfl⟩
 have vr : Vals (xs.take n ++ [.ref h'.objs.size]) (its.take n ++ [.ref h'.objs.size]) := (rv.take n).append (.cons rfl .nil)
 exact h.run pins _ σ _ _ _ Q I2 (by simpa using vr) (hw _ hf)
end
end L2
namespace Pc
open PySem PySem.Spec PyProof.Rows L2
def wD (n : Nat) (r : IV) : MG := fun d σ w => match d with
 | .lst xs => if n ≤ xs.length ∧ xs.length ≤ sizeLine then r (xs.take n ++ [.lst (xs.drop n)]) σ w else .bad
 | _ => .bad
section
variable {S : aM} {pos pos' : Pos} {e : Expr} {es : List Expr} {g : MG} {r : IV}
theorem WL {k n : Nat} (h : JGs S es r) (hn : ∀ env : Env, (assignEach es env).length = n + 1 := by intro _; rfl) (hst : ∀ env : Env, (assignEach es env).findIdx? (·.1) = some n := by intro _; rfl) : JG S (.Tuple es k pos) (wD n r) := fun X E cx xo =>
 oW (UD cx.calm (h X E cx xo) (hn X.env) (hst X.env)) fun v σ H Q ⟨I, F, G, d, ds, w, rel, rs, rv, p⟩ => by
  simp only [wD] at p
  split at p
  ·rename_i xs
   simp only [aG] at rv
   obtain ⟨a, vs, rfl, h1, h2⟩ := rv
   split at p
   ·rename_i hl
    refine ⟨a, vs, rfl, .of (rel.fz _ _ h1), by rw [← h2.length]; exact hl.1, by rw [← h2.length]; exact hl.2, fun q hq => ?_⟩
    have hd := h2.drop n
    obtain ⟨I', F', e1, rel1, rl⟩ := iQ (E := E) (w := w) (Q := fun v H' => ∃ I' F', Ext I F I' F' ∧ Rel X.K I' F' G w H' ∧ aG X.K I' F' (.lst (xs.drop n)) v) rel hd (fun I' F' H' e1 rel' v rv => ⟨I', F', e1, rel', rv⟩) q hq
    exact ⟨I', F', G, _, ds, w, rel1, rs.ext e1, ((h2.take n).ext e1).append (RepL.cons rl (by simp [RepL])), p.ext e1⟩
   ·exact p.elim
  ·exact p.elim
end
def BF : RM := fun d ds w => match d, ds with
 | .str a, [.str b] => if (b.length == 0) = false ∧ a.length ≤ sizeLine then .ok (.tup [.str (Txt.partition a b).1, .str (Txt.partition a b).2.1, .str (Txt.partition a b).2.2]) w else .bad
 | _, _ => .bad
theorem X7 {S : aM} : MB S "str.partition" BF := CO fun X E c xo I F G d ds w H x vs Q rel rd rl p => by
 unfold BF at p
 split at p
 ·rename_i a b
  simp only [aG] at rd
  subst rd
  obtain ⟨v, rfl, rv⟩ := rl.one
  simp only [aG] at rv
  subst rv
  split at p
  ·rename_i hz
   exact ⟨_, mt_partition, a, b, rfl, rfl, hz.1, hz.2, u9 rel (BR [_, _, _]) p⟩
  ·exact p.elim
 ·exact p.elim
theorem S9 {P : Program} {w : World} {K : PySem.W.Frag} {mg mb : Str → Option Value} {k : Nat} {fa a : Addr} {fd : FuncData} {x : Str} {m : MF} {s : Shared} {ns : List Int} (H : Hp)
  (kin : K.In s.heap) (glo : s.heap.Ns mainGlobals mg) (blt : s.heap.Ns builtinsNs mb) (boot : ∀ y : Str, y ≠ "__name__" → mb y = bootBuiltins y) (free : s.heap.NoLimit) (gens : s.gens = #[]) (room : Room k callerA)
  (prom : ∀ base : Heap, K.In base → base.Ns mainGlobals mg → eR P w K mg base k fa fd [x] m) (bind : ∀ (t : Shared) (u : Value), BindsTo t fd ⟨[u], []⟩ [(x, u)]) (w' : W) (good : m [.mH (ns.map D.int)] [] = .ok (.bl true) w')
  (only : Only H) (held : SqL K H a (ns.map V.int)) (ok : HOk P w H s.heap) (nod : ∀ b o, s.heap.get? b = some o → H b ≠ none → ∀ es ep, o.data ≠ .dict es ep) (nok : ∀ b, H b ≠ none → K.lookup b = none) :
  codeAny (model P w) callerA (.call (.ref fa) ⟨[.ref a], []⟩) (fun r t => r = .ok (.ret (.bool true)) ∧ OldK s.heap t.heap ∧ t.os = s.os ∧ AllBare t.gens) s := by
 have low : ∀ {b : Addr} {o : Obj}, s.heap.get? b = some o → H b = none → (hidT s.heap H).get? b = some o := hidT_get
 have dicts : ∀ {b : Addr} {f : Str → Option Value}, s.heap.Ns b f → (hidT s.heap H).Ns b f := by
  rintro b f ⟨o, es, ep, h1, h2, h3⟩
  refine ⟨o, es, ep, low h1 ?_, h2, h3⟩
  by_cases q : H b = none
  ·exact q
  ·exact absurd h2 (nod b o h1 q es ep)
 have kb : K.In (hidT s.heap H) := fun b o h => low (kin b o h) (by
  by_cases q : H b = none
  ·exact q
  ·rw [nok b q] at h; cases h)
 obtain ⟨mc, c1, c2⟩ := free
 have e0 : Env0 P w K mg (hidT s.heap H) callerA [] s H := {
  frames := rfl
  mod := ⟨kb, dicts glo, ⟨mb, dicts blt, boot⟩, ⟨mc, dicts c1, c2⟩⟩
  bs := fun b o h => of_hidT h
  bsz := Nat.le_of_eq (hidT_size _ _)
  funs := trivial
  frf := fun b hb => by simp [frs] at hb
  hok := ok
  bare := .of_eq gens }
 have rel : Rel K [] H (fun _ => none) [] H := ⟨rfl, List.nodup_nil, fun i b o h => by simp at h, fun _ _ h => h, fun i b o h => by simp at h, fun _ _ h => (by cases h), fun _ _ h => (by cases h), fun _ _ h => (by cases h)⟩
 have sp : spM K m [V.ref a] H (fun v _ => v = .bl true) fun _ _ _ => False := by
  refine ⟨[], H, fun _ => none, [.mH (ns.map D.int)], [], rel, RepL.cons ?_ (by simp [RepL]), ?_⟩
  ·simp only [aG]; exact ⟨a, _, rfl, held, RepL.ints ns⟩
  ·rw [good]
   intro I' F' H' _ _ v rv
   simpa only [aG] using rv
 refine codeAny_mono ((prom _ kb (dicts glo)).run callerA [] s H ⟨[.ref a], []⟩ [.ref a] [.ref a] _ _ room rfl e0 (bind s (.ref a)) (.cons rfl .nil) rfl sp) fun r t h => ?_
 match r, h with
 | .error e, h =>
  obtain ⟨_, _, _, _, _, h⟩ := h
  simp at h
 | .ok (.ret u), h =>
  obtain ⟨v, H2, h1, h2, h3, h4, h5, h6⟩ := h
  subst h6
  obtain rfl : u = Value.bool true := h5
  refine ⟨rfl, OldK.of_keep fun b o hb => ?_, h1, h2⟩
  rcases only b with q | ⟨ob, xs, q⟩
  ·exact h3.keep b o hb q (by intro z; simp [frs] at z) (by simp)
  ·obtain ⟨g1, _⟩ := ok b _ q
   obtain ⟨g2, _⟩ := h4 b _ (h3.frzs b ob _ q)
   rw [hb] at g1; cases g1
   exact g2
 | .ok .next, h => exact h.elim
 | .ok .brk, h => exact h.elim
 | .ok .cont, h => exact h.elim
theorem TK {P : Program} {w : World} {K : PySem.W.Frag} {mg mb : Str → Option Value} {k : Nat} {fa a : Addr} {fd : FuncData} {x : Str} {m : MF} {s : Shared} {us : List Value} {ns : List Int}
  (kin : K.In s.heap) (glo : s.heap.Ns mainGlobals mg) (blt : s.heap.Ns builtinsNs mb) (boot : ∀ y : Str, y ≠ "__name__" → mb y = bootBuiltins y) (free : s.heap.NoLimit) (gens : s.gens = #[]) (room : Room k callerA)
  (laid : s.heap.get? a = some { cls := .type "list", data := .seq us.toArray }) (nums : IntsAre us ns) (few : ns.length ≤ sizeLine)
  (prom : ∀ base : Heap, K.In base → base.Ns mainGlobals mg → eR P w K mg base k fa fd [x] m) (bind : ∀ (t : Shared) (u : Value), BindsTo t fd ⟨[u], []⟩ [(x, u)]) (w' : W) (good : m [.mH (ns.map D.int)] [] = .ok (.bl true) w') :
  codeAny (model P w) callerA (.call (.ref fa) ⟨[.ref a], []⟩) (fun r t => r = .ok (.ret (.bool true)) ∧ OldK s.heap t.heap ∧ t.os = s.os ∧ AllBare t.gens) s := by
 have vals := vals_ints nums
 cases hk : K.lookup a with
 | some o =>
  have h := kin a o hk
  rw [laid] at h
  cases h
  refine S9 (fun _ => none) kin glo blt boot free gens room prom bind w' good (fun _ => .inl rfl) (.inr ⟨_, us.toArray, _, hk, rfl, rfl, rfl, ?_, by simpa using vals⟩) (fun _ _ h => by cases h) (fun _ _ _ h => absurd rfl h) fun _ h => absurd rfl h
  rw [List.size_toArray]; have := nums.length; omega
 | none =>
  let ob : Obj := { cls := .type "list", data := .seq us.toArray }
  let H : Hp := fun b => if b = a then some (.frz ob (.lst (ns.map V.int))) else none
  have at1 : H a = some (.frz ob (.lst (ns.map V.int))) := if_pos rfl
  have at2 : ∀ {b : Addr}, H b ≠ none → b = a := fun {b} h => by
   by_cases e : b = a
   ·exact e
   ·exact absurd (if_neg e) h
  refine S9 H kin glo blt boot free gens room prom bind w' good (fun b => ?_) (.inl (.inr ⟨ob, at1⟩)) (fun b u h => ?_) (fun b o h hb es ep hd => ?_) fun b hb => by rw [at2 hb]; exact hk
  ·by_cases e : b = a
   ·exact .inr ⟨ob, _, if_pos e⟩
   ·exact .inl (if_neg e)
  ·obtain rfl := at2 (b := b) (by rw [h]; simp)
   rw [at1] at h
   cases h
   exact ⟨laid, by rw [ay]; exact few, us, _, vals, laid⟩
  ·obtain rfl := at2 hb
   rw [laid] at h
   cases h
   cases hd
theorem TX {l : PySem.W.OpenLaw} {n k : Nat} {q : Program} {loose : List Str} {XP : (Str → Option Value) → Heap → Prop} {YP : World → Heap → Prop} {d : DefRec} {x : Str}
  (hn : l.most = some n) (hn2 : n ≤ sizeLine) (hdf : d.params.defaults = []) (hr : Room k callerA)
  (F : ∀ (w : World) (mg : Str → Option Value) (fa : Addr) (h : Heap), YP w h → h.Ns mainGlobals mg → mg d.name = some (.ref fa) →
   ∃ (K : PySem.W.Frag) (fd : FuncData) (m : MF), K.In h ∧ (∀ (s : Shared) (u : Value), BindsTo s fd ⟨[u], []⟩ [(x, u)]) ∧ (∀ ns : List Int, ns.length ≤ n → ∃ w', m [.mH (ns.map D.int)] [] = .ok (.bl true) w') ∧
    ∀ base : Heap, K.In base → base.Ns mainGlobals mg → eR l.prog w K mg base k fa fd [x] m) :
  PySem.W.WalkO q loose XP YP l.row.toRowW d [] (fun f vs => PySem.call f vs) :=
 Att.attach_call hn hdf fun w _ s mg _ fa _ _ _ _ _ us ns G Y _ _ _ hmg laid nums few gens => by
  obtain ⟨K, fd, m, kin, bind, good, prom⟩ := F w mg fa _ Y G.T.g hmg
  obtain ⟨w', hw⟩ := good ns few
  exact TK kin G.T.g G.T.b G.T.builtins G.T.nolimit gens hr laid nums (br few hn2) prom bind w' hw
end Pc
namespace K64
open PySem PySem.Spec PyProof.Rows L2 Pc
def top (i : Nat) : Stmt := PySem.Challenge.pw_onemaster_k64_stories_written_and_read.main.body.getD i (.Pass ⟨0, 0, 0, 0⟩)
structure a6 where
 dI : Addr
 zz : Unit := ()
def bQ : List (Str × Option D) := [(("fall" : Str), some (.int 1)), (("stop" : Str), some (.int 1)), (("rise" : Str), some (.int 1)), (("down" : Str), some (.int 1)), (("up" : Str), some (.int 1)), (("rank" : Str), some (.int 3)), (("heal" : Str), some (.int 0)), (("ask" : Str), some (.int 2))]
end K64
set_option maxHeartbeats 0
namespace K64H
open PySem PySem.Spec PyProof.Rows L2 Pc K64
def p6 : He.DefD := ⟨("_law_deck", none), "_law_deck", "_law_deck", defArgs (top 34), defBody (top 34), defScope (top 34), [], []⟩
def qW : He.DefD := ⟨("_law_draw", none), "_law_draw", "_law_draw", defArgs (top 35), defBody (top 35), defScope (top 35), [], []⟩
def kK : He.DefD := ⟨("_law_act_text", none), "_law_act_text", "_law_act_text", defArgs (top 42), defBody (top 42), defScope (top 42), [], []⟩
def jC : He.DefD := ⟨("_law_turn_text", none), "_law_turn_text", "_law_turn_text", defArgs (top 43), defBody (top 43), defScope (top 43), [], []⟩
def iB : He.DefD := ⟨("_law_story_text", none), "_law_story_text", "_law_story_text", defArgs (top 44), defBody (top 44), defScope (top 44), [], []⟩
def sY : He.DefD := ⟨("is_whole", none), "is_whole", "is_whole", defArgs (top 4), defBody (top 4), defScope (top 4), [], []⟩
def qB : He.DefD := ⟨("is_within", none), "is_within", "is_within", defArgs (top 5), defBody (top 5), defScope (top 5), [], []⟩
def nP : He.DefD := ⟨("are_numbers", none), "are_numbers", "are_numbers", defArgs (top 17), defBody (top 17), defScope (top 17), [], []⟩
def wK : He.DefD := ⟨("is_fate", none), "is_fate", "is_fate", defArgs (top 20), defBody (top 20), defScope (top 20), [], []⟩
def qV : He.DefD := ⟨("is_rising", none), "is_rising", "is_rising", defArgs (top 18), defBody (top 18), defScope (top 18), [], []⟩
def v8 : He.DefD := ⟨("is_form", none), "is_form", "is_form", defArgs (top 19), defBody (top 19), defScope (top 19), [], []⟩
def vW : He.DefD := ⟨("is_turn", none), "is_turn", "is_turn", defArgs (top 21), defBody (top 21), defScope (top 21), [], []⟩
def t4 : He.DefD := ⟨("is_story", none), "is_story", "is_story", defArgs (top 22), defBody (top 22), defScope (top 22), [], []⟩
def jV : He.DefD := ⟨("number_in", none), "number_in", "number_in", defArgs (top 27), defBody (top 27), defScope (top 27), [], []⟩
def fS : He.DefD := ⟨("numbers_in", none), "numbers_in", "numbers_in", defArgs (top 28), defBody (top 28), defScope (top 28), [], []⟩
def jY : He.DefD := ⟨("listed_in", none), "listed_in", "listed_in", defArgs (top 29), defBody (top 29), defScope (top 29), [], []⟩
def oH : He.DefD := ⟨("deed_in", none), "deed_in", "deed_in", defArgs (top 30), defBody (top 30), defScope (top 30), [], []⟩
def oF : He.DefD := ⟨("turn_in", none), "turn_in", "turn_in", defArgs (top 31), defBody (top 31), defScope (top 31), [], []⟩
def pL : He.DefD := ⟨("read_story", none), "read_story", "read_story", defArgs (top 32), defBody (top 32), defScope (top 32), [], []⟩
def CA : He.DefD := ⟨("joined", none), "joined", "joined", defArgs (top 23), defBody (top 23), defScope (top 23), [], []⟩
def j0 : He.DefD := ⟨("show_deed", none), "show_deed", "show_deed", defArgs (top 24), defBody (top 24), defScope (top 24), [], []⟩
def jZ : He.DefD := ⟨("show_turn", none), "show_turn", "show_turn", defArgs (top 25), defBody (top 25), defScope (top 25), [], []⟩
def dO : He.DefD := ⟨("show_story", none), "show_story", "show_story", defArgs (top 26), defBody (top 26), defScope (top 26), [], []⟩
def o9 : He.DefD := ⟨("_law_right", none), "_law_right", "_law_right", defArgs (top 45), defBody (top 45), defScope (top 45), [], []⟩
def nA : He.DefD := ⟨("_law_number", none), "_law_number", "_law_number", defArgs (top 37), defBody (top 37), defScope (top 37), [], []⟩
def tM : He.DefD := ⟨("_law_lot", none), "_law_lot", "_law_lot", defArgs (top 38), defBody (top 38), defScope (top 38), [], []⟩
def rH : He.DefD := ⟨("_law_pick", none), "_law_pick", "_law_pick", defArgs (top 36), defBody (top 36), defScope (top 36), [], []⟩
def t7 : He.DefD := ⟨("_law_act", none), "_law_act", "_law_act", defArgs (top 39), defBody (top 39), defScope (top 39), [], []⟩
def qS : He.DefD := ⟨("_law_turn", none), "_law_turn", "_law_turn", defArgs (top 40), defBody (top 40), defScope (top 40), [], []⟩
def oU : He.DefD := ⟨("_law_story", none), "_law_story", "_law_story", defArgs (top 41), defBody (top 41), defScope (top 41), [], []⟩
def WC : He.DefD := ⟨("law", none), "law", "law", defArgs (top 46), defBody (top 46), defScope (top 46), [], []⟩
def fn : List He.DefD := [p6, qW, kK, jC, iB, sY, qB, nP, wK, qV, v8, vW, t4, jV, fS, jY, oH, oF, pL, CA, j0, jZ, dO, o9, nA, tM, rH, t7, qS, oU, WC]
def fa : List He.Fa := [.free "all", .free "bool", .free "enumerate", .free "int", .free "isinstance", .free "len", .free "list", .free "range", .free "repr", .free "set", .free "sorted", .free "str", .free "sum", .free "tuple", .free "zip", .glo "_law_deck", .glo "_law_draw", .glo "_law_act_text", .glo "_law_turn_text", .glo "_law_story_text", .glo "is_whole", .glo "is_within", .glo "are_numbers", .glo "is_fate", .glo "is_rising", .glo "is_form", .glo "is_turn", .glo "is_story", .glo "number_in", .glo "numbers_in", .glo "listed_in", .glo "deed_in", .glo "turn_in", .glo "read_story", .glo "joined", .glo "show_deed", .glo "show_turn", .glo "show_story", .glo "_law_right", .glo "_law_number", .glo "_law_lot", .glo "_law_pick", .glo "_law_act", .glo "_law_turn", .glo "_law_story", .glo "law", .glo "FORMS"]
def ts : List He.Tab := [((fun K => He.ga K "FORMS"), [("fall" : Str), ("stop" : Str), ("rise" : Str), ("down" : Str), ("up" : Str), ("rank" : Str), ("heal" : Str), ("ask" : Str)])]
def exl (K : PySem.W.Frag) : List Bool := [BN K "AHEAD_OF_FATES" (.str (" ! " : Str)), BN K "BETWEEN_DEEDS" (.str (" ; " : Str)), BN K "BETWEEN_FATES" (.str (" , " : Str)), BN K "FIGURES" (.str ("0123456789" : Str)), BN K "LONGEST" (.int 3), BN K "MOST_NUMBER" (.int 999), BN K "NONE" (.str ("-" : Str)), BN K "OF_A_FATE" (.int 4), BN K "TEAR" (.str ("tear" : Str)), TV K (He.ga K "FORMS") bQ, aAm K]
def ex (K : PySem.W.Frag) : Bool := (exl K).all id
theorem rC {K : PySem.W.Frag} (h : ex K = true) (i : Nat) {b : Bool} (hi : (exl K)[i]? = some b) : b = true := by
 unfold ex at h
 rw [ao] at h
 exact h b (cc hi)
def loose : List PySem.Str := (["NetError", "NoText", "is_whole", "is_within", "MOST_NUMBER", "FIGURES", "LONGEST", "NONE", "BETWEEN_DEEDS", "BETWEEN_FATES", "AHEAD_OF_FATES", "TEAR", "OF_A_FATE", "FORMS", "are_numbers", "is_rising", "is_form", "is_fate", "is_turn", "is_story", "joined", "show_deed", "show_turn", "show_story", "number_in", "numbers_in", "listed_in", "deed_in", "turn_in", "read_story"] : List PySem.Str) ++ (["_law_deck", "_law_draw", "_law_pick", "_law_number", "_law_lot", "_law_act", "_law_turn", "_law_story", "_law_act_text", "_law_turn_text", "_law_story_text", "_law_right"] : List PySem.Str)
abbrev R : PySem.W.OpenRow := PySem.W.OpenLaw.row PySem.Challenge.rw_onemaster_k64_stories_written_and_read
def as : List Nat := ([3, 6, 4, 24, 44, 53, 60, 61, 66, 71, 78, 85, 90, 95, 100, 105, 110, 115, 120, 125, 132, 137, 142, 149, 156, 163, 170, 177, 182, 187, 192, 197, 202, 207, 212, 219, 224, 0, 23, 43, 52, 59, 65, 70, 77, 84, 89, 94, 99, 104, 109, 114, 119, 124, 131, 136, 141, 148, 155, 162] : List Nat) ++ ([169, 176, 181, 186, 191, 196, 201, 206, 211, 218, 223, 22, 25, 41, 42, 47, 49, 50, 51, 54, 56, 57, 58, 62, 64, 67, 69, 72, 74, 75, 76, 79, 81, 82, 83, 86, 88, 91, 93, 96, 98, 101, 103, 106, 108, 111, 113, 116, 118, 121, 123, 126, 128, 129, 130, 133, 135, 138, 140, 143] : List Nat) ++ ([145, 146, 147, 150, 152, 153, 154, 157, 159, 160, 161, 164, 166, 167, 168, 171, 173, 174, 175, 178, 180, 183, 185, 188, 190, 193, 195, 198, 200, 203, 205, 208, 210, 213, 215, 216, 217, 220, 222, 40, 35, 37, 38, 39, 2, 1] : List Nat)
abbrev hk : PySem.W.Hook := He.Z3 as fa fn ts ex
def ob (s : PySem.W.SharedT) : He.AlY := He.XR as fa fn ts ex (HandSHeadRun.getT s)
theorem aB3 (s : PySem.W.SharedT) : ob s = hk.obs s.abs := He.ZI (HandSHeadRun.getT_eq s)
open PySem PySem.W PySem.Calls PyProof.Rows HandSHeadRun in
abbrev eF (w : World) (os : OsState) : Option SharedT := endF (stepQ (denQ tabQ) R.prog w) 8000 R.prog w os
open PySem PySem.W PySem.Calls PyProof.Rows in
theorem KJ (w : World) (os : OsState) : (eF (w.withFollow "special-get-raises" false) os).map (fun s => (HandSHeadRun.looksF R.prog (boot_heap (w.withFollow "special-get-raises" false).params) s.abs, HandSHeadRun.seenQ (PySem.W.view R.prog [46]) loose (importedModules R.prog.main.body) (fun s => xlAt (PySem.W.view R.prog [46]) [] s && recOk R.toRowW.records s) s.abs)) = some (true, openGood (PySem.W.view R.prog [46]) loose) := by
 kernel_rfl
open PySem PySem.W PySem.Calls PyProof.Rows in
theorem M6 (w : World) (os : OsState) : (eF (w.withFollow "special-get-raises" false) os).map (ob) = some (hk.val (w.withFollow "special-get-raises" false)) := by
 kernel_rfl
theorem R4 (w : World) : HandSHeadRun.RunEq R (PySem.W.view R.prog [46]) hk ob 8000 loose (w.withFollow "special-get-raises" false) := fun os => He.aAg (KJ w os) (M6 w os)
open PySem PySem.W PySem.Calls PyProof.Rows in
theorem OQ (w : World) (os : OsState) : (eF (w.withFollow "special-get-raises" true) os).map (fun s => (HandSHeadRun.looksF R.prog (boot_heap (w.withFollow "special-get-raises" true).params) s.abs, HandSHeadRun.seenQ (PySem.W.view R.prog [46]) loose (importedModules R.prog.main.body) (fun s => xlAt (PySem.W.view R.prog [46]) [] s && recOk R.toRowW.records s) s.abs)) = some (true, openGood (PySem.W.view R.prog [46]) loose) := by
 kernel_rfl
open PySem PySem.W PySem.Calls PyProof.Rows in
theorem RN (w : World) (os : OsState) : (eF (w.withFollow "special-get-raises" true) os).map (ob) = some (hk.val (w.withFollow "special-get-raises" true)) := by
 kernel_rfl
theorem WD (w : World) : HandSHeadRun.RunEq R (PySem.W.view R.prog [46]) hk ob 8000 loose (w.withFollow "special-get-raises" true) := fun os => He.aAg (OQ w os) (RN w os)
theorem run (w : World) : HandSHeadRun.RunEq R (PySem.W.view R.prog [46]) hk ob 8000 loose w := PySem.W.byRow2 "special-get-raises" (P := fun w => HandSHeadRun.RunEq R (PySem.W.view R.prog [46]) hk ob 8000 loose w) R4 WD w
section
 open PySem PySem.W PySem.Calls PyProof.Rows
def early : { E : Prop // E → PySem.Challenge.rw_onemaster_k64_stories_written_and_read.Holds } := ⟨_, fun hc => by
 w_on; o_law
 refine HandSHeadRun.head_any (r := OpenLaw.row PySem.Challenge.rw_onemaster_k64_stories_written_and_read) (q := view (OpenLaw.row PySem.Challenge.rw_onemaster_k64_stories_written_and_read).prog [46]) (H := hk) (ob := ob) (M := 8000) (loose := loose) (d := HandSHeadRun.topDef (OpenLaw.row PySem.Challenge.rw_onemaster_k64_stories_written_and_read).prog 46) (kwd := []) aB3
  (by kernel_rfl) (fun s => by kernel_rfl) run (by kernel_rfl) (by kernel_rfl) (by kernel_rfl) (by rfl) (by first | assumption | decide +kernel) (by decide +kernel) ⟨rfl, rfl, rfl, rfl, rfl, by decide +kernel⟩ ?hw ?hc
 case hw => w_witness2
 case hc => exact hc⟩
end
end K64H
set_option maxHeartbeats 4000000
namespace Pc
open PySem PySem.Spec PyProof.Rows L2
def q9 (w : W) (d c : Nat) : Prop := d ≠ c ∧ ∃ (cells : List Int) (sm n : Int), w[d]? = some (.lst [.ref c, .int sm, .int n]) ∧ w[c]? = some (.lst (cells.map .int)) ∧ cells.length ≤ 63
def Kept (w w' : W) (d c : Nat) : Prop := w'.length = w.length ∧ ∀ i, i ≠ d → i ≠ c → w'[i]? = w[i]?
theorem KP : ∀ cells : List Int, PyData.canLayAll0 (cells.map PyData.int) = true
 | [] => rfl
 | x :: xs => by simp [PyData.canLayAll0, PyData.canLay0, KP xs]
theorem LW : ∀ cells : List Int, PyData.depthAll (cells.map PyData.int) ≤ 1
 | [] => by simp [PyData.depthAll]
 | x :: xs => by
  have := LW xs
  simp only [List.map_cons, PyData.depthAll, PyData.depth]
  omega
theorem lay_ints (cells : List Int) : SeqAt.shaped (.list (cells.map PyData.int)) = true := by
 have h1 := KP cells
 have h2 := LW cells
 unfold SeqAt.shaped
 simp [PyData.canLay0, PyData.depth, h1]
 omega
theorem WH (f : Nat → Option PyData) (cells : List Int) : D.pysR f (cells.map D.int) = some (cells.map PyData.int) := by
 induction cells with
 | nil => rfl
 | cons x xs ih => simp [D.pysR, D.eS, ih]
theorem aAW {w : W} {c : Nat} {cells : List Int} (h : w[c]? = some (.lst (cells.map D.int))) : D.py w (.ref c) = some (.list (cells.map PyData.int)) := by
 show OZ 8 w c = _
 simp [OZ, h, WH]
theorem ne_nil {w : W} {c : Nat} {cells : List Int} (h : w[c]? = some (.lst (cells.map D.int))) : mS (.ref c) (.lst []) w = .ok (.bl (!cells.isEmpty)) w := by
 unfold mS zQ sV
 rw [aAW h]
 have e : D.py w (.lst []) = some (.list []) := rfl
 rw [e]
 have l2 : SeqAt.shaped (.list []) = true := lay_ints []
 simp only [lay_ints, l2, and_self, ae]
 cases cells <;> simp [PyData.eqv, PyData.eqvAll]
@[irreducible] def T {α : Type} (r : Res α) (P : α → W → Prop) : Prop := match r with
 | .ok a w => P a w
 | _ => False
section
variable {α β : Type} {P Q : α → W → Prop} {r : Res α}
theorem T.ex (h : T r P) : ∃ a w, r = .ok a w ∧ P a w := by
 unfold T at h
 cases r with
 | ok a w => exact ⟨a, w, rfl, h⟩
 | E5 x w => exact h.elim
 | bad => exact h.elim
theorem T.of {a : α} {w : W} (h : r = .ok a w) (p : P a w) : T r P := by unfold T; rw [h]; exact p
theorem T.mono (h : T r P) (k : ∀ a w, r = .ok a w → P a w → Q a w) : T r Q := by
 obtain ⟨a, w, e, p⟩ := h.ex
 exact T.of e (k a w e p)
theorem b0 {a : α} {w : W} : T (.ok a w) P = P a w := by unfold T; rfl
theorem bC {r : Res α} {f : α → W → Res β} {P : β → W → Prop} : T (r.bind f) P = T r fun a w => T (f a w) P := by cases r <;> (first | rfl | (unfold T; rfl) | (unfold Then; rfl))
theorem U2 : T r.SV P = T r P := by cases r <;> (first | rfl | (unfold T; rfl) | (unfold Then; rfl))
theorem E3 {c : Prop} [Decidable c] {a b : Res α} : T (if c then a else b) P = (if c then T a P else T b P) := by split <;> (first | rfl | (unfold T; rfl) | (unfold Then; rfl))
theorem cP {c : Prop} [Decidable c] {a : Res α} : T (if c then a else .bad) P = (c ∧ T a P) := by
 by_cases h : c
 ·rw [if_pos h]; exact propext ⟨fun z => ⟨h, z⟩, fun z => z.2⟩
 ·rw [if_neg h]; exact propext ⟨fun z => by unfold T at z; exact z.elim, fun z => absurd z.1 h⟩
end
section
variable {σ : Sg} {w : W} {P : D → W → Prop} {PA : List D → W → Prop} {PB : Bool → W → Prop} {PF : Fl → W → Prop} {a b c : ME} {ma mk : MA} {ta tb : MT} {sa sb : MS} {g : MG} {gs : IV} {f : D → D → W → Res D} {d x y : D}
theorem T_C : T (eC d σ w) P = P d w := by unfold T; rfl
theorem T_V {i : Nat} : T (aB i σ w) P = (match σ[i]? with
 | some (some d) => P d w
 | _ => False) := by
 unfold aB
 cases h : σ[i]? with
 | none => unfold T; rfl
 | some o => cases o <;> (first | rfl | (unfold T; rfl) | (unfold Then; rfl))
theorem aCx : T (aD f a b σ w) P = T (a σ w) fun x w1 => T (b σ w1) fun y w2 => T (f x y w2) P := by unfold aD; simp only [bC]
theorem aDE {f : D → W → Res D} : T (zN f a σ w) P = T (a σ w) fun x w1 => T (f x w1) P := by unfold zN; simp only [bC]
theorem aCk : T (fK a b σ w) P = T (a σ w) fun x w1 => T (eN x w1) fun c _ => if c = true then T (b σ w1) P else P x w1 := by unfold fK; simp only [bC, E3, b0]
theorem aDM : T (eOr a b σ w) P = T (a σ w) fun x w1 => T (eN x w1) fun c _ => if c = true then P x w1 else T (b σ w1) P := by unfold eOr; simp only [bC, E3, b0]
theorem aDx : T (wW ta a b σ w) P = T (ta σ w) fun c w1 => if c = true then T (a σ w1) P else T (b σ w1) P := by unfold wW; simp only [bC, E3]
theorem NV : T (aC σ w) PA = PA [] w := by unfold T; rfl
theorem HL : T (aA a ma σ w) PA = T (a σ w) fun x w1 => T (ma σ w1) fun xs w2 => PA (x :: xs) w2 := by unfold aA; simp only [bC, b0]
theorem aCR : T (a8 ma σ w) P = T (ma σ w) fun xs w1 => xs.length ≤ sizeLine ∧ P (.tup xs) w1 := by unfold a8; simp only [bC, cP, b0]
theorem aCX : T (i3 ma σ w) P = T (ma σ w) fun xs w1 => xs.length ≤ sizeLine ∧ P (.lst xs) w1 := by unfold i3; simp only [bC, cP, b0]
theorem aC5 : T (eNew ma σ w) P = T (ma σ w) fun xs w1 => xs.length ≤ sizeLine ∧ P (.ref w1.length) (w1 ++ [.lst xs]) := by unfold eNew; simp only [bC, cP, b0]
theorem aB6 {m : MF} : T (aL m ma σ w) P = T (ma σ w) fun xs w1 => T (m xs w1) P := by unfold aL; simp only [bC]
theorem aBs {t : String} {m : RM} : T (bA t m a ma σ w) P = T (a σ w) fun d w1 => W7 d w1 = some t ∧ T (ma σ w1) fun xs w2 => T (m d xs w2) P := by unfold bA; simp only [bC, cP]
theorem aBd {m : MF} {n : Nat} {gd : List D → List D → List D} : T (aI m n gd ma σ w) P = T (ma σ w) fun xs w1 => xs.length = n ∧ T (m (gd xs []) w1) P := by unfold aI; simp only [bC, cP]
theorem YI {m : MF} {n j : Nat} {gd : List D → List D → List D} : T (tV m n j gd ma mk σ w) P = T (ma σ w) fun xs w1 => T (mk σ w1) fun zs w2 => (xs.length = n ∧ zs.length = j) ∧ T (m (gd xs zs) w2) P := by unfold tV; simp only [bC, cP]
theorem aAG {m : MF} {C : Addr} {n j : Nat} {gd : List D → List D → List D} : T (TQ C m n j gd ma mk σ w) P = T (ma σ w) fun xs w1 => T (mk σ w1) fun zs w2 => (xs.length = n ∧ zs.length = j) ∧ T (WT m C (fun s => gd (s ++ xs) zs) w2) P := by unfold TQ; simp only [bC, cP]
theorem aCm {C : Addr} {z : Str} : T (cX C z a σ w) P = T (a σ w) fun x w1 => T (aCP C z x w1) P := by unfold cX zN; simp only [bC]
theorem aDI {g : D → D → W → Res D} : T (SU f g a b c σ w) P = T (a σ w) fun x w1 => T (b σ w1) fun y w2 => T (f x y w2) fun r w3 => match r with
 | .bl k => if k = true then T (c σ w3) fun z w4 => T (g y z w4) P else P (.bl false) w3
 | _ => False := by
 unfold SU
 simp only [bC]
 congr 1; funext x w1; congr 1; funext y w2; congr 1; funext r w3
 cases r <;> first | (unfold T; rfl) | skip
 rename_i k
 cases k
 ·unfold T; rfl
 ·exact bC
theorem aDg : T (aU a σ w) PB = T (a σ w) fun x w1 => match x with
 | .bl k => PB k w1
 | _ => False := by
 unfold aU
 simp only [bC]
 congr 1; funext x w1
 cases x <;> (first | rfl | (unfold T; rfl) | (unfold Then; rfl))
theorem aCI : T (eA a σ w) PB = T (a σ w) fun x w1 => T (eN x w1) PB := by unfold eA; simp only [bC]
theorem aBg : T (cH ta σ w) PB = T (ta σ w) fun k w1 => PB (!k) w1 := by unfold cH; simp only [bC, b0]
theorem aBB : T (fW ta tb σ w) PB = T (ta σ w) fun k w1 => if k = true then T (tb σ w1) PB else PB false w1 := by unfold fW; simp only [bC, E3, b0]
theorem aDf : T (fX ta tb σ w) PB = T (ta σ w) fun k w1 => if k = true then PB true w1 else T (tb σ w1) PB := by unfold fX; simp only [bC, E3, b0]
theorem YH : T (aT σ w) PB = PB true w := by unfold T; rfl
def Then (b : MS) (PF : Fl → W → Prop) : Fl → W → Prop := fun f w => match f with
 | .nx σ => T (b σ w) PF
 | f => PF f w
theorem bL : T (aJ sa sb σ w) PF = T (sa σ w) (Then sb PF) := by
 unfold aJ
 simp only [bC]
 congr 1; funext f w1
 cases f <;> (first | rfl | (unfold T; rfl) | (unfold Then; rfl))
theorem uO {σ : Sg} : Then sb PF (.nx σ) w = T (sb σ w) PF := by first | rfl | (unfold Then; rfl)
theorem ZN {d : D} : Then sb PF (.rt d) w = PF (.rt d) w := by first | rfl | (unfold Then; rfl)
theorem aCb : T (aQ a σ w) PF = T (a σ w) fun d w1 => PF (.rt d) w1 := by unfold aQ; simp only [bC, b0]
theorem aBw : T (cF a σ w) PF = T (a σ w) fun _ w1 => PF (.nx σ) w1 := by unfold cF; simp only [bC, b0]
theorem aCZ : T (cO ta sa sb σ w) PF = T (ta σ w) fun k w1 => if k = true then T (sa σ w1) PF else T (sb σ w1) PF := by unfold cO; simp only [bC, E3]
theorem aBm : T (aV σ w) PF = PF (.nx σ) w := by unfold T; rfl
theorem S7 : T (aO a g σ w) PF = T (a σ w) fun d w1 => T (g d σ w1) fun s w2 => PF (.nx s) w2 := by unfold aO; simp only [bC, b0]
theorem aDb {i : Nat} {PS : Sg → W → Prop} : T (aN i d σ w) PS = PS (σ.set i (some d)) w := by unfold T; rfl
theorem aA7 {PS : Sg → W → Prop} : T (c8 a b d σ w) PS = T (a σ w) fun o w1 => T (b σ w1) fun i w2 => T (setM o i d w2) fun _ w3 => PS σ w3 := by unfold c8; simp only [bC, b0]
theorem aBA {C : Addr} {z : Str} : T (uJ C z a b σ w) PF = T (b σ w) fun x w1 => T (a σ w1) fun d w2 => T (QQ C z d x w2) fun _ w3 => PF (.nx σ) w3 := by unfold uJ; simp only [bC, b0]
theorem aBq {n : Nat} {xs : List D} {PS : Sg → W → Prop} : T (bJ n gs (.tup xs) σ w) PS = (xs.length = n ∧ T (gs xs σ w) PS) := by simp only [bJ, cP]
theorem XY {n : Nat} {xs : List D} {PS : Sg → W → Prop} : T (bJ n gs (.pW xs) σ w) PS = (xs.length = n ∧ T (gs xs σ w) PS) := by simp only [bJ, cP]
theorem aBc {PS : Sg → W → Prop} : T (bD [] σ w) PS = PS σ w := by unfold T; rfl
theorem XG {xs : List D} {PS : Sg → W → Prop} : T (aH g gs (d :: xs) σ w) PS = T (g d σ w) fun s w1 => T (gs xs s w1) PS := by simp only [aH, bC]
theorem cY {mb : MS} {N : List Str} {ds : List D} : T (a7 mb N ds w) P = T (mb (begin N ds) w) fun f w1 => match f with
 | .nx _ => P .non w1
 | .rt d => P d w1
 | _ => False := by
 unfold a7
 simp only [bC]
 congr 1; funext f w1
 cases f <;> (first | rfl | (unfold T; rfl) | (unfold Then; rfl))
end
section
variable {w : W} {P : D → W → Prop} {a b : Int} {x y d : D}
theorem xU : T (bH (.int a) (.int b) w) P = P (.int (a + b)) w := by unfold T; rfl
theorem aCs : T (pB (.int a) (.int b) w) P = P (.int (a - b)) w := by unfold T; rfl
theorem MK : T (mulM (.int a) (.int b) w) P = (AX a b = true ∧ P (.int (a * b)) w) := by unfold mulM; simp only [cP, b0]
theorem EH : T (iV (.int a) (.int b) w) P = (0 < b ∧ P (.int (a % b)) w) := by unfold iV; simp only [cP, b0]
theorem CH : T (sS (.int a) (.int b) w) P = ((0 < b ∧ b < 1073741824) ∧ P (.int (a / b)) w) := by unfold sS; simp only [cP, b0]
theorem aC3 : T (y7 (.int a) w) P = P (.int (-a)) w := by unfold T; rfl
theorem aDD : T (M4 (.int a) (.int b) w) P = P (.bl (decide (a < b))) w := by unfold T; rfl
theorem aDR : T (M9 (.int a) (.int b) w) P = P (.bl (decide (a ≤ b))) w := by unfold T; rfl
theorem aDT : T (QY (.int a) (.int b) w) P = P (.bl (decide (b < a))) w := by unfold T; rfl
theorem aCq : T (XT (.int a) (.int b) w) P = P (.bl (decide (b ≤ a))) w := by unfold T; rfl
theorem AG {xs ys : List D} : T (bH (.tup xs) (.tup ys) w) P = (xs.length + ys.length ≤ sizeLine ∧ P (.tup (xs ++ ys)) w) := by unfold bH; simp only [cP, b0]
theorem aBE {xs ys : List D} : T (bH (.lst xs) (.lst ys) w) P = (xs.length + ys.length ≤ sizeLine ∧ P (.lst (xs ++ ys)) w) := by unfold bH; simp only [cP, b0]
theorem ZS : T (isM x .non w) P = P (.bl x.isNon) w := by cases x <;> (first | rfl | (unfold T; rfl))
theorem aCy {p q : Bool} : T (isM (.bl p) (.bl q) w) P = P (.bl (decide (p = q))) w := by unfold T; rfl
theorem LH : T (tP x .non w) P = P (.bl (!x.isNon)) w := by cases x <;> (first | rfl | (unfold T; rfl))
theorem JX {p q : Bool} : T (tP (.bl p) (.bl q) w) P = P (.bl (!decide (p = q))) w := by unfold T; rfl
theorem aCz : T (notM x w) P = T (eN x w) fun c _ => P (.bl (!c)) w := by unfold notM; simp only [bC, b0]
theorem aAs {p : Bool} {PB : Bool → W → Prop} : T (eN (.bl p) w) PB = PB p w := by unfold T; rfl
theorem aBJ {PB : Bool → W → Prop} : T (eN (.int a) w) PB = PB (a != 0) w := by unfold T; rfl
theorem aAv {PB : Bool → W → Prop} : T (eN .non w) PB = PB false w := by unfold T; rfl
theorem V7 {xs : List D} : T (VD xs (.int a) w) P = ∃ d, atI xs a = some d ∧ P d w := by
 show T (match atI xs a with
  | some d => Res.ok d w
  | none => .bad) P = _
 cases atI xs a with
 | none => simp [T]
 | some d => simp [T]
theorem aC1 {xs : List D} : T (aZ (.tup xs) y w) P = T (VD xs y w) P := by unfold T; rfl
theorem aCf {xs : List D} : T (aZ (.pW xs) y w) P = T (VD xs y w) P := by unfold T; rfl
theorem ZY {xs : List D} : T (aZ (.lst xs) y w) P = T (VD xs y w) P := by unfold T; rfl
theorem P2 {i : Nat} {kvs : List (Key × D)} {z : Str} (h : w[i]? = some (.dK kvs)) : T (aZ (.ref i) (.str z) w) P = ∃ d, mP kvs (.inr z) = some d ∧ P d w := by
 simp only [aZ, h, oE, keyD, Option.map_some]
 cases mP kvs (Sum.inr z) with
 | none => simp [T]
 | some d => simp [T]
theorem pD : T (dD x y w) P = ∃ r, zQ x y w = some r ∧ P (.bl r) w := by
 unfold dD
 cases zQ x y w with
 | none => simp [T]
 | some r => simp [T]
theorem FO : T (mS x y w) P = ∃ r, zQ x y w = some r ∧ P (.bl (!r)) w := by
 unfold mS
 cases zQ x y w with
 | none => simp [T]
 | some r => simp [T]
theorem kX : zQ (.int a) (.int b) w = some (a == b) := by simp [zQ, sV, D.py, D.eS, SeqAt.shaped, PyData.canLay0, PyData.depth, PyData.eqv]
theorem aDC : T (JR x y w) P = ∃ r, inD x y w = some r ∧ P (.bl r) w := by
 unfold JR
 cases inD x y w with
 | none => simp [T]
 | some r => simp [T]
theorem QC : T (cU [d] w) P = ∃ n, BK d w = some n ∧ P (.int n) w := by
 show T (match BK d w with
  | some n => Res.ok (D.int n) w
  | none => .bad) P = _
 cases BK d w with
 | none => simp [T]
 | some n => simp [T]
theorem KZ {i : Nat} {xs : List D} (h : w[i]? = some (.lst xs)) : T (b8 (.ref i) [d] w) P = (xs.length < sizeLine ∧ P .non (w.set i (.lst (xs ++ [d])))) := by
 simp only [b8, h, cP, b0]
theorem aAZ {i : Nat} {kvs : List (Key × D)} {z : Str} {PU : Unit → W → Prop} (h : w[i]? = some (.dK kvs)) : T (setM (.ref i) (.str z) d w) PU = (kvs.length < sizeLine ∧ PU () (w.set i (.dK (putD kvs (.inr z) d)))) := by
 simp only [setM, h, keyD, cP, b0]
end
theorem aBx {it : kP} {g : MG} {body : MS} {P : Fl → W → Prop} (Inv : Nat → Sg → W → Prop) (ok : ∀ i σ w, Inv i σ w → it.ok w)
  (step : ∀ i x σ w, it.xs[i]? = some x → Inv i σ w → T (g x σ w) fun σ1 w1 => T (body σ1 w1) fun f w2 => match f with
   | .nx s => Inv (i + 1) s w2
   | .ct s => Inv (i + 1) s w2
   | .bk s => P (.nx s) w2
   | .rt d => P (.rt d) w2) (fin : ∀ σ w, Inv it.xs.length σ w → P (.nx σ) w) : ∀ {i : Nat} {σ : Sg} {w : W}, i ≤ it.xs.length → Inv i σ w → T (forL it g body (it.xs.drop i) σ w) P := by
 intro i
 generalize hn : it.xs.length - i = n
 induction n generalizing i with
 | zero =>
  intro σ w hi h
  have e : i = it.xs.length := by omega
  subst e
  rw [List.drop_length]
  unfold forL
  rw [if_pos (ok _ _ _ h)]
  rw [b0]; exact fin σ w h
 | succ n ih =>
  intro σ w hi h
  have hlt : i < it.xs.length := by omega
  rw [List.drop_eq_getElem_cons hlt]
  unfold forL
  rw [if_pos (ok _ _ _ h), bC]
  refine (step i _ σ w (bf hlt) h).mono fun s1 w1 _ q => ?_
  rw [bC]
  refine T.mono q fun f w2 _ q2 => ?_
  cases f with
  | nx s => exact ih (by omega) (by omega) q2
  | ct s => exact ih (by omega) (by omega) q2
  | bk s => rw [b0]; exact q2
  | rt d => rw [b0]; exact q2
theorem aAf {m : MI} {g : MG} {body : MS} {σ : Sg} {w : W} {P : Fl → W → Prop} : T (fY m g body σ w) P = T (m σ w) fun it w1 => T (forL it g body it.xs σ w1) P := by unfold fY; simp only [bC]
theorem QA {it : kP} {vs : List Nat} {g : MG} {t : MT} {e : ME} {σ : Sg} {P : List D → W → Prop} (Inv : Nat → List D → W → Prop) (ok : ∀ i acc w, Inv i acc w → it.ok w)
  (step : ∀ i x acc w, it.xs[i]? = some x → Inv i acc w → T (g x (bV σ vs) w) fun σ1 w1 => T (t σ1 w1) fun b w2 => if b = true then T (e σ1 w2) fun y w3 => Inv (i + 1) (acc ++ [y]) w3 else Inv (i + 1) acc w2)
  (fin : ∀ acc w, Inv it.xs.length acc w → P acc w) : ∀ {i : Nat} {acc : List D} {w : W}, i ≤ it.xs.length → Inv i acc w → T (iY it vs g t e (it.xs.drop i) σ w) fun ys w1 => P (acc ++ ys) w1 := by
 intro i
 generalize hn : it.xs.length - i = n
 induction n generalizing i with
 | zero =>
  intro acc w hi h
  have e : i = it.xs.length := by omega
  subst e
  rw [List.drop_length]
  unfold iY
  rw [if_pos (ok _ _ _ h)]
  rw [b0, List.append_nil]
  exact fin acc w h
 | succ n ih =>
  intro acc w hi h
  have hlt : i < it.xs.length := by omega
  rw [List.drop_eq_getElem_cons hlt]
  unfold iY
  rw [if_pos (ok _ _ _ h), bC, U2]
  refine (step i _ acc w (bf hlt) h).mono fun s1 w1 _ q => ?_
  rw [bC, U2]
  refine T.mono q fun b w2 _ q2 => ?_
  cases b with
  | true =>
   simp only [ae] at q2 ⊢
   rw [bC, U2]
   refine T.mono q2 fun y w3 _ q3 => ?_
   rw [bC]
   refine (ih (by omega) (by omega) q3).mono fun ys w4 _ q4 => ?_
   rw [b0]
   simpa using q4
  | false =>
   simp only [bz, ab] at q2 ⊢
   exact ih (by omega) (by omega) q2
theorem aAR {m : MI} {vs : List Nat} {g : MG} {t : MT} {e : ME} {σ : Sg} {w : W} {P : D → W → Prop} : T (aS m vs g t e σ w) P = T (m σ w) fun it w1 => it.xs.length ≤ sizeLine ∧ T (iY it vs g t e it.xs σ w1) fun ys w2 => P (.lst ys) w2 := by
 unfold aS PY
 simp only [bC, cP, b0]
structure pS (w w' : W) (d c : Nat) : Prop where
 le : w.length ≤ w'.length
 at_ : ∀ i, i < w.length → i ≠ d → i ≠ c → w'[i]? = w[i]?
section
variable {w w1 w2 : W} {d c i : Nat} {o : MO}
theorem pS.refl : pS w w d c := ⟨az _, fun _ _ _ _ => rfl⟩
theorem pS.trans (a : pS w w1 d c) (b : pS w1 w2 d c) : pS w w2 d c := ⟨br a.le b.le, fun i h1 h2 h3 => (b.at_ i (Nat.lt_of_lt_of_le h1 a.le) h2 h3).trans (a.at_ i h1 h2 h3)⟩
theorem Kept.refl : Kept w w d c := ⟨rfl, fun _ _ _ => rfl⟩
theorem Kept.trans (a : Kept w w1 d c) (b : Kept w1 w2 d c) : Kept w w2 d c := ⟨b.1.trans a.1, fun i h1 h2 => (b.2 i h1 h2).trans (a.2 i h1 h2)⟩
theorem Kept.obj (a : Kept w w1 d c) (h : w[i]? = some o) (h1 : i ≠ d) (h2 : i ≠ c) : w1[i]? = some o := by rw [a.2 i h1 h2]; exact h
theorem Kept.grow (k : Kept w w1 d c) : pS w w1 d c := ⟨Nat.le_of_eq k.1.symm, fun i _ h2 h3 => k.2 i h2 h3⟩
theorem pS.app {g : W} : pS w (w ++ g) d c := ⟨by simp, fun i h _ _ => by rw [aw h]⟩
theorem pS.obj (a : pS w w1 d c) (h : w[i]? = some o) (h1 : i ≠ d) (h2 : i ≠ c) : w1[i]? = some o := by rw [a.at_ i (ak.mp h).1 h1 h2]; exact h
theorem q9.lt (h : q9 w d c) : d < w.length ∧ c < w.length := by
 obtain ⟨_, cells, sm, n, h1, h2, _⟩ := h
 exact ⟨(ak.mp h1).1, (ak.mp h2).1⟩
theorem q9.app {g : W} (h : q9 w d c) : q9 (w ++ g) d c := by
 obtain ⟨l1, l2⟩ := h.lt
 obtain ⟨hne, cells, sm, n, h1, h2, h3⟩ := h
 exact ⟨hne, cells, sm, n, by rw [aw l1]; exact h1, by rw [aw l2]; exact h2, h3⟩
theorem q9.set (h : q9 w d c) (h1 : i ≠ d) (h2 : i ≠ c) : q9 (w.set i o) d c := by
 obtain ⟨hne, cells, sm, n, g1, g2, g3⟩ := h
 exact ⟨hne, cells, sm, n, by rw [bc h1]; exact g1, by rw [bc h2]; exact g2, g3⟩
end
theorem atI_nat {xs : List D} {r : Int} (h0 : 0 ≤ r) (h1 : r < xs.length) : ∃ (i : Nat) (x : D), xs[i]? = some x ∧ atI xs r = some x ∧ (i : Int) = r := by
 have l : r.toNat < xs.length := by omega
 refine ⟨r.toNat, xs[r.toNat], bf l, ?_, by omega⟩
 unfold atI ixN
 rw [if_pos h0, if_pos h1]
 show xs[r.toNat]? = _
 exact bf l
section
variable {σ : Sg} {w : W} {PI : kP → W → Prop} {P : D → W → Prop}
theorem aAT {m : ME} : T (bK m σ w) PI = T (m σ w) fun d w1 => T (iterM d w1) PI := by unfold bK; simp only [bC]
theorem VO {f : List D → W → Res kP} {ma : MA} : T (cK f ma σ w) PI = T (ma σ w) fun xs w1 => T (f xs w1) PI := by unfold cK; simp only [bC]
theorem aC7 {xs : List D} : T (iterM (.tup xs) w) PI = PI ⟨xs, always⟩ w := by unfold T; rfl
theorem aBZ {xs : List D} : T (iterM (.lst xs) w) PI = PI ⟨xs, always⟩ w := by unfold T; rfl
theorem tL {n : Int} (h : 0 ≤ n) (h2 : n < 1073741824) : T (gG [.int n] w) PI = PI (fI 0 n.toNat) w := by
 simp only [gG]
 rw [if_pos (by constructor <;> omega)]
 unfold T; rfl
theorem X3 {PO : Option Int → W → Prop} : T (c6 σ w) PO = PO none w := by unfold T; rfl
theorem YF {m : ME} {PO : Option Int → W → Prop} : T (cG m σ w) PO = T (m σ w) fun d w1 => match d with
 | .int i => PO (some i) w1
 | _ => False := by
 unfold cG
 simp only [bC]
 congr 1; funext d w1
 cases d <;> (unfold T; rfl)
theorem aDA {f : D → Option Int → Option Int → W → Res D} {a : ME} {lo hi : MO'} : T (qF f a lo hi σ w) P = T (a σ w) fun x w1 => T (lo σ w1) fun l w2 => T (hi σ w2) fun u w3 => T (f x l u w3) P := by unfold qF; simp only [bC]
theorem oI : ∀ ns : List Int, jQ (ns.map D.int) = some ns
 | [] => rfl
 | n :: ns => by simp [jQ, oI ns]
theorem XU {ns : List Int} {lo hi : Option Int} : ∃ ms : List Int, cutD (ns.map D.int) lo hi = ms.map D.int ∧ ms.length ≤ ns.length := by
 unfold cutD
 rw [← List.map_drop, ← List.map_take]
 exact ⟨_, rfl, by simp; omega⟩
end
def GC (r : List Int) : D := .tup (r.map .int)
def aDU (t : Int × Int × Int) : D := .tup [.int t.1, .int t.2.1, .int t.2.2]
structure Mo where
 eG : List (List Int)
 xQ : Int
 NA : Int
 HH : Int
 bears : D
 gap : Int
 hold : Int
 takes : Bool
 VP : List (Int × Int × Int)
 pO : Int
def Mo.kvs (m : Mo) : List (Key × D) := [(.inr "ranks", .tup (m.eG.map GC)), (.inr "every", .int m.xQ), (.inr "lost", .int m.NA), (.inr "slow", .int m.HH), (.inr "bears", m.bears), (.inr "gap", .int m.gap), (.inr "hold", .int m.hold),
 (.inr "takes", .bl m.takes), (.inr "ties", .tup (m.VP.map aDU)), (.inr "hosts", .int m.pO)]
structure YG (rs : List (List Int)) (h : Nat) : Prop where
 h1 : 1 ≤ h
 h6 : h ≤ 6
 row : ∀ r ∈ rs, r.length = h ∧ ∀ x ∈ r, 1 ≤ x ∧ x ≤ 12
structure aA4 (ts : List (Int × Int × Int)) (h : Nat) : Prop where
 few : ts.length ≤ 6
 each : ∀ t ∈ ts, (0 ≤ t.1 ∧ t.1 < h) ∧ (0 ≤ t.2.1 ∧ t.2.1 ≤ 9) ∧ (1 ≤ t.2.2 ∧ t.2.2 ≤ 11)
 up : ts.Pairwise fun a b => a.1 < b.1 ∨ (a.1 = b.1 ∧ a.2.1 < b.2.1)
theorem lJ {n : Nat} {lo : Int} : (fI lo n).xs.length = n := by simp [fI]
open PySem.W (dataLe)
def l3 (t : Int × Int × Int) : List Int := [t.1, t.2.1, t.2.2]
def pairD (p : Int × Int) : D := .tup [.int p.1, .int p.2]
section
variable {σ : Sg} {w : W} {P : D → W → Prop} {PP : List (D × D) → W → Prop}
theorem W0 : T (R7 σ w) PP = PP [] w := by unfold T; rfl
theorem RC {a b : ME} {r : MP} : T (mA a b r σ w) PP = T (a σ w) fun k w1 => T (b σ w1) fun v w2 => T (r σ w2) fun ps w3 => PP ((k, v) :: ps) w3 := by unfold mA; simp only [bC, b0]
theorem ZW {m : MP} : T (NU m σ w) P = T (m σ w) fun ps w1 => ∃ kvs, keyed ps = some kvs ∧ kvs.length ≤ 15 ∧ P (.ref w1.length) (w1 ++ [.dK (xF [] kvs)]) := by
 unfold NU
 simp only [bC]
 congr 1; funext ps w1
 cases keyed ps with
 | none => simp [T]
 | some kvs => simp [cP, b0]
end
section
variable {α β : Type} {it : kP} {vs : List Nat} {g : MG} {t : MT} {e : ME} {σ : Sg} {w : W} {P : List D → W → Prop}
theorem cE (ys : List α) (enc : α → D) (f : α → D) (hx : it.xs = ys.map enc) (hok : it.ok w)
  (h : ∀ y ∈ ys, T (g (enc y) (bV σ vs) w) fun σ1 w1 => T (t σ1 w1) fun b w2 => b = true ∧ T (e σ1 w2) fun z w3 => z = f y ∧ w3 = w) (k : P (ys.map f) w) :
  T (iY it vs g t e it.xs σ w) P := by
 have cl := QA (it := it) (vs := vs) (g := g) (t := t) (e := e) (σ := σ) (P := P) (fun i acc w1 => w1 = w ∧ acc = (ys.take i).map f) (fun _ _ _ q => by rw [q.1]; exact hok)
  (fun i x acc w1 hi q => by
   obtain ⟨rfl, rfl⟩ := q
   rw [hx, cg] at hi
   cases hy : ys[i]? with
   | none => rw [hy] at hi; cases hi
   | some y =>
    rw [hy] at hi
    cases hi
    refine (h y (cc hy)).mono fun σ1 w2 _ q => q.mono fun b w3 _ q => ?_
    obtain ⟨rfl, q⟩ := q
    rw [if_pos rfl]
    refine q.mono fun z w4 _ q => ⟨q.2, ?_⟩
    rw [List.take_add_one, hy, q.1]
    simp)
  (fun acc w1 q => by
   obtain ⟨rfl, rfl⟩ := q
   rw [hx, ay, List.take_length]
   exact k) (i := 0) (acc := []) (w := w) (Nat.zero_le _) ⟨rfl, rfl⟩
 rw [List.drop_zero] at cl
 exact cl.mono fun _ _ _ q => by simpa using q
theorem NL (ys : List α) (f : α → Bool) : rF (ys.map fun y => D.bl (f y)) = some (ys.map f) := by
 induction ys with
 | nil => rfl
 | cons y ys ih => simp [rF, ih]
theorem tQ {P : D → W → Prop} (ys : List α) (f : α → Bool) : T (allM [.lst (ys.map fun y => .bl (f y))] w) P = P (.bl (ys.all f)) w := by
 have e : allM [.lst (ys.map fun y => .bl (f y))] w = .ok (.bl (ys.all f)) w := by
  simp only [allM, sI, Option.bind_some, NL]
  congr 2
  rw [List.all_map]
  rfl
 rw [e, b0]
end
end Pc
namespace Lb
open PySem PySem.Spec PyProof.Rows L2 Pc
structure a6 where
 cZ : Addr
 aBS : Addr
def eO : List Str := [("thing" : Str)]
def gL (k : a6) : MS :=
 (aQ (fK (aL (fZ gI) (aA (aB 0) (aA (eC (.ty "int")) aC))) (zN notM (aL (fZ gI) (aA (aB 0) (aA (eC (.ty "bool")) aC))))))
def eP (k : a6) : MF := a7 (gL k) eO
theorem x6 (x0 : D) : begin eO [x0] = [some x0] := rfl
def dQ : List Str := [("thing" : Str), ("least" : Str), ("most" : Str)]
def fD (k : a6) : MS :=
 (aQ (fK (aI (eP k) 1 aK (aA (aB 0) aC)) (SU M9 M9 (aB 1) (aB 0) (aB 2))))
def bM (k : a6) : MF := a7 (fD k) dQ
theorem u5 (x0 x1 x2 : D) : begin dQ [x0, x1, x2] = [some x0, some x1, some x2] := rfl
def RK : List Str := [("plan" : Str), ("rank" : Str)]
def RY (k : a6) : MS :=
 (aQ (aD bH (eC (.int 2)) (aD mulM (cX k.cZ ("gap" : Str) (aB 0)) (aD pB (eC (.int 12)) (aB 1)))))
def RX (k : a6) : MF := a7 (RY k) RK
def A8 : List Str := [("plan" : Str), ("lost" : Str)]
def CQ (k : a6) : MS :=
 (aQ (aD bH (aD mulM (aD bH (aB 1) (eC (.int 1))) (cX k.cZ ("every" : Str) (aB 0))) (cX k.cZ ("slow" : Str) (aB 0))))
def CN (k : a6) : MF := a7 (CQ k) A8
def R5 : List Str := [("plan" : Str), ("rank" : Str)]
def SE (k : a6) : MS :=
 (aQ (aD bH (aI (CN k) 2 aK (aA (aB 0) (aA (cX k.cZ ("bears" : Str) (aB 0)) aC))) (aD mulM (cX k.cZ ("gap" : Str) (aB 0)) (aD pB (eC (.int 12)) (aB 1)))))
def ER (k : a6) : MF := a7 (SE k) R5
def NZ : List Str := [("self" : Str)]
def NX (k : a6) : MS :=
 (aQ (aL cU (aA (aD aZ (cX k.cZ ("ranks" : Str) (aB 0)) (eC (.int 0))) aC)))
def fG (k : a6) : MF := a7 (NX k) NZ
section
variable {w : W} {P : D → W → Prop} (k : a6)
theorem sz (n : Nat) (h : n ≤ 1000) : n ≤ sizeLine := by rw [sizeLine_eq]; omega
theorem WV {a b : Int} : T (dD (.int a) (.int b) w) P = P (.bl (a == b)) w := by
 rw [pD, kX]
 simp
theorem V2 {a b : Int} : T (mS (.int a) (.int b) w) P = P (.bl (!(a == b))) w := by
 rw [FO, kX]
 simp
theorem S6 {xs : List D} : T (cU [.tup xs] w) P = P (.int xs.length) w := by rw [QC]; simp [BK, D.items]
theorem S2 {xs : List D} : T (cU [.lst xs] w) P = P (.int xs.length) w := by rw [QC]; simp [BK, D.items]
theorem aDr {xs : List D} : T (cU [.pW xs] w) P = P (.int xs.length) w := by rw [QC]; simp [BK, D.items]
theorem at0 {x : D} {xs : List D} : atI (x :: xs) 0 = some x := by
 unfold atI ixN
 rw [if_pos (by omega), if_pos (by simp)]
 rfl
end
section
variable {w : W} {P : D → W → Prop} (k : a6)
theorem aDP {xs ys : List D} {PI : kP → W → Prop} : T (Z1 [.tup xs, .tup ys] w) PI = (xs.length = ys.length ∧ PI ⟨(xs.zip ys).map fun p => .tup [p.1, p.2], always⟩ w) := by
 simp only [Z1, tU, cP, b0]
theorem XO {xs : List D} : m9 (.tup xs) none (some (-1)) w = .ok (.tup xs.dropLast) w := by
 simp only [m9, Pc.cutD, HT.sIx]
 congr 2
 rw [if_pos (by omega), List.drop_zero, List.dropLast_eq_take]
 congr 1
 omega
theorem Q3 {xs : List D} : m9 (.tup xs) (some 1) none w = .ok (.tup xs.tail) w := by
 simp only [m9, Pc.cutD, HT.sIx]
 congr 2
 rw [if_neg (by omega)]
 cases xs with
 | nil => simp
 | cons x xs => simp
theorem aC0 {a : Addr} {tab : List (Str × Option D)} {z : Str} {o : Option D} (h : tab.lookup z = some o) : T (ML a tab (.str z) (.con a) w) P = P (.bl o.isSome) w := by
 simp only [ML, ae, h, b0]
theorem aCl {a : Addr} {tab : List (Str × Option D)} {z : Str} {d : D} (h : tab.lookup z = some (some d)) : T (OV a tab (.con a) (.str z) w) P = P d w := by
 simp only [OV, ae, h, b0]
theorem YX {a b : Str} (ha : PyData.strOk a = true) (hb : PyData.strOk b = true) : zQ (.str a) (.str b) w = some (a == b) := by
 simp [zQ, sV, D.py, D.eS, SeqAt.shaped, PyData.canLay0, PyData.depth, PyData.eqv, ha, hb]
theorem Y6 {a b : Str} {r : Bool} (h : zQ (.str a) (.str b) w = some r) : T (dD (.str a) (.str b) w) P = P (.bl r) w := by
 rw [pD, h]
 simp
end
section
variable {w : W} {P : D → W → Prop} {PF : Fl → W → Prop} {PI : kP → W → Prop} {σ : Sg}
theorem WM {m : ME} : T (QZ m σ w) PI = T (m σ w) fun d w1 => T (VJ d w1) PI := by unfold QZ; simp only [bC]
def Turn (next : Sg → W → Prop) (PF : Fl → W → Prop) : Fl → W → Prop := fun f w => match f with
 | .nx s => next s w
 | .ct s => next s w
 | .bk s => PF (.nx s) w
 | .rt d => PF (.rt d) w
open Classical in
open Classical in
structure MoB (m : Mo) (h : Nat) : Prop where
 eG : YG m.eG h
 n1 : 1 ≤ m.eG.length
 n4 : m.eG.length ≤ 4
 xQ : 1 ≤ m.xQ ∧ m.xQ ≤ 5
 NA : 0 ≤ m.NA ∧ m.NA ≤ 3
 HH : 1 ≤ m.HH ∧ m.HH ≤ 4
 gap : 0 ≤ m.gap ∧ m.gap ≤ 3
 hold : 0 ≤ m.hold ∧ m.hold ≤ 20
 VP : aA4 m.VP h
 pO : 0 ≤ m.pO ∧ m.pO ≤ 4
variable (k : a6)
end
section
variable {w : W} {P : D → W → Prop} {PF : Fl → W → Prop} {PI : kP → W → Prop} {σ : Sg}
theorem sl0 : (0 ≤ sizeLine) = True := eq_true (sz _ (by omega))
theorem sl1 : (0 + 1 ≤ sizeLine) = True := eq_true (sz _ (by omega))
theorem sl2 : (0 + 1 + 1 ≤ sizeLine) = True := eq_true (sz _ (by omega))
theorem sl3 : (0 + 1 + 1 + 1 ≤ sizeLine) = True := eq_true (sz _ (by omega))
theorem sl4 : (0 + 1 + 1 + 1 + 1 ≤ sizeLine) = True := eq_true (sz _ (by omega))
theorem sl5 : (0 + 1 + 1 + 1 + 1 + 1 ≤ sizeLine) = True := eq_true (sz _ (by omega))
theorem sl6 : (0 + 1 + 1 + 1 + 1 + 1 + 1 ≤ sizeLine) = True := eq_true (sz _ (by omega))
theorem sl7 : (0 + 1 + 1 + 1 + 1 + 1 + 1 + 1 ≤ sizeLine) = True := eq_true (sz _ (by omega))
theorem sl8 : (0 + 1 + 1 + 1 + 1 + 1 + 1 + 1 + 1 ≤ sizeLine) = True := eq_true (sz _ (by omega))
theorem sl9 : (0 + 1 + 1 + 1 + 1 + 1 + 1 + 1 + 1 + 1 ≤ sizeLine) = True := eq_true (sz _ (by omega))
theorem aDV : (0 + 1 + 1 + 1 + 1 + 1 + 1 + 1 + 1 + 1 + 1 ≤ sizeLine) = True := eq_true (sz _ (by omega))
theorem aDL : (0 + 1 + 1 + 1 + 1 + 1 + 1 + 1 + 1 + 1 + 1 + 1 ≤ sizeLine) = True := eq_true (sz _ (by omega))
theorem aDK : (0 + 1 + 1 + 1 + 1 + 1 + 1 + 1 + 1 + 1 + 1 + 1 + 1 ≤ sizeLine) = True := eq_true (sz _ (by omega))
variable (k : a6)
variable {k} {p : Nat} {m : Mo} {b : Int}
def Z6 (m : Mo) (b r : Int) : Int := (b + 1) * m.xQ + m.HH + m.gap * (12 - r)
variable (k)
end
theorem fJ (a b : Str) : PyData.strOk (a ++ b) = (PyData.strOk a && PyData.strOk b) := by
 show Array.all (a.cps ++ b.cps) _ = _
 unfold PyData.strOk
 rw [Array.all_append]
theorem dU (s : String) : PyData.strOk (Str.ofString s) = true := by
 rw [Str.ofString_eq_toList]
 unfold PyData.strOk
 rw [Array.all_eq_true_iff_forall_mem]
 intro c hc
 simp only [List.mem_toArray, bt] at hc
 obtain ⟨ch, _, rfl⟩ := hc
 have := ch.valid
 simp only [ai]
 have h2 : ch.toNat < 0x110000 := by
  have h3 : ch.toNat = ch.val.toNat := rfl
  rcases this with h | ⟨_, h⟩
  ·rw [h3]; exact Nat.lt_trans h (by decide)
  ·rw [h3]; exact h
 exact h2
theorem mK : ∀ (ts : List Str) (k : Nat) (acc : Str), PyData.strOk acc = true → (∀ t ∈ ts, PyData.strOk t = true) → PyData.strOk (textFrom k acc ts) = true
 | [], k, acc, h, _ => h
 | t :: ts, k, acc, h, ht => by
  unfold textFrom
  refine mK ts (k + 1) _ ?_ fun x hx => ht x (av _ hx)
  rw [fJ, fJ, h, ht t (aq ..), dU]
  rfl
theorem uX (sep : Str) (hs : PyData.strOk sep = true) : ∀ ts : List Str, (∀ t ∈ ts, PyData.strOk t = true) → PyData.strOk (Str.join sep ts) = true
 | [], _ => by show PyData.strOk Str.empty = true; decide +kernel
 | [x], h => h x (aq ..)
 | x :: y :: r, h => by
  show PyData.strOk (x ++ sep ++ Str.join sep (y :: r)) = true
  rw [fJ, fJ, hs, h x (aq ..), uX sep hs (y :: r) fun t ht => h t (av _ ht)]
  rfl
mutual
/-- data of short numbers and fine short texts, lists and tuples of such -/
def e7 : PyData → Bool
 | .none | .bool _ => true
 | .int i => decide (i.natAbs < 10 ^ 40)
 | .str x => PyData.strOk (reprText x) && PyData.strOk x && PyData.leavesShort 60 (.str x) && decide (x.length ≤ 100)
 | .list xs | .tuple xs => plainPs xs
 | .dict _ => false
def plainPs : List PyData → Bool
 | [] => true
 | x :: xs => e7 x && plainPs xs
end
mutual
theorem MC : ∀ p : PyData, e7 p = true → PyData.strOk p.shown = true
 | .none, _ => dU _
 | .bool b, _ => by cases b <;> exact dU _
 | .int i, _ => dU _
 | .str x, h => by
  simp only [e7, ag] at h
  exact h.1.1.1
 | .list xs, h => by
  rw [e7] at h
  show PyData.strOk (textFrom 0 "[" (PyData.shownAll xs) ++ "]") = true
  rw [fJ, mK _ _ _ (dU _) (plains_shown xs h), dU]
  rfl
 | .tuple xs, h => by
  rw [e7] at h
  show PyData.strOk (tupleText (PyData.shownAll xs)) = true
  unfold tupleText
  rw [fJ, fJ, dU, uX _ (dU _) _ (plains_shown xs h)]
  split <;> rw [dU] <;> rfl
 | .dict _, h => by simp [e7] at h
theorem plains_shown : ∀ ps : List PyData, plainPs ps = true → ∀ t ∈ PyData.shownAll ps, PyData.strOk t = true
 | [], _, t, ht => by simp [PyData.shownAll] at ht
 | p :: ps, h, t, ht => by
  simp only [plainPs, ag] at h
  simp only [PyData.shownAll, au] at ht
  rcases ht with rfl | ht
  ·exact MC p h.1
  ·exact plains_shown ps h.2 t ht
end
theorem vV {i : Int} (h : i.natAbs < 10 ^ 40) : PyData.leavesShort 60 (.int i) = true := by
 have e := int_text_length_le10 (k := 40) (by decide) h
 simp only [PyData.leavesShort, ai]
 show (Str.ofString (toString i)).length ≤ 60
 rw [PySem.ofString_length]
 omega
theorem uQ {i : Int} (h : i.natAbs < 10 ^ 40) : PyData.showable (.int i) = true := by
 simp only [PyData.showable, ai]
 by_cases h0 : i.natAbs = 0
 ·rw [h0]; decide
 ·rw [Nat.log2_lt h0]
  exact Nat.lt_of_lt_of_le h (by decide +kernel)
mutual
theorem plain_all : ∀ p : PyData, e7 p = true → p.leavesShort 60 = true ∧ p.showable = true ∧ p.hasDict = false ∧ p.canLay0 = true
 | .none, _ => by simp [PyData.leavesShort, PyData.showable, PyData.hasDict, PyData.canLay0]
 | .bool b, _ => by simp [PyData.leavesShort, PyData.showable, PyData.hasDict, PyData.canLay0]
 | .int i, h => by
  simp only [e7, ai] at h
  exact ⟨vV h, uQ h, by simp [PyData.hasDict], by simp [PyData.canLay0]⟩
 | .str x, h => by
  simp only [e7, ag] at h
  exact ⟨h.1.2, by simp [PyData.showable], by simp [PyData.hasDict], by simp [PyData.canLay0, h.1.1.2]⟩
 | .list xs, h => by
  rw [e7] at h
  have := plains_all xs h
  simp only [PyData.leavesShort, PyData.showable, PyData.hasDict, PyData.canLay0]
  exact this
 | .tuple xs, h => by
  rw [e7] at h
  have := plains_all xs h
  simp only [PyData.leavesShort, PyData.showable, PyData.hasDict, PyData.canLay0]
  exact this
 | .dict _, h => by simp [e7] at h
theorem plains_all : ∀ p : List PyData, plainPs p = true → PyData.leavesShortAll 60 p = true ∧ PyData.showableAll p = true ∧ PyData.hasDictAll p = false ∧ PyData.canLayAll0 p = true
 | [], _ => by simp [PyData.leavesShortAll, PyData.showableAll, PyData.hasDictAll, PyData.canLayAll0]
 | p :: ps, h => by
  simp only [plainPs, ag] at h
  obtain ⟨a1, a2, a3, a4⟩ := plain_all p h.1
  obtain ⟨b1, b2, b3, b4⟩ := plains_all ps h.2
  simp only [PyData.leavesShortAll, PyData.showableAll, PyData.hasDictAll, PyData.canLayAll0, a1, a2, a3, a4, b1, b2, b3, b4]
  simp
end
section
variable {w : W} {P : D → W → Prop} {x y : D} {p q : PyData}
theorem eI {a b : Str} (ha : PyData.strOk a = true) (hb : PyData.strOk b = true) : zQ (.str a) (.str b) w = some (decide (a = b)) := by
 rw [YX ha hb]
 rfl
end
theorem GQ {it : kP} {g : MG} {body : MS} {P : Fl → W → Prop} {σ : Sg} {w : W} (Inv : Nat → Sg → W → Prop) (ok : ∀ i σ w, Inv i σ w → it.ok w) (init : Inv 0 σ w)
  (step : ∀ i x σ w, it.xs[i]? = some x → Inv i σ w → T (g x σ w) fun σ1 w1 => T (body σ1 w1) (Turn (Inv (i + 1)) P)) (fin : ∀ σ w, Inv it.xs.length σ w → P (.nx σ) w) : T (forL it g body it.xs σ w) P := by
 have fl := aBx (it := it) (g := g) (body := body) (P := P) Inv ok (fun i x σ w h1 h2 => (step i x σ w h1 h2).mono fun s1 w1 _ q => q.mono fun f w2 _ q2 => by cases f <;> exact q2) fin (i := 0) (σ := σ) (w := w) (Nat.zero_le _) init
 rw [List.drop_zero] at fl
 exact fl
theorem GR {it : kP} {vs : List Nat} {g : MG} {t : MT} {e : ME} {σ : Sg} {w : W} {P : List D → W → Prop} (Inv : Nat → List D → W → Prop) (ok : ∀ i acc w, Inv i acc w → it.ok w) (init : Inv 0 [] w)
  (step : ∀ i x acc w, it.xs[i]? = some x → Inv i acc w → T (g x (bV σ vs) w) fun σ1 w1 => T (t σ1 w1) fun b w2 => if b = true then T (e σ1 w2) fun y w3 => Inv (i + 1) (acc ++ [y]) w3 else Inv (i + 1) acc w2)
  (fin : ∀ acc w, Inv it.xs.length acc w → P acc w) : T (iY it vs g t e it.xs σ w) P := by
 have cl := QA (it := it) (vs := vs) (g := g) (t := t) (e := e) (σ := σ) (P := P) Inv ok step fin (i := 0) (acc := []) (w := w) (Nat.zero_le _) init
 rw [List.drop_zero] at cl
 exact cl.mono fun _ _ _ q => by simpa using q
inductive Role where
 | rests | aAa | WW
deriving DecidableEq
def Role.s : Role → Str
 | .rests => "rests"
 | .aAa => "waits"
 | .WW => "serves"
structure WB where
 left : Int
 a : Int
 s : Int
 r : Int
 rank : Int
structure I0 where
 living : List Int
 parts : List Int
 downs : List Int
 eG : List (List Int)
 dE : List (List (Role × Int))
 zM : List WB
 yO : List (List (List Int))
 tables : List (List Int)
 asks : List (Int × Int)
def aBF (p : Role × Int) : D := .tup [.str p.1.s, .int p.2]
def aCE (r : List (Role × Int)) : D := .tup (r.map aBF)
def ZU (l : WB) : D := .tup [.int l.left, .int l.a, .int l.s, .int l.r, .int l.rank]
def aAj (l : List (List Int)) : D := .tup (l.map GC)
section
variable {w : W} {P : D → W → Prop} {k : a6} {p h : Nat} {m : Mo} {b : Int}
theorem mR (n : Nat) (h : n ≤ 1000000) : n ≤ sizeLine := by rw [sizeLine_eq]; omega
theorem YA (x : Str) : T (fZ gI [.str x, .ty "str"] w) P = P (.bl true) w := by unfold T; rfl
end
section
variable {w : W} {P : D → W → Prop} {k : a6} {p h : Nat} {m : Mo} {b : Int}
theorem aAC {xs : List D} {j : Nat} {d : D} (e : xs[j]? = some d) : atI xs (j : Int) = some d := by
 have hl := (ak.mp e).1
 unfold atI ixN
 rw [if_pos (by omega), if_pos (by omega)]
 exact e
end
section
variable {w : W} {P : D → W → Prop} {k : a6} {p h : Nat} {m : Mo} {b : Int}
def first (m : Mo) (b : Int) (h : Nat) : I0 where
 living := List.replicate h 1
 parts := List.replicate (h + m.pO.toNat) 0
 downs := []
 eG := m.eG
 dE := m.eG.map fun r => r.map fun x => (.aAa, Z6 m b x + m.hold)
 zM := []
 yO := m.eG.map fun _ => List.replicate h (List.replicate (h + m.pO.toNat) 0)
 tables := List.replicate m.pO.toNat (List.replicate m.eG.length (-1))
 asks := List.replicate m.pO.toNat (0, 0)
theorem D1 {xs : List D} : T (bW [.lst xs] w) P = P (.tup xs) w := by
 have e : bW [.lst xs] w = .ok (.tup xs) w := rfl
 rw [e, b0]
end
section
variable {σ : Sg} {w : W} {P : D → W → Prop} {PF : Fl → W → Prop} {PU : Unit → W → Prop} {a b : ME}
theorem aDe {i j : Nat} : T (GY i j (aA a (aA b aC)) σ w) PF = T (a σ w) fun x w1 => T (b σ w1) fun y w2 => PF (.nx ((σ.set i (some x)).set j (some y))) w2 := by
 unfold GY
 simp only [bC, HL, NV]
 congr 1; funext x w1; congr 1; funext y w2
 first | rfl | (simp only [b0]; done) | (unfold T; rfl)
end
def zZ := And.intro @cY (And.intro @uO (And.intro @ZN (And.intro @aCb (And.intro @aBw (And.intro @aCZ (And.intro @aBm (And.intro @S7 (And.intro @aDb (And.intro @aA7 (And.intro @aBA (And.intro @aBq (And.intro @XY (And.intro @aBc (And.intro @XG (And.intro @T_C (And.intro @T_V (And.intro @aCx (And.intro @aDE (And.intro @aCk (And.intro @aDM (And.intro @aDx (And.intro @NV (And.intro @HL (And.intro @aCR (And.intro @aCX (And.intro @aC5 (And.intro @aB6 (And.intro @aBs (And.intro @aBd (And.intro @YI (And.intro @aAG (And.intro @aCm (And.intro @aDI (And.intro @aDg (And.intro @aCI (And.intro @aBg (And.intro @aBB (And.intro @aDf (And.intro @YH (And.intro @xU (And.intro @aCs (And.intro @MK (And.intro @EH (And.intro @CH (And.intro @aC3 (And.intro @aDD (And.intro @aDR (And.intro @aDT (And.intro @aCq (And.intro @ZS (And.intro @aCy (And.intro @LH (And.intro @JX (And.intro @aCz (And.intro @aAs (And.intro @aBJ (And.intro @aAv (And.intro @b0 (And.intro @aAR (And.intro @aAT (And.intro @VO (And.intro @aDA (And.intro @X3 (And.intro @YF (And.intro @aAf (And.intro @AG (And.intro @aBE (And.intro @aC7 (And.intro @aBZ (And.intro @aC1 (And.intro @ZY (And.intro @aCf (And.intro @V7 (And.intro @sl0 (And.intro @sl1 (And.intro @sl2 (And.intro @sl3 (And.intro @sl4 (And.intro @sl5 (And.intro @sl6 (And.intro @sl7 (And.intro @sl8 (And.intro @sl9 (And.intro @aDV (And.intro @aDL (And.intro @aDK (And.intro @ZW (And.intro @RC (And.intro @W0 (And.intro @S6 (And.intro @S2 (And.intro @aDr (And.intro @WV (And.intro @V2 (@WM)))))))))))))))))))))))))))))))))))))))))))))))))))))))))))))))))))))))))))))))))))))))))))))))
theorem Y1 {xs ys : List D} : aK xs ys = xs := rfl
def zY := And.intro zZ (And.intro @List.getElem?_cons_zero.{0} (And.intro @List.getElem?_cons_succ.{0} (And.intro @List.set_cons_zero.{0} (And.intro @List.set_cons_succ.{0} (And.intro @List.length_cons.{0} (And.intro @List.length_nil.{0} (And.intro @Y1 (And.intro @true_and (And.intro @and_true (And.intro @bz (And.intro @Bool.not_true (And.intro @Bool.not_false (And.intro @Bool.true_eq_false (And.intro @bj.{1} @af.{0}))))))))))))))
def kR : Nat → D → Bool
 | 0, _ => false
 | _ + 1, .non => true
 | _ + 1, .bl _ => true
 | _ + 1, .int i => decide (i ≤ 100000000000000000000000000000000000000000000000000)
 | _ + 1, .str x => PyData.strOk x
 | n + 1, .tup xs => xs.all (kR n) && decide (xs.length ≤ 70000)
 | n + 1, .lst xs => xs.all (kR n) && decide (xs.length ≤ 70000)
 | n + 1, .BV ks vs => (ks.all (kR n) && vs.all (kR n)) && decide (ks.length ≤ 15)
 | _ + 1, _ => false
def isInt : D → Bool
 | .int _ => true
 | _ => false
def pM (lo hi : Int) : D → Bool
 | .int i => decide (lo ≤ i) && decide (i ≤ hi)
 | _ => false
def l8 : D → Bool
 | .tup _ => true
 | _ => false
def V5 : D → Bool
 | .str _ => true
 | _ => false
section
variable {w : W} {P : D → W → Prop} {k : a6} {p h n : Nat} {m : Mo} {b : Int} {d : D}
theorem o5 {xs : List D} (e : kR (n + 1) (.tup xs) = true) : (∀ x ∈ xs, kR n x = true) ∧ xs.length ≤ 70000 := by
 simp only [kR, ag, ao, ai] at e
 exact e
theorem aCS (e : kR n d = true) : T (fZ gI [d, .ty "int"] w) P = P (.bl (match d with | .int _ => true | .bl _ => true | _ => false)) w := by
 cases n with
 | zero => simp [kR] at e
 | succ n => cases d <;> first | (simp [kR] at e; done) | (unfold T; rfl)
theorem aAK (e : kR n d = true) : T (fZ gI [d, .ty "bool"] w) P = P (.bl (match d with | .bl _ => true | _ => false)) w := by
 cases n with
 | zero => simp [kR] at e
 | succ n => cases d <;> first | (simp [kR] at e; done) | (unfold T; rfl)
theorem ES (e : kR n d = true) : T (fZ gI [d, .ty "tuple"] w) P = P (.bl (l8 d)) w := by
 cases n with
 | zero => simp [kR] at e
 | succ n => cases d <;> first | (simp [kR] at e; done) | (unfold T; rfl)
theorem aBW (e : kR n d = true) : T (fZ gI [d, .ty "str"] w) P = P (.bl (V5 d)) w := by
 cases n with
 | zero => simp [kR] at e
 | succ n => cases d <;> first | (simp [kR] at e; done) | (unfold T; rfl)
theorem YR (e : kR n d = true) : T (eP k [d] w) P = P (.bl (isInt d)) w := by
 unfold eP gL
 rw [cY, x6]
 simp only [aCS e, aAK e, zY, ae, ab, reduceCtorEq]
 cases d <;> simp [isInt]
theorem WQ (lo hi : Int) (e : kR n d = true) : T (bM k [d, .int lo, .int hi] w) P = P (.bl (pM lo hi d)) w := by
 unfold bM fD
 rw [cY, u5]
 simp only [YR e, zY, ae, ab, reduceCtorEq]
 cases d <;> simp only [isInt, pM, zY, ae, ab, reduceCtorEq]
 rename_i i
 by_cases h : lo ≤ i <;> simp [h]
end
section
variable {w : W} {P : D → W → Prop} {k : a6} {p h n : Nat} {m : Mo} {b : Int} {d : D}
def lN (ls : List D) : List D := (List.range ls.length).zipWith (fun i x => D.tup [.int (i : Nat), x]) ls
end
theorem HV {f : Nat → Option PyData} : ∀ {xs : List D} {ps : List PyData}, D.pysR f xs = some ps → ps.length = xs.length
 | [], ps, h => by simp only [D.pysR, af] at h; subst h; rfl
 | x :: xs, ps, h => by
  simp only [D.pysR] at h
  split at h
  ·rename_i p ps' e1 e2
   cases h
   simp [HV e2]
  ·cases h
theorem KQ {w : W} {ys : List D} : zQ (.lst ys) (.lst []) w = some ys.isEmpty := by
 unfold zQ
 cases h : sV (.lst ys) (.lst []) w with
 | none => rfl
 | some b =>
  unfold sV at h
  have e2 : D.py w (.lst []) = some (.list []) := rfl
  rw [e2] at h
  split at h
  ·rename_i p q e3 e4
   cases e4
   split at h
   ·cases h
    unfold D.py D.eS at e3
    obtain ⟨ps, q1, rfl⟩ := aj.mp e3
    have hl := HV q1
    cases ys with
    | nil => cases ps with
     | nil => rfl
     | cons => simp at hl
    | cons y ys => cases ps with
     | nil => simp at hl
     | cons => rfl
   ·cases h
  ·cases h
theorem wB {w : W} {ys : List D} : zQ (.tup ys) (.tup []) w = some ys.isEmpty := by
 unfold zQ
 cases h : sV (.tup ys) (.tup []) w with
 | none => rfl
 | some b =>
  unfold sV at h
  have e2 : D.py w (.tup []) = some (.tuple []) := rfl
  rw [e2] at h
  split at h
  ·rename_i p q e3 e4
   cases e4
   split at h
   ·cases h
    unfold D.py D.eS at e3
    obtain ⟨ps, q1, rfl⟩ := aj.mp e3
    have hl := HV q1
    cases ys with
    | nil => cases ps with
     | nil => rfl
     | cons => simp at hl
    | cons y ys => cases ps with
     | nil => simp at hl
     | cons => rfl
   ·cases h
  ·cases h
section
variable {w : W} {P : D → W → Prop} {k : a6} {p h n i : Nat} {m : Mo} {b : Int} {d : D}
theorem QI {ys : List D} (h : ∀ y ∈ ys, kR n y = true) (hn : n ≤ 60) : zQ (.lst ys) (.lst []) w = some ys.isEmpty := KQ
theorem ne_nil {ys : List D} (h : ∀ y ∈ ys, kR n y = true) (hn : n ≤ 60) : T (mS (.lst ys) (.lst []) w) P = P (.bl (!ys.isEmpty)) w := by
 rw [FO, QI h hn]
 simp
theorem eq_nil {ys : List D} (h : ∀ y ∈ ys, kR n y = true) (hn : n ≤ 60) : T (dD (.lst ys) (.lst []) w) P = P (.bl ys.isEmpty) w := by
 rw [pD, QI h hn]
 simp
end
section
variable {w : W} {P : D → W → Prop} {k : a6} {p h n i : Nat} {m : Mo} {b : Int} {d : D}
theorem VB : ∀ {ds : List Int}, ((ds.dropLast.zip ds.tail).all fun q => decide (q.1 < q.2)) = decide (ds = hH ds) := by
 intro ds
 have pw : ∀ ds : List Int, ((ds.dropLast.zip ds.tail).all fun q => decide (q.1 < q.2)) = true ↔ ds.Pairwise (· < ·) := by
  intro ds
  induction ds with
  | nil => simp
  | cons a ds ih =>
   cases ds with
   | nil => simp
   | cons c ds =>
    simp only [List.dropLast_cons₂, List.tail_cons, List.zip_cons_cons, List.all_cons, ag, ai]
    have ih' : ((c :: ds).dropLast.zip ds).all (fun q => decide (q.1 < q.2)) = true ↔ (c :: ds).Pairwise (· < ·) := ih
    rw [ih']
    constructor
    ·rintro ⟨h1, h2⟩
     refine List.pairwise_cons.mpr ⟨fun y hy => ?_, h2⟩
     rcases au.mp hy with rfl | hy
     ·exact h1
     ·have := (List.pairwise_cons.mp h2).1 y hy
      omega
    ·intro h
     obtain ⟨h1, h2⟩ := List.pairwise_cons.mp h
     exact ⟨h1 c (aq ..), h2⟩
 rw [Bool.eq_iff_iff, pw, ai]
 constructor
 ·intro h
  exact rS h gY fun k => lD.symm
 ·intro h
  rw [h]
  exact gY
end
section
variable {w : W} {P : D → W → Prop} {k : a6} {p h n i : Nat} {m : Mo} {b : Int} {d : D}
theorem oI : ∀ {l : List Int}, jQ (l.map D.int) = some l
 | [] => rfl
 | a :: l => by simp [jQ, oI (l := l)]
end
theorem oK {it : kP} {vs : List Nat} {g : MG} {t : MT} {e : ME} {σ : Sg} {w : W} {P : List D → W → Prop} (F : D → Prop) (hok : ∀ w, it.ok w) (hd : q9 w 1 0)
  (step : ∀ (j : Nat) (x : D) (w' : W), it.xs[j]? = some x → q9 w' 1 0 → Pc.Kept w w' 1 0 → T (g x (bV σ vs) w') fun σ1 w1 => T (t σ1 w1) fun b w2 => (q9 w2 1 0 ∧ Pc.Kept w w2 1 0) ∧ (b = true → T (e σ1 w2) fun y w3 => F y ∧ q9 w3 1 0 ∧ Pc.Kept w w3 1 0))
  (fin : ∀ ys w', (∀ y ∈ ys, F y) → ys.length ≤ it.xs.length → q9 w' 1 0 → Pc.Kept w w' 1 0 → P ys w') : T (iY it vs g t e it.xs σ w) P := by
 refine GR (fun j acc w' => (∀ y ∈ acc, F y) ∧ acc.length ≤ j ∧ q9 w' 1 0 ∧ Pc.Kept w w' 1 0) (fun _ _ w' _ => hok w') ⟨by simp, by simp, hd, .refl⟩ (fun j x acc w' hx ⟨h1, h2, h3, h4⟩ => ?_) fun acc w' ⟨h1, h2, h3, h4⟩ => fin acc w' h1 h2 h3 h4
 refine (step j x w' hx h3 h4).mono fun σ1 w1 _ q => q.mono fun b w2 _ q => ?_
 obtain ⟨⟨q1, q2⟩, q⟩ := q
 by_cases hb : b = true
 ·rw [if_pos hb]
  refine (q hb).mono fun y w3 _ q => ⟨fun z hz => ?_, by simp; omega, q.2.1, q.2.2⟩
  rcases bq.mp hz with hz | hz
  ·exact h1 z hz
  ·simp at hz; subst hz; exact q.1
 ·rw [if_neg hb]
  exact ⟨h1, by omega, q1, q2⟩
theorem K6 {k : Int} : ∀ {xs : List Int}, (wF k xs).length ≤ xs.length + 1
 | [] => by simp [wF]
 | x :: xs => by
  unfold wF
  split
  ·simp
  ·split
   ·simp
   ·have := K6 (k := k) (xs := xs)
    simp only [List.length_cons]; omega
theorem D4 : ∀ {xs : List Int}, (hH xs).length ≤ xs.length
 | [] => az _
 | x :: xs => by
  have e : hH (x :: xs) = wF x (hH xs) := rfl
  have h1 := D4 (xs := xs)
  have h2 := K6 (k := x) (xs := hH xs)
  rw [e, List.length_cons]; omega
def RQ : List (Str × Option D) := [(("fall" : Str), some (.int 1)), (("stop" : Str), some (.int 1)), (("rise" : Str), some (.int 1)), (("down" : Str), some (.int 1)), (("up" : Str), some (.int 1)), (("rank" : Str), some (.int 3)), (("tear" : Str), some (.int 2)), (("heal" : Str), some (.int 0)), (("ask" : Str), some (.int 2))]
def DP : List Str := [("plan" : Str), ("state" : Str), ("host" : Str), ("address" : Str), ("told" : Str)]
def DM (k : a6) : MS :=
 (aJ (aO (aD aZ (aD aZ (aD aZ (aB 1) (eC (.int 7))) (aB 2)) (aB 3)) (aN 4))
 (aJ (cO (fX (aU (aD M4 (aB 4) (eC (.int 0)))) (aU (aD mS (aD aZ (aD aZ (aB 1) (eC (.int 1))) (aB 4)) (aD aZ (aD aZ (aB 1) (eC (.int 1))) (aD bH (aL (LK k.cZ (fG k)) (aA (aB 0) aC)) (aB 2)))))) (aQ (eC (.bl false))) aV)
 (aQ (aD dD (aD aZ (aD aZ (aD aZ (aD aZ (aB 1) (eC (.int 4))) (aB 3)) (aB 4)) (eC (.int 0))) (eC (.str ("serves" : Str)))))))
def DO (k : a6) : MF := a7 (DM k) DP
def aBU : List Str := [("row" : Str), ("at" : Str), ("thing" : Str)]
def aCg (k : a6) : MS :=
 (aQ (aD bH (aD bH (qF m9 (aB 0) c6 (cG (aB 1))) (a8 (aA (aB 2) aC))) (qF m9 (aB 0) (cG (aD bH (aB 1) (eC (.int 1)))) c6)))
def lS (k : a6) : MF := a7 (aCg k) aBU
def O8 : List Str := [("plan" : Str), ("state" : Str), ("host" : Str), ("address" : Str), ("many" : Str), ("dropped" : Str), ("told" : Str)]
def NH (k : a6) : MS :=
 (aJ (aO (aD aZ (aD aZ (aB 1) (eC (.int 8))) (aB 2)) (bJ 2 (aH (aN 4) (aH (aN 5) bD))))
 (aJ (aO (a8 (aA (aD bH (aB 4) (eC (.int 1))) (aA (aD bH (aB 5) (aL AS (aA (zN notM (aI (DO k) 4 aK (aA (aB 0) (aA (aB 1) (aA (aB 2) (aA (aB 3) aC)))))) aC))) aC))) (aN 6))
 (aQ (aI (lS k) 3 aK (aA (aB 1) (aA (eC (.int 8)) (aA (aI (lS k) 3 aK (aA (aD aZ (aB 1) (eC (.int 8))) (aA (aB 2) (aA (aB 6) aC)))) aC)))))))
def NR (k : a6) : MF := a7 (NH k) O8
def wR : List Str := [("plan" : Str)]
def wN (k : a6) : MS :=
 (aQ (aL cU (aA (cX k.cZ ("ranks" : Str) (aB 0)) aC)))
def dA (k : a6) : MF := a7 (wN k) wR
def K3 : List Str := [("state" : Str), ("house" : Str), ("lives" : Str)]
def I8 (k : a6) : MS :=
 (aQ (aI (lS k) 3 aK (aA (aB 0) (aA (eC (.int 0)) (aA (aI (lS k) 3 aK (aA (aD aZ (aB 0) (eC (.int 0))) (aA (aB 1) (aA (aB 2) aC)))) aC)))))
def yH (k : a6) : MF := a7 (I8 k) K3
def C6 : List Str := [("state" : Str), ("house" : Str), ("stands" : Str), ("rows" : Str), ("row" : Str), ("stand" : Str)]
def DJ (k : a6) : MS :=
 (aJ (aO (aL bW (aA (aS (cK zmM (aA (aD aZ (aB 0) (eC (.int 4))) (aA (aB 2) aC))) [4, 5] (bJ 2 (aH (aN 4) (aH (aN 5) bD))) aT (aI (lS k) 3 aK (aA (aB 4) (aA (aB 1) (aA (aB 5) aC))))) aC)) (aN 3))
 (aQ (aI (lS k) 3 aK (aA (aB 0) (aA (eC (.int 4)) (aA (aB 3) aC))))))
def sQ (k : a6) : MF := a7 (DJ k) C6
def UC : List Str := [("plan" : Str), ("state" : Str), ("house" : Str)]
def U4 (k : a6) : MS :=
 (aQ (aI (sQ k) 3 aK (aA (aI (yH k) 3 aK (aA (aB 1) (aA (aB 2) (aA (eC (.int 0)) aC)))) (aA (aB 2) (aA (aD mulM (i3 (aA (a8 (aA (eC (.str ("rests" : Str))) (aA (eC (.int 0)) aC))) aC)) (aI (dA k) 1 aK (aA (aB 0) aC))) aC)))))
def LV (k : a6) : MF := a7 (U4 k) UC
def OS : List Str := [("plan" : Str), ("state" : Str), ("address" : Str), ("house" : Str), ("downs" : Str), ("ranks" : Str), ("taken" : Str), ("one" : Str), ("tie" : Str), ("less" : Str)]
def O9 (k : a6) : MS :=
 (aJ (aO (a8 (aA (aD aZ (aB 1) (eC (.int 2))) (aA (aD aZ (aB 1) (eC (.int 3))) aC))) (bJ 2 (aH (aN 4) (aH (aN 5) bD))))
 (aJ (aO (aL LF (aA (aS (bK (cX k.cZ ("ties" : Str) (aB 0))) [7, 8, 9] (bJ 3 (aH (aN 7) (aH (aN 8) (aH (aN 9) bD)))) (fW (aU (aD dD (aB 7) (aB 3))) (aU (aD JR (aB 8) (aB 4)))) (aB 9)) aC)) (aN 6))
 (aQ (aL max2 (aA (eC (.int 1)) (aA (aD pB (aD aZ (aD aZ (aB 5) (aB 2)) (aB 3)) (aB 6)) aC))))))
def lT (k : a6) : MF := a7 (O9 k) OS
def DX : List Str := [("plan" : Str), ("state" : Str), ("address" : Str), ("house" : Str)]
def DN (k : a6) : MS :=
 (aQ (aD bH (aI (ER k) 2 aK (aA (aB 0) (aA (aI (lT k) 4 aK (aA (aB 0) (aA (aB 1) (aA (aB 2) (aA (aB 3) aC))))) aC))) (cX k.cZ ("hold" : Str) (aB 0))))
def nK (k : a6) : MF := a7 (DN k) DX
def D3 : List Str := [("plan" : Str), ("ahead" : Str), ("state" : Str), ("address" : Str), ("house" : Str), ("role" : Str), ("clock" : Str), ("row" : Str)]
def DQ (k : a6) : MS :=
 (aJ (fY (cK gG (aA (aI (dA k) 1 aK (aA (aB 0) aC)) aC)) (aN 3) (fY (cK gG (aA (aL (LK k.cZ (fG k)) (aA (aB 0) aC)) aC)) (aN 4) (aJ (aO (aD aZ (aD aZ (aD aZ (aB 2) (eC (.int 4))) (aB 3)) (aB 4)) (bJ 2 (aH (aN 5) (aH (aN 6) bD))))
 (cO (fW (aU (aD dD (aB 5) (eC (.str ("waits" : Str))))) (aU (aD QY (aI (lT k) 4 aK (aA (aB 0) (aA (aB 2) (aA (aB 3) (aA (aB 4) aC))))) (aI (lT k) 4 aK (aA (aB 0) (aA (aB 1) (aA (aB 3) (aA (aB 4) aC)))))))) (aJ (aO (aL max2 (aA (aB 6) (aA (aI (nK k) 4 aK (aA (aB 0) (aA (aB 2) (aA (aB 3) (aA (aB 4) aC))))) aC))) (aN 6))
 (aJ (aO (aI (lS k) 3 aK (aA (aD aZ (aD aZ (aB 2) (eC (.int 4))) (aB 3)) (aA (aB 4) (aA (a8 (aA (aB 5) (aA (aB 6) aC))) aC)))) (aN 7))
 (aO (aI (lS k) 3 aK (aA (aB 2) (aA (eC (.int 4)) (aA (aI (lS k) 3 aK (aA (aD aZ (aB 2) (eC (.int 4))) (aA (aB 3) (aA (aB 7) aC)))) aC)))) (aN 2)))) aV))))
 (aQ (aB 2)))
def nC (k : a6) : MF := a7 (DQ k) D3
def XZ : List Str := [("plan" : Str), ("state" : Str), ("house" : Str), ("stands" : Str), ("address" : Str)]
def ZP (k : a6) : MS :=
 (aJ (aO (aS (cK gG (aA (aI (dA k) 1 aK (aA (aB 0) aC)) aC)) [4] (aN 4) aT (a8 (aA (eC (.str ("waits" : Str))) (aA (aI (nK k) 4 aK (aA (aB 0) (aA (aB 1) (aA (aB 4) (aA (aB 2) aC))))) aC)))) (aN 3))
 (aQ (aI (sQ k) 3 aK (aA (aI (yH k) 3 aK (aA (aB 1) (aA (aB 2) (aA (eC (.int 1)) aC)))) (aA (aB 2) (aA (aB 3) aC))))))
def ZA (k : a6) : MF := a7 (ZP k) XZ
def NK : List Str := [("lacks" : Str), ("sent" : Str), ("fates" : Str), ("found" : Str), ("address" : Str), ("sender" : Str), ("receiver" : Str), ("rank" : Str), ("lost" : Str), ("rows" : Str), ("own" : Str), ("houses" : Str), ("row" : Str), ("many" : Str)]
def N9 (k : a6) : MS :=
 (aJ (aO FP (aN 3))
 (aJ (fY (bK (aB 1)) (bJ 4 (aH (aN 4) (aH (aN 5) (aH (aN 6) (aH (aN 7) bD))))) (aJ (aO (aD dD (bA "dict" getM (aB 2) (aA (a8 (aA (aB 4) (aA (aB 5) (aA (aB 6) aC)))) (aA (eC (.int 1)) aC))) (eC (.int 0))) (aN 8))
 (aO (wW (eA (aB 8)) (aD bH (aD aZ (aD aZ (aD aZ (aB 0) (aB 4)) (aB 5)) (aB 6)) (eC (.int 1))) (eC (.int 0))) (c8 (aB 3) (a8 (aA (aB 4) (aA (aB 5) (aA (aB 6) aC))))))))
 (aJ (cO (aU (aD eqE (aB 3) FP)) (aQ (aB 0)) aV)
 (aJ (aO (eNew aC) (aN 9))
 (aJ (fY (cK zW (aA (aB 0) aC)) (bJ 2 (aH (aN 4) (aH (aN 10) bD))) (aJ (aO (eNew aC) (aN 11))
 (aJ (fY (cK zW (aA (aB 10) aC)) (bJ 2 (aH (aN 5) (aH (aN 12) bD))) (cF (bA "list" b8 (aB 11) (aA (aL bW (aA (aS (cK zW (aA (aB 12) aC)) [6, 13] (bJ 2 (aH (aN 6) (aH (aN 13) bD))) aT (bA "dict" getM (aB 3) (aA (a8 (aA (aB 4) (aA (aB 5) (aA (aB 6) aC)))) (aA (aB 13) aC)))) aC)) aC))))
 (cF (bA "list" b8 (aB 9) (aA (aL bW (aA (aB 11) aC)) aC))))))
 (aQ (aL bW (aA (aB 9) aC))))))))
def BZ (k : a6) : MF := a7 (N9 k) NK
def HR : List Str := [("sent" : Str), ("fates" : Str), ("found" : Str), ("address" : Str), ("sender" : Str), ("receiver" : Str), ("rank" : Str), ("fate" : Str)]
def IM (k : a6) : MS :=
 (aJ (aO (eNew aC) (aN 2))
 (aJ (fY (bK (aB 0)) (bJ 4 (aH (aN 3) (aH (aN 4) (aH (aN 5) (aH (aN 6) bD))))) (aJ (aO (bA "dict" getM (aB 1) (aA (a8 (aA (aB 3) (aA (aB 4) (aA (aB 5) aC)))) (aA (eC (.int 1)) aC))) (aN 7))
 (cO (aU (aD QY (aB 7) (eC (.int 0)))) (cF (bA "list" b8 (aB 2) (aA (a8 (aA (aB 7) (aA (aB 3) (aA (aB 4) (aA (aB 5) (aA (aB 6) aC)))))) aC))) aV)))
 (aQ (aL bW (aA (aB 2) aC)))))
def uW (k : a6) : MF := a7 (IM k) HR
def B4 : List Str := [("plan" : Str), ("state" : Str), ("house" : Str), ("living" : Str), ("parts" : Str), ("found" : Str), ("receiver" : Str), ("part" : Str)]
def CT (k : a6) : MS :=
 (aJ (GY 3 4 (aA (aD aZ (aB 1) (eC (.int 0))) (aA (aD aZ (aB 1) (eC (.int 1))) aC)))
 (aJ (aO (eNew aC) (aN 5))
 (aJ (fY (cK zW (aA (aB 4) aC)) (bJ 2 (aH (aN 6) (aH (aN 7) bD))) (cO (fW (aU (aD mS (aB 6) (aB 2))) (fW (aU (aD dD (aB 7) (aD aZ (aB 4) (aB 2)))) (fX (aU (aD XT (aB 6) (aL (LK k.cZ (fG k)) (aA (aB 0) aC)))) (aU (aD dD (aD aZ (aB 3) (aB 6)) (eC (.int 1))))))) (cF (bA "list" b8 (aB 5) (aA (aB 6) aC))) aV))
 (aQ (aL bW (aA (aB 5) aC))))))
def pZ (k : a6) : MF := a7 (CT k) B4
def CP : List Str := [("plan" : Str), ("state" : Str), ("address" : Str), ("house" : Str), ("rank" : Str), ("fates" : Str), ("sent" : Str), ("letters" : Str), ("receiver" : Str)]
def CZ (k : a6) : MS :=
 (aJ (aO (aS (bK (aI (pZ k) 3 aK (aA (aB 0) (aA (aB 1) (aA (aB 3) aC))))) [8] (aN 8) aT (a8 (aA (aB 2) (aA (aB 3) (aA (aB 8) (aA (aB 4) aC)))))) (aN 6))
 (aJ (aO (aD bH (aD aZ (aB 1) (eC (.int 5))) (aI (uW k) 2 aK (aA (aB 6) (aA (aB 5) aC)))) (aN 7))
 (aQ (aD bH (aD bH (qF m9 (aB 1) c6 (cG (eC (.int 5)))) (a8 (aA (aB 7) (aA (aI (BZ k) 3 aK (aA (aD aZ (aB 1) (eC (.int 6))) (aA (aB 6) (aA (aB 5) aC)))) aC)))) (qF m9 (aB 1) (cG (aD bH (eC (.int 6)) (eC (.int 1)))) c6)))))
def BH (k : a6) : MF := a7 (CZ k) CP
def R1 : List Str := [("plan" : Str), ("state" : Str), ("house" : Str), ("fates" : Str), ("address" : Str), ("row" : Str)]
def R8 (k : a6) : MS :=
 (aJ (fY (cK zW (aA (aD aZ (aB 1) (eC (.int 4))) aC)) (bJ 2 (aH (aN 4) (aH (aN 5) bD))) (cO (aU (aD dD (aD aZ (aD aZ (aB 5) (aB 2)) (eC (.int 0))) (eC (.str ("serves" : Str))))) (aO (aI (BH k) 6 aK (aA (aB 0) (aA (aB 1) (aA (aB 4) (aA (aB 2) (aA (eC (.int 0)) (aA (aB 3) aC))))))) (aN 1)) aV))
 (aQ (aI (LV k) 3 aK (aA (aB 0) (aA (aB 1) (aA (aB 2) aC))))))
def RG (k : a6) : MF := a7 (R8 k) R1
def IW : List Str := [("plan" : Str), ("state" : Str), ("houses" : Str), ("hosts" : Str), ("there" : Str), ("host" : Str), ("place" : Str)]
def KC (k : a6) : MS :=
 (aJ (aO (aD bH (aB 2) (aL bW (aA (aS (bK (aB 3)) [5] (aN 5) aT (aD bH (aL (LK k.cZ (fG k)) (aA (aB 0) aC)) (aB 5))) aC))) (aN 4))
 (aQ (aI (lS k) 3 aK (aA (aB 1) (aA (eC (.int 1)) (aA (aL bW (aA (aS (cK gG (aA (aL cU (aA (aD aZ (aB 1) (eC (.int 1))) aC)) aC)) [6] (aN 6) aT (aL AS (aA (aD JR (aB 6) (aB 4)) aC))) aC)) aC))))))
def x5 (k : a6) : MF := a7 (KC k) IW
def JZ : List Str := [("plan" : Str), ("state" : Str), ("deed" : Str), ("fates" : Str), ("word" : Str), ("rest" : Str), ("downs" : Str), ("address" : Str), ("house" : Str), ("rank" : Str), ("ranks" : Str), ("tie" : Str)]
def KD (k : a6) : MS :=
 (aJ (aO (aB 2) (pQ 1 (aH (aN 4) (aH (aN 5) bD))))
 (aJ (cO (aU (aD dD (aB 4) (eC (.str ("fall" : Str))))) (aQ (aI (LV k) 3 aK (aA (aB 0) (aA (aB 1) (aA (aD aZ (aB 5) (eC (.int 0))) aC))))) aV)
 (aJ (cO (aU (aD dD (aB 4) (eC (.str ("stop" : Str))))) (aQ (aI (RG k) 4 aK (aA (aB 0) (aA (aB 1) (aA (aD aZ (aB 5) (eC (.int 0))) (aA (aB 3) aC)))))) aV)
 (aJ (cO (aU (aD dD (aB 4) (eC (.str ("rise" : Str))))) (aQ (aI (ZA k) 3 aK (aA (aB 0) (aA (aB 1) (aA (aD aZ (aB 5) (eC (.int 0))) aC))))) aV)
 (aJ (cO (aU (aD dD (aB 4) (eC (.str ("down" : Str))))) (aQ (aI (nC k) 3 aK (aA (aB 0) (aA (aB 1) (aA (aI (lS k) 3 aK (aA (aB 1) (aA (eC (.int 2)) (aA (aL bW (aA (aL YO (aA (aD bH (aD aZ (aB 1) (eC (.int 2))) (a8 (aA (aD aZ (aB 5) (eC (.int 0))) aC))) aC)) aC)) aC)))) aC))))) aV)
 (aJ (cO (aU (aD dD (aB 4) (eC (.str ("up" : Str))))) (aJ (aO (aL bW (aA (aS (bK (aD aZ (aB 1) (eC (.int 2)))) [11] (aN 11) (aU (aD mS (aB 11) (aD aZ (aB 5) (eC (.int 0))))) (aB 11)) aC)) (aN 6))
 (aQ (aI (nC k) 3 aK (aA (aB 0) (aA (aB 1) (aA (aI (lS k) 3 aK (aA (aB 1) (aA (eC (.int 2)) (aA (aB 6) aC)))) aC)))))) aV)
 (aJ (cO (aU (aD dD (aB 4) (eC (.str ("rank" : Str))))) (aJ (aO (aB 5) (aAc 3 (aH (aN 7) (aH (aN 8) (aH (aN 9) bD)))))
 (aJ (aO (aI (lS k) 3 aK (aA (aD aZ (aB 1) (eC (.int 3))) (aA (aB 7) (aA (aI (lS k) 3 aK (aA (aD aZ (aD aZ (aB 1) (eC (.int 3))) (aB 7)) (aA (aB 8) (aA (aB 9) aC)))) aC)))) (aN 10))
 (aQ (aI (nC k) 3 aK (aA (aB 0) (aA (aB 1) (aA (aI (lS k) 3 aK (aA (aB 1) (aA (eC (.int 3)) (aA (aB 10) aC)))) aC))))))) aV)
 (aJ (cO (aU (aD dD (aB 4) (eC (.str ("tear" : Str))))) (aQ (aI (x5 k) 4 aK (aA (aB 0) (aA (aB 1) (aA (aD aZ (aB 5) (eC (.int 0))) (aA (aD aZ (aB 5) (eC (.int 1))) aC)))))) aV)
 (aJ (cO (aU (aD dD (aB 4) (eC (.str ("heal" : Str))))) (aQ (aI (x5 k) 4 aK (aA (aB 0) (aA (aB 1) (aA (a8 aC) (aA (a8 aC) aC)))))) aV)
 (aQ (aI (NR k) 4 aK (aA (aB 0) (aA (aB 1) (aA (aD aZ (aB 5) (eC (.int 0))) (aA (aD aZ (aB 5) (eC (.int 1))) aC)))))))))))))))
def JP (k : a6) : MF := a7 (KD k) JZ
def OR : List Str := [("thing" : Str), ("many" : Str), ("one" : Str), ("other" : Str)]
def O7 (k : a6) : MS :=
 (aJ (cO (fX (cH (eA (aL (fZ gI) (aA (aB 0) (aA (eC (.ty "tuple")) aC))))) (cH (eA (aL allM (aA (aS (bK (aB 0)) [2] (aN 2) aT (aI (bM k) 3 aK (aA (aB 2) (aA (eC (.int 0)) (aA (aD pB (aB 1) (eC (.int 1))) aC))))) aC))))) (aQ (eC (.bl false))) aV)
 (aQ (aL allM (aA (aS (cK Z1 (aA (qF m9 (aB 0) c6 (cG (zN y7 (eC (.int 1))))) (aA (qF m9 (aB 0) (cG (eC (.int 1))) c6) aC))) [2, 3] (bJ 2 (aH (aN 2) (aH (aN 3) bD))) aT (aD M4 (aB 2) (aB 3))) aC))))
def A2 (k : a6) : MF := a7 (O7 k) OR
def PQ : List Str := [("plan" : Str), ("state" : Str), ("houses" : Str), ("hosts" : Str)]
def N4 (k : a6) : MS :=
 (aJ (cO (fX (eA (aL anyM (aA (aD aZ (aB 1) (eC (.int 1))) aC))) (fX (cH (eA (aI (A2 k) 2 aK (aA (aB 2) (aA (aL (LK k.cZ (fG k)) (aA (aB 0) aC)) aC))))) (cH (eA (aI (A2 k) 2 aK (aA (aB 3) (aA (cX k.cZ ("hosts" : Str) (aB 0)) aC))))))) (aQ (eC (.bl false))) aV)
 (aQ (SU M4 M4 (eC (.int 0)) (aL cU (aA (aB 2) aC)) (aL (LK k.cZ (fG k)) (aA (aB 0) aC)))))
def OW (k : a6) : MF := a7 (N4 k) PQ
def B9 : List Str := [("plan" : Str), ("address" : Str), ("house" : Str), ("rank" : Str)]
def BJ (k : a6) : MS :=
 (aJ (cO (fX (cH (eA (aI (bM k) 3 aK (aA (aB 1) (aA (eC (.int 0)) (aA (aD pB (aI (dA k) 1 aK (aA (aB 0) aC)) (eC (.int 1))) aC)))))) (cH (eA (aI (bM k) 3 aK (aA (aB 2) (aA (eC (.int 0)) (aA (aD pB (aL (LK k.cZ (fG k)) (aA (aB 0) aC)) (eC (.int 1))) aC))))))) (aQ (eC (.bl false))) aV)
 (aQ (aI (bM k) 3 aK (aA (aB 3) (aA (eC (.int 1)) (aA (eC (.int 12)) aC))))))
def AR (k : a6) : MF := a7 (BJ k) B9
def BC : List Str := [("plan" : Str), ("thing" : Str), ("house" : Str), ("tie" : Str), ("less" : Str)]
def AB (k : a6) : MS :=
 (aQ (fK (aI (bM k) 3 aK (aA (aB 1) (aA (eC (.int 0)) (aA (eC (.int 9)) aC)))) (aD JR (aB 1) (aS (bK (cX k.cZ ("ties" : Str) (aB 0))) [2, 3, 4] (bJ 3 (aH (aN 2) (aH (aN 3) (aH (aN 4) bD)))) aT (aB 3)))))
def BA (k : a6) : MF := a7 (AB k) BC
def SK : List Str := [("plan" : Str), ("state" : Str), ("thing" : Str), ("word" : Str), ("rest" : Str)]
def SN (k : a6) (tS : Addr) : MS :=
 (aJ (cO (fX (cH (eA (aL (fZ gI) (aA (aB 2) (aA (eC (.ty "tuple")) aC))))) (fX (aU (aD dD (aB 2) (a8 aC))) (cH (eA (aL (fZ gI) (aA (aD aZ (aB 2) (eC (.int 0))) (aA (eC (.ty "str")) aC))))))) (aQ (eC (.bl false))) aV)
 (aJ (aO (aB 2) (pQ 1 (aH (aN 3) (aH (aN 4) bD))))
 (aJ (cO (aU (aD mS (aL cU (aA (aB 4) aC)) (aCt tS RQ (eC (.con tS)) (aA (aB 3) (aA (zN y7 (eC (.int 1))) aC))))) (aQ (eC (.bl false))) aV)
 (aJ (cO (aU (aD JR (aB 3) (a8 (aA (eC (.str ("fall" : Str))) (aA (eC (.str ("stop" : Str))) (aA (eC (.str ("rise" : Str))) aC)))))) (aQ (fK (aI (bM k) 3 aK (aA (aD aZ (aB 4) (eC (.int 0))) (aA (eC (.int 0)) (aA (aD pB (aL (LK k.cZ (fG k)) (aA (aB 0) aC)) (eC (.int 1))) aC)))) (aD dD (aD aZ (aD aZ (aB 1) (eC (.int 0))) (aD aZ (aB 4) (eC (.int 0)))) (aL AS (aA (aD mS (aB 3) (eC (.str ("rise" : Str)))) aC))))) aV)
 (aJ (cO (aU (aD JR (aB 3) (a8 (aA (eC (.str ("down" : Str))) (aA (eC (.str ("up" : Str))) aC))))) (aQ (fK (aI (BA k) 2 aK (aA (aB 0) (aA (aD aZ (aB 4) (eC (.int 0))) aC))) (aD dD (aD JR (aD aZ (aB 4) (eC (.int 0))) (aD aZ (aB 1) (eC (.int 2)))) (aD dD (aB 3) (eC (.str ("up" : Str))))))) aV)
 (aJ (cO (aU (aD dD (aB 3) (eC (.str ("rank" : Str))))) (aQ (aI (AR k) 4 aK (aA (aB 0) (aA (aD aZ (aB 4) (eC (.int 0))) (aA (aD aZ (aB 4) (eC (.int 1))) (aA (aD aZ (aB 4) (eC (.int 2))) aC)))))) aV)
 (aJ (cO (aU (aD dD (aB 3) (eC (.str ("tear" : Str))))) (aQ (aI (OW k) 4 aK (aA (aB 0) (aA (aB 1) (aA (aD aZ (aB 4) (eC (.int 0))) (aA (aD aZ (aB 4) (eC (.int 1))) aC)))))) aV)
 (aJ (cO (aU (aD dD (aB 3) (eC (.str ("heal" : Str))))) (aQ (aL anyM (aA (aD aZ (aB 1) (eC (.int 1))) aC))) aV)
 (aQ (fK (aI (bM k) 3 aK (aA (aD aZ (aB 4) (eC (.int 0))) (aA (eC (.int 0)) (aA (aD pB (cX k.cZ ("hosts" : Str) (aB 0)) (eC (.int 1))) aC)))) (aI (bM k) 3 aK (aA (aD aZ (aB 4) (eC (.int 1))) (aA (eC (.int 0)) (aA (aD pB (aI (dA k) 1 aK (aA (aB 0) aC)) (eC (.int 1))) aC))))))))))))))
def SM (k : a6) (tS : Addr) : MF := a7 (SN k tS) SK
end Lb
namespace Lw
open PySem PySem.Spec PyProof.Rows L2 Pc Lb
def I7 : List Str := [("_law_model_here" : Str), ("_law_world_here" : Str), ("_law_a" : Str), ("_law_h" : Str), ("_law_down" : Str), ("_law_house" : Str), ("_law_tie" : Str), ("_law_less" : Str)]
def L1 (k : a6) : MS :=
 (aJ (aO (aL LF (aA (aS (bK (aD aZ (aB 0) (eC (.str ("ties" : Str))))) [5, 6, 7] (bJ 3 (aH (aN 5) (aH (aN 6) (aH (aN 7) bD)))) (fW (aU (aD dD (aB 5) (aB 3))) (aU (aD JR (aB 6) (aD aZ (aB 1) (eC (.str ("downs" : Str))))))) (aB 7)) aC)) (aN 4))
 (aQ (aL max2 (aA (eC (.int 1)) (aA (aD pB (aD aZ (aD aZ (aD aZ (aB 1) (eC (.str ("ranks" : Str)))) (aB 2)) (aB 3)) (aB 4)) aC)))))
def jR (k : a6) : MF := a7 (L1 k) I7
def LJ : List Str := [("_law_model_here" : Str), ("_law_rank_here" : Str), ("_law_whole" : Str)]
def KW (k : a6) : MS :=
 (aJ (aO (aD bH (aD mulM (aD bH (aD aZ (aB 0) (eC (.str ("bears" : Str)))) (eC (.int 1))) (aD aZ (aB 0) (eC (.str ("every" : Str))))) (aD aZ (aB 0) (eC (.str ("slow" : Str))))) (aN 2))
 (aQ (aD bH (aB 2) (aD mulM (aD aZ (aB 0) (eC (.str ("gap" : Str)))) (aD pB (eC (.int 12)) (aB 1))))))
def yL (k : a6) : MF := a7 (KW k) LJ
def HW : List Str := [("_law_model_here" : Str), ("_law_world_here" : Str), ("_law_a" : Str), ("_law_h" : Str)]
def FN (k : a6) : MS :=
 (aQ (eNew (aA (eC (.str ("waits" : Str))) (aA (aD bH (aI (yL k) 2 aK (aA (aB 0) (aA (aI (jR k) 4 aK (aA (aB 0) (aA (aB 1) (aA (aB 2) (aA (aB 3) aC))))) aC))) (aD aZ (aB 0) (eC (.str ("hold" : Str))))) aC))))
def pG (k : a6) : MF := a7 (FN k) HW
def u4 : List Str := [("_law_lots" : Str), ("_law_one" : Str)]
def uY (k : a6) : MS :=
 (aQ (aL aCc (aA (aS (bK (aB 0)) [1] (aN 1) aT (a8 (aA (qF m9 (aB 1) c6 (cG (eC (.int 3)))) (aA (aD aZ (aB 1) (eC (.int 3))) aC)))) aC)))
def vD (k : a6) : MF := a7 (uY k) u4
def GJ : List Str := [("_law_world_here" : Str), ("_law_host" : Str), ("_law_a" : Str), ("_law_told" : Str), ("_law_many" : Str), ("_law_good" : Str)]
def IT (k : a6) : MS :=
 (aJ (aO (aD aZ (aD aZ (aD aZ (aB 0) (eC (.str ("tables" : Str)))) (aB 1)) (aB 2)) (aN 3))
 (aJ (aO (aL cU (aA (aD aZ (aB 0) (eC (.str ("living" : Str)))) aC)) (aN 4))
 (aJ (aO (fK (aD XT (aB 3) (eC (.int 0))) (aD dD (aD aZ (aD aZ (aB 0) (eC (.str ("parts" : Str)))) (aB 3)) (aD aZ (aD aZ (aB 0) (eC (.str ("parts" : Str)))) (aD bH (aB 4) (aB 1))))) (aN 5))
 (aJ (aO (fK (aB 5) (aD dD (aD aZ (aD aZ (aD aZ (aD aZ (aB 0) (eC (.str ("stands" : Str)))) (aB 2)) (aB 3)) (eC (.int 0))) (eC (.str ("serves" : Str))))) (aN 5))
 (aO (eNew (aA (aD bH (aD aZ (aD aZ (aD aZ (aB 0) (eC (.str ("asks" : Str)))) (aB 1)) (eC (.int 0))) (eC (.int 1))) (aA (aD bH (aD aZ (aD aZ (aD aZ (aB 0) (eC (.str ("asks" : Str)))) (aB 1)) (eC (.int 1))) (aL AS (aA (zN notM (aB 5)) aC))) aC))) (c8 (aD aZ (aB 0) (eC (.str ("asks" : Str)))) (aB 1)))))))
def GX (k : a6) : MF := a7 (IT k) GJ
def IH : List Str := [("_law_world_here" : Str), ("_law_h" : Str), ("_law_news" : Str), ("_law_a" : Str), ("_law_row" : Str)]
def FH (k : a6) : MS :=
 (aJ (aO (eC (.int 0)) (c8 (aD aZ (aB 0) (eC (.str ("living" : Str)))) (aB 1)))
 (fY (cK lN (aA (aD aZ (aB 0) (eC (.str ("stands" : Str)))) aC)) (bJ 2 (aH (aN 3) (aH (aN 4) bD))) (aJ (aO (eNew (aA (eC (.str ("rests" : Str))) (aA (eC (.int 0)) aC))) (c8 (aB 4) (aB 1)))
 (cF (bA "list" b8 (aB 2) (aA (a8 (aA (aB 3) (aA (aB 1) (aA (eC (.str ("rests" : Str))) aC)))) aC))))))
def FQ (k : a6) : MF := a7 (FH k) IH
def J0 : List Str := [("_law_world_here" : Str), ("_law_a" : Str), ("_law_s" : Str), ("_law_rank_here" : Str), ("_law_lots" : Str), ("_law_r" : Str), ("_law_fate" : Str)]
def KA (k : a6) : MS :=
 (fY (cK gG (aA (aL cU (aA (aD aZ (aB 0) (eC (.str ("parts" : Str)))) aC)) aC)) (aN 5) (cO (fW (aU (aD mS (aB 5) (aB 2))) (fW (aU (aD dD (aD aZ (aD aZ (aB 0) (eC (.str ("parts" : Str)))) (aB 5)) (aD aZ (aD aZ (aB 0) (eC (.str ("parts" : Str)))) (aB 2)))) (aU (aD mS (qF m9 (aD aZ (aB 0) (eC (.str ("living" : Str)))) (cG (aB 5)) (cG (aD bH (aB 5) (eC (.int 1))))) (i3 (aA (eC (.int 0)) aC)))))) (aJ (aO (bA "dict" getM (aB 4) (aA (a8 (aA (aB 1) (aA (aB 2) (aA (aB 5) aC)))) (aA (eC (.int 1)) aC))) (aN 6))
 (aJ (aO (wW (aU (aD dD (aB 6) (eC (.int 0)))) (aD bH (bA "dict" getM (aD aZ (aB 0) (eC (.str ("lacks" : Str)))) (aA (a8 (aA (aB 1) (aA (aB 2) (aA (aB 5) aC)))) (aA (eC (.int 0)) aC))) (eC (.int 1))) (eC (.int 0))) (c8 (aD aZ (aB 0) (eC (.str ("lacks" : Str)))) (a8 (aA (aB 1) (aA (aB 2) (aA (aB 5) aC))))))
 (aJ (cF (bA "list" b8 (aD aZ (aB 0) (eC (.str ("sent" : Str)))) (aA (a8 (aA (aB 1) (aA (aB 2) (aA (aB 5) aC)))) aC)))
 (cO (aU (aD QY (aB 6) (eC (.int 0)))) (cF (bA "list" b8 (aD aZ (aB 0) (eC (.str ("under" : Str)))) (aA (a8 (aA (aB 6) (aA (aB 1) (aA (aB 2) (aA (aB 5) (aA (aB 3) aC)))))) aC))) aV)))) aV))
def yJ (k : a6) : MF := a7 (KA k) J0
def DV : List Str := [("_law_model_here" : Str), ("_law_world_here" : Str), ("_law_deed_here" : Str), ("_law_word" : Str), ("_law_rest" : Str), ("_law_many" : Str), ("_law_old" : Str), ("_law_a" : Str), ("_law_row" : Str), ("_law_h" : Str), ("_law_stand" : Str), ("_law_tie" : Str)]
def C4 (k : a6) : MS :=
 (aJ (aO (a8 (aA (aD aZ (aB 2) (eC (.int 0))) (aA (qF m9 (aB 2) (cG (eC (.int 1))) c6) aC))) (bJ 2 (aH (aN 3) (aH (aN 4) bD))))
 (aJ (aO (aL cU (aA (aD aZ (aB 1) (eC (.str ("living" : Str)))) aC)) (aN 5))
 (aJ (aO (aS (cK gG (aA (aL cU (aA (aD aZ (aB 0) (eC (.str ("ranks" : Str)))) aC)) aC)) [7] (aN 7) aT (aS (cK gG (aA (aB 5) aC)) [9] (aN 9) aT (aI (jR k) 4 aK (aA (aB 0) (aA (aB 1) (aA (aB 7) (aA (aB 9) aC))))))) (aN 6))
 (aJ (cO (aU (aD dD (aB 3) (eC (.str ("down" : Str))))) (cF (bA "list" b8 (aD aZ (aB 1) (eC (.str ("downs" : Str)))) (aA (aD aZ (aB 4) (eC (.int 0))) aC))) aV)
 (aJ (cO (aU (aD dD (aB 3) (eC (.str ("up" : Str))))) (aO (OA (bK (aD aZ (aB 1) (eC (.str ("downs" : Str))))) [11] (aN 11) (aU (aD mS (aB 11) (aD aZ (aB 4) (eC (.int 0))))) (aB 11)) (c8 (aB 1) (eC (.str ("downs" : Str))))) aV)
 (aJ (cO (aU (aD dD (aB 3) (eC (.str ("rank" : Str))))) (aO (aD aZ (aB 4) (eC (.int 2))) (c8 (aD aZ (aD aZ (aB 1) (eC (.str ("ranks" : Str)))) (aD aZ (aB 4) (eC (.int 0)))) (aD aZ (aB 4) (eC (.int 1))))) aV)
 (fY (cK lN (aA (aD aZ (aB 1) (eC (.str ("stands" : Str)))) aC)) (bJ 2 (aH (aN 7) (aH (aN 8) bD))) (fY (cK lN (aA (aB 8) aC)) (bJ 2 (aH (aN 9) (aH (aN 10) bD))) (cO (fW (aU (aD dD (aD aZ (aB 10) (eC (.int 0))) (eC (.str ("waits" : Str))))) (aU (aD QY (aI (jR k) 4 aK (aA (aB 0) (aA (aB 1) (aA (aB 7) (aA (aB 9) aC))))) (aD aZ (aD aZ (aB 6) (aB 7)) (aB 9))))) (aO (aL max2 (aA (aD aZ (aB 10) (eC (.int 1))) (aA (aD aZ (aI (pG k) 4 aK (aA (aB 0) (aA (aB 1) (aA (aB 7) (aA (aB 9) aC))))) (eC (.int 1))) aC))) (c8 (aB 10) (eC (.int 1)))) aV)))))))))
def DD (k : a6) : MF := a7 (C4 k) DV
def JY : List Str := [("_law_model_here" : Str), ("_law_world_here" : Str), ("_law_deed_here" : Str), ("_law_lots" : Str), ("_law_news" : Str), ("_law_word" : Str), ("_law_rest" : Str), ("_law_a" : Str), ("_law_row" : Str), ("_law_many" : Str), ("_law_there" : Str), ("_law_host" : Str), ("_law_k" : Str)]
def L9 (k : a6) : MS :=
 (aJ (GY 5 6 (aA (aD aZ (aB 2) (eC (.int 0))) (aA (qF m9 (aB 2) (cG (eC (.int 1))) c6) aC)))
 (aJ (cO (aU (aD dD (aB 5) (eC (.str ("stop" : Str))))) (fY (cK lN (aA (aD aZ (aB 1) (eC (.str ("stands" : Str)))) aC)) (bJ 2 (aH (aN 7) (aH (aN 8) bD))) (cO (aU (aD dD (aD aZ (aD aZ (aB 8) (aD aZ (aB 6) (eC (.int 0)))) (eC (.int 0))) (eC (.str ("serves" : Str))))) (cF (aI (yJ k) 5 aK (aA (aB 1) (aA (aB 7) (aA (aD aZ (aB 6) (eC (.int 0))) (aA (eC (.int 0)) (aA (aB 3) aC))))))) aV)) aV)
 (aJ (cO (aU (aD JR (aB 5) (a8 (aA (eC (.str ("stop" : Str))) (aA (eC (.str ("fall" : Str))) aC))))) (cF (aI (FQ k) 3 aK (aA (aB 1) (aA (aD aZ (aB 6) (eC (.int 0))) (aA (aB 4) aC))))) aV)
 (aJ (cO (aU (aD dD (aB 5) (eC (.str ("rise" : Str))))) (aJ (aO (eC (.int 1)) (c8 (aD aZ (aB 1) (eC (.str ("living" : Str)))) (aD aZ (aB 6) (eC (.int 0)))))
 (fY (cK lN (aA (aD aZ (aB 1) (eC (.str ("stands" : Str)))) aC)) (bJ 2 (aH (aN 7) (aH (aN 8) bD))) (aO (aI (pG k) 4 aK (aA (aB 0) (aA (aB 1) (aA (aB 7) (aA (aD aZ (aB 6) (eC (.int 0))) aC))))) (c8 (aB 8) (aD aZ (aB 6) (eC (.int 0))))))) aV)
 (aJ (cO (aU (aD JR (aB 5) (a8 (aA (eC (.str ("down" : Str))) (aA (eC (.str ("up" : Str))) (aA (eC (.str ("rank" : Str))) aC)))))) (cF (aI (DD k) 3 aK (aA (aB 0) (aA (aB 1) (aA (aB 2) aC))))) aV)
 (aJ (cO (aU (aD JR (aB 5) (a8 (aA (eC (.str ("tear" : Str))) (aA (eC (.str ("heal" : Str))) aC))))) (aJ (aO (aL cU (aA (aD aZ (aB 1) (eC (.str ("living" : Str)))) aC)) (aN 9))
 (aJ (aO (wW (aU (aD dD (aB 5) (eC (.str ("tear" : Str))))) (aD bH (aL aAe (aA (aD aZ (aB 6) (eC (.int 0))) aC)) (aS (bK (aD aZ (aB 6) (eC (.int 1)))) [11] (aN 11) aT (aD bH (aB 9) (aB 11)))) (i3 aC)) (aN 10))
 (aO (OA (cK gG (aA (aL cU (aA (aD aZ (aB 1) (eC (.str ("parts" : Str)))) aC)) aC)) [12] (aN 12) aT (aL AS (aA (aD JR (aB 12) (aB 10)) aC))) (c8 (aB 1) (eC (.str ("parts" : Str))))))) aV)
 (cO (aU (aD dD (aB 5) (eC (.str ("ask" : Str))))) (cF (aI (GX k) 3 aK (aA (aB 1) (aA (aD aZ (aB 6) (eC (.int 0))) (aA (aD aZ (aB 6) (eC (.int 1))) aC))))) aV)))))))
def K7 (k : a6) : MF := a7 (L9 k) JY
def H7 : List Str := [("_law_model_here" : Str), ("_law_world_here" : Str), ("_law_many" : Str), ("_law_receivers" : Str), ("_law_lacks" : Str), ("_law_a" : Str), ("_law_rows" : Str), ("_law_stands" : Str), ("_law_ranks" : Str), ("_law_tables" : Str), ("_law_asks" : Str), ("_law_parts" : Str), ("_law_downs" : Str), ("_law_s" : Str), ("_law_r" : Str), ("_law_row" : Str), ("_law_stand" : Str)]
def G4 (k : a6) : MS :=
 (aJ (aO (a8 (aA (aL cU (aA (aD aZ (aB 1) (eC (.str ("living" : Str)))) aC)) (aA (aL cU (aA (aD aZ (aB 1) (eC (.str ("parts" : Str)))) aC)) aC))) (bJ 2 (aH (aN 2) (aH (aN 3) bD))))
 (aJ (aO (eNew aC) (aN 4))
 (aJ (fY (cK gG (aA (aL cU (aA (aD aZ (aB 0) (eC (.str ("ranks" : Str)))) aC)) aC)) (aN 5) (aJ (aO (aS (cK gG (aA (aB 2) aC)) [13] (aN 13) aT (aL bW (aA (aS (cK gG (aA (aB 3) aC)) [14] (aN 14) aT (bA "dict" getM (aD aZ (aB 1) (eC (.str ("lacks" : Str)))) (aA (a8 (aA (aB 5) (aA (aB 13) (aA (aB 14) aC)))) (aA (eC (.int 0)) aC)))) aC))) (aN 6))
 (cF (bA "list" b8 (aB 4) (aA (aL bW (aA (aB 6) aC)) aC)))))
 (aJ (aO (aL bW (aA (aS (bK (aD aZ (aB 1) (eC (.str ("stands" : Str))))) [15] (aN 15) aT (aL bW (aA (aS (bK (aB 15)) [16] (aN 16) aT (aL bW (aA (aB 16) aC))) aC))) aC)) (aN 7))
 (aJ (aO (aL bW (aA (aS (bK (aD aZ (aB 1) (eC (.str ("ranks" : Str))))) [15] (aN 15) aT (aL bW (aA (aB 15) aC))) aC)) (aN 8))
 (aJ (GY 9 10 (aA (aL bW (aA (aS (bK (aD aZ (aB 1) (eC (.str ("tables" : Str))))) [15] (aN 15) aT (aL bW (aA (aB 15) aC))) aC)) (aA (aL bW (aA (aS (bK (aD aZ (aB 1) (eC (.str ("asks" : Str))))) [15] (aN 15) aT (aL bW (aA (aB 15) aC))) aC)) aC)))
 (aJ (GY 11 12 (aA (aL bW (aA (aD aZ (aB 1) (eC (.str ("parts" : Str)))) aC)) (aA (aL bW (aA (aL QT (aA (aD aZ (aB 1) (eC (.str ("downs" : Str)))) aC)) aC)) aC)))
 (aQ (a8 (aA (aL bW (aA (aD aZ (aB 1) (eC (.str ("living" : Str)))) aC)) (aA (aB 11) (aA (aB 12) (aA (aB 8) (aA (aB 7) (aA (aL bW (aA (aD aZ (aB 1) (eC (.str ("under" : Str)))) aC)) (aA (aL bW (aA (aB 4) aC)) (aA (aB 9) (aA (aB 10) aC))))))))))))))))))
def uR (k : a6) : MF := a7 (G4 k) H7
end Lw
namespace Lb
open PySem PySem.Spec PyProof.Rows L2 Pc
section
variable {w : W} {P : D → W → Prop} {PS : Sg → W → Prop} {PI : kP → W → Prop} {σ : Sg} {k : a6} {p h : Nat} {m : Mo} {b : Int} {s : I0}
theorem P9 {n : Nat} {r : IV} {xs : List D} : T (pQ n r (.tup xs) σ w) PS = ((n ≤ xs.length ∧ xs.length ≤ sizeLine) ∧ T (r (xs.take n ++ [.lst (xs.drop n)]) σ w) PS) := by simp only [pQ, tU, cP]
end
def YV (s : I0) (a h : Nat) : Role × Int := ((s.dE[a]?).getD []).getD h (.rests, 0)
section
variable {w : W} {P : D → W → Prop} {σ : Sg} {k : a6} {p h : Nat} {m : Mo} {b : Int} {s : I0}
theorem getD_some {α : Type} {xs : List α} {i : Nat} {x d : α} (h : xs[i]? = some x) : xs.getD i d = x := by rw [List.getD_eq_getElem?_getD, h]; rfl
theorem aDB {q : Bool} : T (AS [.bl q] w) P = P (.int (if q = true then 1 else 0)) w := by
 have : AS [.bl q] w = .ok (.int (if q = true then 1 else 0)) w := by cases q <;> rfl
 rw [this, b0]
end
inductive SX where
 | SO | stop | rise | down | up | rank | NM | OU | ask
deriving DecidableEq
def SX.s : SX → Str
 | .SO => "fall" | .stop => "stop" | .rise => "rise" | .down => "down" | .up => "up" | .rank => "rank" | .NM => "tear" | .OU => "heal" | .ask => "ask"
inductive y8 where
 | down (t : Int) | up (t : Int) | rank (a c : Nat) (r : Int) | NM (hs cs : List Int) | OU | ask (c a : Nat)
 | SO (c : Nat) | stop (c : Nat) | rise (c : Nat)
def y8.word : y8 → SX
 | .down _ => .down | .up _ => .up | .rank .. => .rank | .NM .. => .NM | .OU => .OU | .ask .. => .ask | .SO _ => .SO | .stop _ => .stop | .rise _ => .rise
def y8.args : y8 → List D
 | .down t => [.int t] | .up t => [.int t] | .rank a c r => [.int (a : Nat), .int (c : Nat), .int r] | .NM hs cs => [GC hs, GC cs] | .OU => [] | .ask c a => [.int (c : Nat), .int (a : Nat)]
 | .SO c => [.int (c : Nat)] | .stop c => [.int (c : Nat)] | .rise c => [.int (c : Nat)]
section
variable {w : W} {P : D → W → Prop} {PL : List (List Key × D) → W → Prop} {σ : Sg} {k : a6} {tS : Addr} {p h : Nat} {m : Mo} {b : Int} {s : I0}
def SX.size : SX → Int
 | .rank => 3
 | .NM => 2
 | .OU => 0
 | .ask => 2
 | _ => 1
def W6 (n : Int) (xs : List Int) : Prop := (∀ x ∈ xs, 0 ≤ x ∧ x ≤ n - 1) ∧ xs.Pairwise (· < ·)
def Fits (m : Mo) (h : Nat) : y8 → Prop
 | .down t => (0 ≤ t ∧ t ≤ 9) ∧ t ∈ m.VP.map fun t => t.2.1
 | .up t => (0 ≤ t ∧ t ≤ 9) ∧ t ∈ m.VP.map fun t => t.2.1
 | .rank a c r => a < m.eG.length ∧ c < h ∧ 1 ≤ r ∧ r ≤ 12
 | .NM hs cs => (W6 h hs ∧ W6 m.pO cs) ∧ (hs.length ≤ 100 ∧ cs.length ≤ 100) ∧ 0 < hs.length ∧ hs.length < h
 | .OU => True
 | .ask c a => (c : Int) < m.pO ∧ a < m.eG.length
 | .SO c => c < h
 | .stop c => c < h
 | .rise c => c < h
end
end Lb
namespace Lw
open PySem PySem.Spec PyProof.Rows L2 Pc Lb
inductive pU where
 | dict | living | parts | downs | under | yO | eG | dE | tables | asks | LP
 | UP (a : Nat) | N7 (a : Nat) | LM (a c : Nat) | VS (c : Nat) | ask (c : Nat)
deriving DecidableEq
abbrev B7 := pU → Nat
abbrev Con := pU → Option MO
def mB {α : Type} (f : pU → α) (l : pU) (x : α) : pU → α := fun q => if q = l then x else f q
theorem mQ {α : Type} {f : pU → α} {l : pU} {x : α} : mB f l x l = x := if_pos rfl
theorem eE {α : Type} {f : pU → α} {l q : pU} {x : α} (h : q ≠ l) : mB f l x q = f q := if_neg h
def X8 (S : pU → Bool) (C : Con) : Con := fun l => if S l then C l else none
def o7 (n : Nat) (w : W) (A : B7) (C : Con) : Prop := ∀ l o, C l = some o → n ≤ A l ∧ w[A l]? = some o ∧ ∀ l' o', C l' = some o' → A l' = A l → l' = l
section
variable {n : Nat} {w w' : W} {A A' : B7} {C C' : Con} {l : pU} {o : MO}
theorem o7.get (h : o7 n w A C) (e : C l = some o) : w[A l]? = some o := (h l o e).2.1
theorem o7.lt (h : o7 n w A C) (e : C l = some o) : A l < w.length := (ak.mp (h.get e)).1
theorem o7.keep (h : o7 n w A C) (hk : ∀ i, n ≤ i → i < w.length → w'[i]? = w[i]?) : o7 n w' A C := fun l o e =>
 ⟨(h l o e).1, by rw [hk _ (h l o e).1 (h.lt e)]; exact h.get e, (h l o e).2.2⟩
theorem o7.grow (h : o7 n w A C) (h2 : 2 ≤ n) (g : pS w w' 1 0) : o7 n w' A C := h.keep fun i hi hl => g.at_ i hl (by omega) (by omega)
theorem o7.app (h : o7 n w A C) (u : W) : o7 n (w ++ u) A C := h.keep fun i _ hl => aw hl
theorem o7.set (h : o7 n w A C) (e : C l = some o) (o1 : MO) : o7 n (w.set (A l) o1) A (mB C l (some o1)) := fun q u eq => by
 have inj : ∀ l' o', mB C l (some o1) l' = some o' → ∃ o2, C l' = some o2 := fun l' o' e' => by
  by_cases c : l' = l
  ·subst c; exact ⟨o, e⟩
  ·rw [eE c] at e'; exact ⟨o', e'⟩
 obtain ⟨u2, e2⟩ := inj q u eq
 refine ⟨(h q u2 e2).1, ?_, fun l' o' e' ea => ?_⟩
 ·by_cases c : q = l
  ·subst c
   rw [mQ] at eq
   cases eq
   rw [bu (h.lt e)]
  ·rw [eE c] at eq
   rw [bc (fun x => c ((h l o e).2.2 q u2 e2 x.symm))]
   exact h.get eq
 ·obtain ⟨o3, e3⟩ := inj l' o' e'
  exact (h q u2 e2).2.2 l' o3 e3 ea
theorem o7.new (h : o7 n w A C) (hk : ∀ i, n ≤ i → i < w.length → w'[i]? = w[i]?) {r : Nat} (h1 : w.length ≤ r) (h0 : n ≤ w.length) (e : w'[r]? = some o) (l : pU) : o7 n w' (mB A l r) (mB C l (some o)) := fun q u eq => by
 by_cases c : q = l
 ·subst c
  rw [mQ] at eq ⊢
  cases eq
  refine ⟨br h0 h1, e, fun l' o' e' ea => ?_⟩
  by_cases c' : l' = q
  ·exact c'
  ·rw [eE c'] at e' ea
   have := h.lt e'
   omega
 ·rw [eE c] at eq ⊢
  refine ⟨(h q u eq).1, by rw [hk _ (h q u eq).1 (h.lt eq)]; exact h.get eq, fun l' o' e' ea => ?_⟩
  by_cases c' : l' = l
  ·subst c'
   rw [mQ] at ea
   have := h.lt eq
   omega
  ·rw [eE c'] at e' ea
   exact (h q u eq).2.2 l' o' e' ea
theorem o7.add (h : o7 n w A C) (h0 : n ≤ w.length) (l : pU) (o : MO) : o7 n (w ++ [o]) (mB A l w.length) (mB C l (some o)) :=
 h.new (fun i _ hl => aw hl) (az _) h0 (by rw [bp (az _)]; simp) l
theorem o7.sub (h : o7 n w A C) (hs : ∀ l o, C' l = some o → C l = some o ∧ A' l = A l) : o7 n w A' C' := fun l o e => by
 obtain ⟨e1, e2⟩ := hs l o e
 rw [e2]
 refine ⟨(h l o e1).1, h.get e1, fun l' o' e' ea => ?_⟩
 obtain ⟨e3, e4⟩ := hs l' o' e'
 rw [e4] at ea
 exact (h l o e1).2.2 l' o' e3 ea
theorem o7.nil : o7 n w A fun _ => none := fun l o e => nomatch e
end
structure Wx where
 s : I0
 lk : List (List Key × D)
 LP : List D
def JF (A : B7) : List (Key × D) := [(.inr "living", .ref (A .living)), (.inr "parts", .ref (A .parts)), (.inr "downs", .ref (A .downs)), (.inr "under", .ref (A .under)), (.inr "lacks", .ref (A .yO)),
 (.inr "ranks", .ref (A .eG)), (.inr "stands", .ref (A .dE)), (.inr "tables", .ref (A .tables)), (.inr "asks", .ref (A .asks)), (.inr "sent", .ref (A .LP))]
def eM (A : B7) (g : Nat → pU) (k : Nat) : List D := (List.range k).map fun i => .ref (A (g i))
def LY (xs : List Int) : MO := .lst (xs.map D.int)
def aC9 (q : Role × Int) : MO := .lst [.str q.1.s, .int q.2]
def aDO (q : Int × Int) : MO := .lst [.int q.1, .int q.2]
def cont (A : B7) (x : Wx) : Con
 | .dict => some (.dK (JF A))
 | .living => some (LY x.s.living)
 | .parts => some (LY x.s.parts)
 | .downs => some (LY x.s.downs)
 | .under => some (.lst (x.s.zM.map ZU))
 | .yO => some (.dT x.lk)
 | .eG => some (.lst (eM A .UP x.s.eG.length))
 | .dE => some (.lst (eM A .N7 x.s.dE.length))
 | .tables => some (.lst (eM A .VS x.s.tables.length))
 | .asks => some (.lst (eM A .ask x.s.asks.length))
 | .LP => some (.lst x.LP)
 | .UP a => x.s.eG[a]?.map LY
 | .N7 a => x.s.dE[a]?.map fun r => .lst (eM A (.LM a) r.length)
 | .LM a c => (x.s.dE[a]?.bind (·[c]?)).map aC9
 | .VS c => x.s.tables[c]?.map LY
 | .ask c => x.s.asks[c]?.map aDO
def World (n : Nat) (w : W) (A : B7) (x : Wx) : Prop := o7 n w A (cont A x)
section
variable {n : Nat} {w w' : W} {A A' : B7} {x x' : Wx} {P : D → W → Prop} {PU : Unit → W → Prop} {l : pU} {o o1 : MO}
theorem World.set (h : World n w A x) (e : cont A x l = some o) (o1 : MO) (hc : ∀ q, cont A x' q = mB (cont A x) l (some o1) q) : World n (w.set (A l) o1) A x' := by
 unfold World
 rw [funext hc]
 exact o7.set h e o1
theorem SA {g : Nat → pU} {k i v : Nat} (inj : ∀ i j, g i = g j → i = j) : (eM A g k).set i (.ref v) = eM (mB A (g i) v) g k := by
 refine List.ext_getElem? fun j => ?_
 rw [List.getElem?_set]
 unfold eM
 by_cases c : i = j
 ·subst c
  rw [if_pos rfl]
  by_cases h : i < k
  ·simp [h, mQ]
  ·simp [h]
 ·rw [if_neg c]
  simp only [cg]
  cases e : (List.range k)[j]? with
  | none => rfl
  | some y =>
   have : y = j := by
    have := ak.mp e
    obtain ⟨_, h⟩ := this
    rw [List.getElem_range] at h
    exact h.symm
   subst this
   simp only [Option.map_some]
   rw [eE (fun z => c (inj _ _ z).symm)]
end
open PySem.W (dataLe)
section
variable {n : Nat} {w w' : W} {A A' : B7} {x x' : Wx} {P : D → W → Prop} {PU : Unit → W → Prop} {l : pU} {o o1 : MO} {k : a6} {i h : Nat} {m : Mo} {b : Int}
def zS (w : W) (i : Nat) (m : Mo) : Prop := w[i]? = some (.dK m.kvs)
end
def aBY (lk : List (List Key × D)) : Prop := ∀ ks d, mP lk ks = some d → ∃ i, d = .int i
section
variable {n : Nat} {w w' : W} {A A' : B7} {x x' : Wx} {P : D → W → Prop} {PU : Unit → W → Prop} {PI : kP → W → Prop} {l : pU} {o o1 : MO} {k : a6} {i h : Nat} {m : Mo} {b : Int}
theorem aCJ {r : Nat} {xs : List D} (e : w[r]? = some (.lst xs)) : T (iterM (.ref r) w) PI = PI ⟨xs, holds r (.lst xs)⟩ w := by
 have : iterM (.ref r) w = .ok ⟨xs, holds r (.lst xs)⟩ w := by simp only [iterM, e]
 rw [this, b0]
theorem World.app (hW : World n w A x) (u : W) : World n (w ++ u) A x := o7.app hW u
end
section
variable {n : Nat} {w w' : W} {A A' : B7} {C : Con} {x x' : Wx} {σ : Sg} {P : D → W → Prop} {PL : List D → W → Prop} {PF : Fl → W → Prop} {PU : Unit → W → Prop} {PI : kP → W → Prop} {l : pU} {o1 : MO} {k : a6} {i h : Nat} {m : Mo} {b : Int}
theorem o7.bind {S : pU → Bool} (h : o7 n w A (X8 S (cont A x))) (hS : S .dict = true) (hn : n ≤ w.length) (hl : l ≠ .dict) (hc : cont (mB A l w.length) x' l = some o1)
  (hr : ∀ q, q ≠ .dict → q ≠ l → S q = true → cont (mB A l w.length) x' q = cont A x q) :
  o7 n ((w ++ [o1]).set (A .dict) (.dK (JF (mB A l w.length)))) (mB A l w.length) (X8 (fun q => S q || q == l) (cont (mB A l w.length) x')) := by
 have h1 := h.add hn l o1
 have e : mB (X8 S (cont A x)) l (some o1) .dict = some (.dK (JF A)) := by
  rw [eE hl.symm, X8, hS]
  rfl
 have h3 := h1.set e (.dK (JF (mB A l w.length)))
 rw [eE hl.symm] at h3
 refine h3.sub fun q o e => ⟨?_, rfl⟩
 replace e : (if (S q || q == l) = true then cont (mB A l w.length) x' q else none) = some o := e
 by_cases c : q = .dict
 ·subst c
  rw [mQ]
  rw [hS] at e
  exact e
 ·rw [eE c]
  by_cases c2 : q = l
  ·subst c2
   rw [mQ]
   simp only [beq_self_eq_true, Bool.or_true, ae] at e
   rw [← hc]
   exact e
  ·rw [eE c2]
   unfold X8
   have c3 : (q == l) = false := by simpa using c2
   rw [c3, Bool.or_false] at e
   cases s : S q with
   | false => rw [s] at e; exact nomatch e
   | true =>
    rw [s] at e
    simp only [ae] at e ⊢
    rw [← hr q c c2 s]
    exact e
end
def pU.top : pU → Bool
 | .living => true | .parts => true | .downs => true | .under => true | .yO => true | .eG => true | .dE => true | .tables => true | .asks => true | .LP => true
 | _ => false
def dep : pU → pU → Prop
 | .dict, q => q.top = true
 | .eG, q => ∃ a, q = .UP a
 | .dE, q => ∃ a, q = .N7 a
 | .tables, q => ∃ a, q = .VS a
 | .asks, q => ∃ a, q = .ask a
 | .N7 a, q => ∃ c, q = .LM a c
 | _, _ => False
theorem j9 {A A' : B7} {g : Nat → pU} {k : Nat} (h : ∀ i, A (g i) = A' (g i)) : eM A g k = eM A' g k := by
 unfold eM
 exact List.map_congr_left fun i _ => by rw [h i]
theorem PR {A A' : B7} {x : Wx} {l : pU} (h : ∀ q, dep l q → A q = A' q) : cont A x l = cont A' x l := by
 cases l with
 | dict =>
  show some (MO.dK (JF A)) = some (MO.dK (JF A'))
  unfold JF
  rw [h .living rfl, h .parts rfl, h .downs rfl, h .under rfl, h .yO rfl, h .eG rfl, h .dE rfl, h .tables rfl, h .asks rfl, h .LP rfl]
 | eG =>
  show some (MO.lst (eM A .UP x.s.eG.length)) = some (MO.lst (eM A' .UP x.s.eG.length))
  rw [j9 fun i => h _ ⟨i, rfl⟩]
 | dE =>
  show some (MO.lst (eM A .N7 x.s.dE.length)) = some (MO.lst (eM A' .N7 x.s.dE.length))
  rw [j9 fun i => h _ ⟨i, rfl⟩]
 | tables =>
  show some (MO.lst (eM A .VS x.s.tables.length)) = some (MO.lst (eM A' .VS x.s.tables.length))
  rw [j9 fun i => h _ ⟨i, rfl⟩]
 | asks =>
  show some (MO.lst (eM A .ask x.s.asks.length)) = some (MO.lst (eM A' .ask x.s.asks.length))
  rw [j9 fun i => h _ ⟨i, rfl⟩]
 | N7 a =>
  show x.s.dE[a]?.map (fun r => MO.lst (eM A (.LM a) r.length)) = x.s.dE[a]?.map (fun r => MO.lst (eM A' (.LM a) r.length))
  congr 1
  funext r
  rw [j9 fun i => h _ ⟨i, rfl⟩]
 | _ => rfl
section
variable {n : Nat} {w w' w0 : W} {A A' A1 : B7} {C : Con} {x x' : Wx} {σ : Sg} {P : D → W → Prop} {PL : List D → W → Prop} {PF : Fl → W → Prop} {PU : Unit → W → Prop} {PI : kP → W → Prop} {l : pU} {o1 : MO} {k : a6} {i h : Nat} {m : Mo} {b : Int}
theorem T5 {v : Nat} {q : pU} (ht : l.top = true) (hq : q ≠ .dict) : cont (mB A l v) x q = cont A x q := PR fun r d => eE fun e => by
 subst e
 cases q <;> simp only [dep] at d
 case dict => exact hq rfl
 all_goals
  obtain ⟨a, rfl⟩ := d
  exact nomatch ht
end
section
variable {n : Nat} {w w' w0 : W} {A A' A1 : B7} {C : Con} {x x' : Wx} {σ : Sg} {P : D → W → Prop} {PL : List D → W → Prop} {PF : Fl → W → Prop} {PU : Unit → W → Prop} {PI : kP → W → Prop} {l : pU} {o1 : MO} {k : a6} {i h : Nat} {m : Mo} {b : Int}
theorem World.X8 (hW : World n w A x) : o7 n w A (Lw.X8 (fun _ => true) (cont A x)) := hW
theorem World.le (hW : World n w A x) : n ≤ A .dict := (hW .dict _ rfl).1
theorem World.lt (hW : World n w A x) (l : pU) {o : MO} (e : cont A x l = some o) : A l < w.length := o7.lt hW e
theorem World.aBa (hW : World n w A x) : n ≤ w.length := by
 have h1 := hW.le
 have h2 := hW.lt .dict rfl
 omega
theorem World.bind (hW : World n w A x) (l : pU) (ht : l.top = true) (hc : ∀ A, cont A x' l = some o1) (hr : ∀ A q, q ≠ .dict → q ≠ l → cont A x' q = cont A x q) :
  World n ((w ++ [o1]).set (A .dict) (.dK (JF (mB A l w.length)))) (mB A l w.length) x' := by
 have hl : l ≠ .dict := fun e => by subst e; exact nomatch ht
 have := o7.bind (x' := x') (l := l) (o1 := o1) hW.X8 rfl hW.aBa hl (hc _) fun q q1 q2 _ => by rw [hr _ q q1 q2, T5 ht q1]
 exact this.sub fun q o e => ⟨by unfold Lw.X8; exact e, rfl⟩
def Apart (A : B7) (x : Wx) (r : Nat) : Prop := ∀ l o, cont A x l = some o → A l ≠ r
theorem World.other (hW : World n w A x) {r : Nat} (ap : Apart A x r) (o : MO) : World n (w.set r o) A x := fun l u e => by
 obtain ⟨h1, h2, h3⟩ := hW l u e
 exact ⟨h1, by rw [bc (Ne.symm (ap l u e))]; exact h2, h3⟩
end
section
variable {n d0 : Nat} {w w' w0 : W} {A A' A1 : B7} {C : Con} {x x' : Wx} {σ : Sg} {P : D → W → Prop} {PL : List D → W → Prop} {PF : Fl → W → Prop} {PU : Unit → W → Prop} {PI : kP → W → Prop} {l : pU} {o o1 u : MO} {k : a6} {tS : Addr} {i h p : Nat} {m : Mo} {b : Int}
theorem Kept.LR (kk : Pc.Kept w w' 1 0) (h2 : 2 ≤ n) (hW : World n w A x) : World n w' A x := o7.keep hW fun i h1 _ => kk.2 i (by omega) (by omega)
theorem Kept.mod (kk : Pc.Kept w w' 1 0) (i2 : 2 ≤ i) (hM : zS w i m) : zS w' i m := kk.obj hM (by omega) (by omega)
theorem pS.mod (g : pS w w' 1 0) (i2 : 2 ≤ i) (hM : zS w i m) : zS w' i m := by
 unfold zS
 rw [g.at_ i (ak.mp hM).1 (by omega) (by omega)]
 exact hM
theorem World.row {par : pU} {gl : Nat → pU} {kk c r : Nat} (hW : World n w A x) (hk : ∀ i, n ≤ i → i < w.length → w'[i]? = w[i]?) (hr : w.length ≤ r) (er : w'[r]? = some o) (inj : ∀ i j, gl i = gl j → i = j) (hne : par ≠ gl c)
  (hpar : cont A x par = some (.lst (eM A gl kk))) (hpar' : ∀ A', cont A' x' par = some (.lst (eM A' gl kk))) (hrow : ∀ A', cont A' x' (gl c) = some o) (hoth : ∀ A' q, q ≠ par → q ≠ gl c → (∀ l, l ≠ gl c → A' l = A l) → cont A' x' q = cont A x q) :
  World n (w'.set (A par) (.lst ((eM A gl kk).set c (.ref r)))) (mB A (gl c) r) x' := by
 have h1 := o7.new hW hk hr hW.aBa er (gl c)
 have ee : mB (cont A x) (gl c) (some o) par = some (.lst (eM A gl kk)) := by rw [eE hne]; exact hpar
 have h3 := h1.set ee (.lst ((eM A gl kk).set c (.ref r)))
 rw [eE hne] at h3
 refine h3.sub fun q u e => ⟨?_, rfl⟩
 by_cases c1 : q = par
 ·subst c1
  rw [mQ, SA inj]
  rw [hpar'] at e
  exact e
 rw [eE c1]
 by_cases c2 : q = gl c
 ·subst c2
  rw [mQ]
  rw [hrow] at e
  exact e
 rw [eE c2, ← e]
 exact (hoth _ q c1 c2 fun l hl => eE hl).symm
end
structure St (n i : Nat) (m : Mo) (w0 w : W) (A : B7) (x : Wx) : Prop where
 aCd : q9 w 1 0
 mod : zS w i m
 LR : World n w A x
 n2 : 2 ≤ n
 i2 : 2 ≤ i
 hi : i < n
 le : w0.length ≤ w.length
 fd : ∀ j, j < n → j ≠ 1 → j ≠ 0 → w[j]? = w0[j]?
section
variable {n d0 : Nat} {w w' w0 : W} {A A' A1 : B7} {C : Con} {x x' : Wx} {σ : Sg} {P : D → W → Prop} {PL : List D → W → Prop} {PF : Fl → W → Prop} {PU : Unit → W → Prop} {PI : kP → W → Prop} {l : pU} {o o1 u : MO} {k : a6} {tS : Addr} {i h p : Nat} {m : Mo} {b : Int}
theorem St.kept (s : St n i m w0 w A x) (d : q9 w' 1 0) (kk : Pc.Kept w w' 1 0) : St n i m w0 w' A x :=
 ⟨d, Kept.mod kk s.i2 s.mod, Kept.LR kk s.n2 s.LR, s.n2, s.i2, s.hi, by rw [kk.1]; exact s.le, fun j h1 h2 h3 => by rw [kk.2 j h2 h3]; exact s.fd j h1 h2 h3⟩
theorem St.grow (s : St n i m w0 w A x) (d : q9 w' 1 0) (g : pS w w' 1 0) : St n i m w0 w' A x :=
 ⟨d, pS.mod g s.i2 s.mod, o7.grow s.LR s.n2 g, s.n2, s.i2, s.hi, br s.le g.le, fun j h1 h2 h3 => by rw [g.at_ j (by have := s.LR.aBa; omega) h2 h3]; exact s.fd j h1 h2 h3⟩
theorem St.app (s : St n i m w0 w A x) (u : W) : St n i m w0 (w ++ u) A x := s.grow s.aCd.app ⟨by simp, fun i hi _ _ => aw hi⟩
theorem St.set {j : Nat} (s : St n i m w0 w A x) (hj : n ≤ j) (hw : World n (w.set j o) A' x') : St n i m w0 (w.set j o) A' x' :=
 ⟨s.aCd.set (by have := s.n2; omega) (by have := s.n2; omega), by unfold zS; rw [bc (by have := s.hi; omega)]; exact s.mod, hw, s.n2, s.i2, s.hi, by rw [List.length_set]; exact s.le, fun j' h1 h2 h3 => by rw [bc (by omega)]; exact s.fd j' h1 h2 h3⟩
end
section
variable {n : Nat} {w w' w0 : W} {A : B7} {x : Wx} {P : D → W → Prop} {i h p : Nat} {m : Mo} {b : Int} {s : I0} {σ : Sg}
theorem ZJ {xs : List D} {lo hi : Option Int} {y : D} (h : y ∈ Pc.cutD xs lo hi) : y ∈ xs := by
 unfold Pc.cutD at h
 exact List.mem_of_mem_drop (List.mem_of_mem_take h)
end
abbrev X1 := Nat → Nat → Nat → Int
structure Snt where
 a : Nat
 s : Nat
 r : Nat
 rank : Int
section
variable {n : Nat} {w w' : W} {x : Wx} {σ : Sg} {P : D → W → Prop} {PF : Fl → W → Prop} {PU : Unit → W → Prop} {k : a6} {i h p f : Nat} {m : Mo} {b : Int} {s : I0} {ts : List Snt} {kv : List (List Key × D)}
theorem OY {o : MO} : (w ++ [o])[w.length]? = some o := by rw [bp (az _)]; simp
theorem tyL {r : Nat} {xs : List D} (e : w[r]? = some (.lst xs)) : W7 (.ref r) w = some "list" := by simp only [W7, e]
end
section
variable {n B : Nat} {w w' : W} {x : Wx} {σ : Sg} {P : D → W → Prop} {PF : Fl → W → Prop} {PU : Unit → W → Prop} {PI : kP → W → Prop} {k : a6} {i h p f : Nat} {m : Mo} {b : Int} {s : I0} {ts : List Snt} {kv : List (List Key × D)}
theorem gT {xs : List D} : T (iterM (.tup xs) w) PI = PI ⟨xs, always⟩ w := by unfold T; rfl
theorem uB {xs : List D} : T (iterM (.lst xs) w) PI = PI ⟨xs, always⟩ w := by unfold T; rfl
end
def keyD (a c r : Nat) : D := .tup [.int (a : Nat), .int (c : Nat), .int (r : Nat)]
structure pX (m : Mo) (h B : Nat) (x : Wx) : Prop where
 living : x.s.living.length = h ∧ ∀ v ∈ x.s.living, 0 ≤ v ∧ v ≤ 1
 parts : (x.s.parts.length : Int) = h + m.pO
 dE : x.s.dE.length = m.eG.length ∧ ∀ r ∈ x.s.dE, r.length = h
 lk : aBY x.lk
 b1 : x.lk.length ≤ B
 b2 : x.LP.length ≤ B
 b3 : x.s.zM.length ≤ B
section
variable {n d0 B : Nat} {w w' w0 : W} {A A' A1 : B7} {C : Con} {x x' : Wx} {σ : Sg} {P : D → W → Prop} {PL : List D → W → Prop} {PF : Fl → W → Prop} {PU : Unit → W → Prop} {PI : kP → W → Prop} {l : pU} {o o1 u : MO} {k : a6} {i h p f : Nat} {m : Mo} {b : Int} {kv : List (List Key × D)} {fa : X1}
theorem pX.le (o : MoB m h) (ok : pX m h B x) : x.s.parts.length ≤ 10 := by
 have h6 := o.eG.h6
 have ho := o.pO
 have := ok.parts
 omega
theorem pX.mono {B' : Nat} (ok : pX m h B x) (hB : B ≤ B') : pX m h B' x := ⟨ok.living, ok.parts, ok.dE, ok.lk, br ok.b1 hB, br ok.b2 hB, br ok.b3 hB⟩
end
section
variable {n d0 B : Nat} {w w' w0 : W} {A A' A1 : B7} {C : Con} {x x' : Wx} {σ : Sg} {P : D → W → Prop} {PL : List D → W → Prop} {PF : Fl → W → Prop} {PU : Unit → W → Prop} {PI : kP → W → Prop} {l : pU} {o o1 u : MO} {k : a6} {i h p f : Nat} {m : Mo} {b : Int} {kv : List (List Key × D)} {fa : X1}
theorem zipIdx {α β : Type} {f : α → β → α} {ss : Nat → β} : ∀ {xs : List α}, (xs.mapIdx fun a x => if a < xs.length then f x (ss a) else x) = List.zipWith f xs ((List.range xs.length).map ss) := fun {xs} => by
 refine List.ext_getElem? fun j => ?_
 rw [List.getElem?_mapIdx, List.getElem?_zipWith, cg]
 by_cases c : j < xs.length
 ·rw [bf c, List.getElem?_range c]
  simp [c]
 ·rw [List.getElem?_eq_none (by omega)]
  rfl
end
structure Bd where
 k : a6
 B : Addr
 S : Addr
def K8 : List Str := [("self" : Str), ("address" : Str), ("house" : Str), ("role" : Str), ("rank" : Str), ("receiver" : Str)]
def I9 (k : Bd) : MS :=
 (aJ (cO (aU (aD dD (aB 3) (eC (.str ("waits" : Str))))) (cF (bA "list" b8 (cX k.B ("news_told" : Str) (aB 0)) (aA (a8 (aA (aB 1) (aA (aB 2) (aA (eC (.str ("serves" : Str))) aC)))) aC))) aV)
 (aJ (aO (a8 (aA (eC (.str ("serves" : Str))) (aA (cX k.k.cZ ("every" : Str) (cX k.B ("plan_here" : Str) (aB 0))) aC))) (c8 (aD aZ (cX k.B ("stands_now" : Str) (aB 0)) (aB 1)) (aB 2)))
 (aJ (aO (aI (lT k.k) 4 aK (aA (cX k.B ("plan_here" : Str) (aB 0)) (aA (cX k.B ("state_here" : Str) (aB 0)) (aA (aB 1) (aA (aB 2) aC))))) (aN 4))
 (fY (bK (aI (pZ k.k) 3 aK (aA (cX k.B ("plan_here" : Str) (aB 0)) (aA (cX k.B ("state_here" : Str) (aB 0)) (aA (aB 2) aC))))) (aN 5) (cF (bA "list" b8 (cX k.B ("letters_sent" : Str) (aB 0)) (aA (a8 (aA (aB 1) (aA (aB 2) (aA (aB 5) (aA (aB 4) aC))))) aC)))))))
def L8 (k : Bd) : MF := a7 (I9 k) K8
def vJ : List Str := [("self" : Str), ("address" : Str), ("row" : Str), ("house" : Str), ("role" : Str), ("clock" : Str)]
def vN (k : Bd) : MS :=
 (fY (cK lN (aA (cX k.B ("stands_now" : Str) (aB 0)) aC)) (bJ 2 (aH (aN 1) (aH (aN 2) bD))) (fY (cK lN (aA (aL aAe (aA (aB 2) aC)) aC)) (bJ 2 (aH (aN 3) (aH (bJ 2 (aH (aN 4) (aH (aN 5) bD))) bD))) (cO (fW (aU (aD mS (aB 4) (eC (.str ("rests" : Str))))) (aU (aD QY (aB 5) (eC (.int 1))))) (aO (a8 (aA (aB 4) (aA (aD pB (aB 5) (eC (.int 1))) aC))) (c8 (aB 2) (aB 3))) (cO (aU (aD mS (aB 4) (eC (.str ("rests" : Str))))) (cF (xH k.B ("send" : Str) (L8 k) 4 aK (aB 0) (aA (aB 1) (aA (aB 3) (aA (aB 4) aC))))) aV))))
def vQ (k : Bd) : MF := a7 (vN k) vJ
def NB : List Str := [("one" : Str), ("other" : Str), ("rank" : Str), ("number" : Str), ("other_rank" : Str), ("other_number" : Str)]
def N5 (k : Bd) : MS :=
 (aJ (aO (aB 0) (bJ 2 (aH (aN 2) (aH (aN 3) bD))))
 (aJ (aO (aB 1) (bJ 2 (aH (aN 4) (aH (aN 5) bD))))
 (aQ (eOr (aD QY (aB 2) (aB 4)) (fK (aD dD (aB 2) (aB 4)) (aD M4 (aB 3) (aB 5)))))))
def OF (k : Bd) : MF := a7 (N5 k) NB
def MR : List Str := [("self" : Str), ("address" : Str), ("sender" : Str), ("house" : Str), ("rank" : Str), ("role" : Str), ("clock" : Str), ("own" : Str), ("is_sender_ahead" : Str)]
def KR (k : Bd) : MS :=
 (aJ (aO (aD aZ (aD aZ (cX k.B ("stands_now" : Str) (aB 0)) (aB 1)) (aB 3)) (bJ 2 (aH (aN 5) (aH (aN 6) bD))))
 (aJ (aO (aI (lT k.k) 4 aK (aA (cX k.B ("plan_here" : Str) (aB 0)) (aA (cX k.B ("state_here" : Str) (aB 0)) (aA (aB 1) (aA (aB 3) aC))))) (aN 7))
 (aJ (aO (aI (OF k) 2 aK (aA (a8 (aA (aB 4) (aA (aB 2) aC))) (aA (a8 (aA (aB 7) (aA (aB 3) aC))) aC))) (aN 8))
 (cO (aU (aD dD (aB 5) (eC (.str ("serves" : Str))))) (cO (fW (aU (aD QY (aB 4) (eC (.int 0)))) (eA (aB 8))) (aJ (aO (a8 (aA (eC (.str ("waits" : Str))) (aA (aI (nK k.k) 4 aK (aA (cX k.B ("plan_here" : Str) (aB 0)) (aA (cX k.B ("state_here" : Str) (aB 0)) (aA (aB 1) (aA (aB 3) aC))))) aC))) (c8 (aD aZ (cX k.B ("stands_now" : Str) (aB 0)) (aB 1)) (aB 3)))
 (cF (bA "list" b8 (cX k.B ("news_told" : Str) (aB 0)) (aA (a8 (aA (aB 1) (aA (aB 3) (aA (eC (.str ("yields" : Str))) aC)))) aC)))) aV) (cO (aU (aD dD (aB 4) (eC (.int 0)))) (aO (a8 (aA (aB 5) (aA (aL min2 (aA (aB 6) (aA (aI (RX k.k) 2 aK (aA (cX k.B ("plan_here" : Str) (aB 0)) (aA (aB 7) aC))) aC))) aC))) (c8 (aD aZ (cX k.B ("stands_now" : Str) (aB 0)) (aB 1)) (aB 3))) (cO (fX (eA (aB 8)) (cH (eA (cX k.k.cZ ("takes" : Str) (cX k.B ("plan_here" : Str) (aB 0)))))) (aO (a8 (aA (aB 5) (aA (aL max2 (aA (aB 6) (aA (aI (ER k.k) 2 aK (aA (cX k.B ("plan_here" : Str) (aB 0)) (aA (aB 7) aC))) aC))) aC))) (c8 (aD aZ (cX k.B ("stands_now" : Str) (aB 0)) (aB 1)) (aB 3))) aV))))))
def MH (k : Bd) : MF := a7 (KR k) MR
def DA : List Str := [("self" : Str), ("address" : Str), ("sender" : Str), ("receiver" : Str), ("rank" : Str), ("living" : Str), ("parts" : Str), ("others" : Str)]
def DI (k : Bd) : MS :=
 (aJ (aO (cX k.B ("state_here" : Str) (aB 0)) (pQ 2 (aH (aN 5) (aH (aN 6) (aH (aN 7) bD)))))
 (aJ (cO (aU (aD mS (aD aZ (aB 6) (aB 2)) (aD aZ (aB 6) (aB 3)))) (aQ (eC .non)) aV)
 (cO (aU (aD XT (aB 3) (aL cU (aA (aB 5) aC)))) (cO (aU (aD QY (aB 4) (eC (.int 0)))) (aO (aB 2) (c8 (aD aZ (cX k.B ("tables_now" : Str) (aB 0)) (aD pB (aB 3) (aL cU (aA (aB 5) aC)))) (aB 1))) aV) (cO (aU (aD dD (aD aZ (aB 5) (aB 3)) (eC (.int 1)))) (cF (xH k.B ("hear" : Str) (MH k) 5 aK (aB 0) (aA (aB 1) (aA (aB 2) (aA (aB 3) (aA (aB 4) aC)))))) aV))))
def C2 (k : Bd) : MF := a7 (DI k) DA
def zU : List Str := [("self" : Str), ("letter" : Str), ("left" : Str), ("rest" : Str)]
def BG (k : Bd) : MS :=
 (aJ (aO (aB 1) (pQ 1 (aH (aN 2) (aH (aN 3) bD))))
 (cO (aU (aD QY (aB 2) (eC (.int 1)))) (cF (bA "list" b8 (cX k.B ("still_under_way" : Str) (aB 0)) (aA (aD bH (a8 (aA (aD pB (aB 2) (eC (.int 1))) aC)) (aL bW (aA (aB 3) aC))) aC))) (cF (xH k.B ("arrive" : Str) (C2 k) 5 aK (aB 0) (aA (aD aZ (aB 3) (eC (.int 0))) (aA (aD aZ (aB 3) (eC (.int 1))) (aA (aD aZ (aB 3) (eC (.int 2))) (aA (aD aZ (aB 3) (eC (.int 3))) aC))))))))
def BM (k : Bd) : MF := a7 (BG k) zU
def KL : List Str := [("self" : Str), ("plan" : Str), ("state" : Str), ("many_old" : Str), ("living" : Str), ("parts" : Str), ("downs" : Str), ("ranks" : Str), ("stands" : Str), ("letters" : Str), ("lacks" : Str), ("tables" : Str), ("asks" : Str), ("letter" : Str), ("row" : Str)]
def JQ (k : Bd) : MS :=
 (aJ (aO (aB 2) (bJ 9 (aH (aN 4) (aH (aN 5) (aH (aN 6) (aH (aN 7) (aH (aN 8) (aH (aN 9) (aH (aN 10) (aH (aN 11) (aH (aN 12) bD)))))))))))
 (aJ (uJ k.B ("plan_here" : Str) (aB 0) (aB 1))
 (aJ (uJ k.B ("state_here" : Str) (aB 0) (aB 2))
 (aJ (uJ k.B ("stands_now" : Str) (aB 0) (aS (bK (aB 8)) [14] (aN 14) aT (aL AI (aA (aB 14) aC))))
 (aJ (uJ k.B ("tables_now" : Str) (aB 0) (aS (bK (aB 11)) [14] (aN 14) aT (aL AI (aA (aB 14) aC))))
 (aJ (uJ k.B ("still_under_way" : Str) (aB 0) (eNew aC))
 (aJ (uJ k.B ("letters_sent" : Str) (aB 0) (OA (bK (qF m9 (aB 9) (cG (aB 3)) c6)) [13] (aN 13) aT (qF m9 (aB 13) (cG (eC (.int 1))) c6)))
 (aJ (uJ k.B ("news_told" : Str) (aB 0) (eNew aC))
 (aJ (fY (bK (qF m9 (aB 9) c6 (cG (aB 3)))) (aN 13) (cF (xH k.B ("move_on" : Str) (BM k) 2 aK (aB 0) (aA (aB 13) aC))))
 (cF (xH k.B ("end_clocks" : Str) (vQ k) 1 aK (aB 0) aC)))))))))))
def IX (k : Bd) : MF := a7 (JQ k) KL
def y9 : List Str := [("self" : Str), ("lacks" : Str), ("fates" : Str), ("living" : Str), ("parts" : Str), ("downs" : Str), ("ranks" : Str), ("stands" : Str), ("letters" : Str), ("others" : Str), ("tables" : Str), ("asks" : Str), ("row" : Str)]
def zA (k : Bd) : MS :=
 (aJ (aO (cX k.B ("state_here" : Str) (aB 0)) (bJ 9 (aH (aN 3) (aH (aN 4) (aH (aN 5) (aH (aN 6) (aH (aN 7) (aH (aN 8) (aH (aN 9) (aH (aN 10) (aH (aN 11) bD)))))))))))
 (aJ (aO (aL bW (aA (aS (bK (cX k.B ("stands_now" : Str) (aB 0))) [12] (aN 12) aT (aL bW (aA (aB 12) aC))) aC)) (aN 7))
 (aJ (aO (aD bH (aL bW (aA (cX k.B ("still_under_way" : Str) (aB 0)) aC)) (aI (uW k.k) 2 aK (aA (cX k.B ("letters_sent" : Str) (aB 0)) (aA (aB 2) aC)))) (aN 8))
 (aJ (aO (aL bW (aA (aS (bK (cX k.B ("tables_now" : Str) (aB 0))) [12] (aN 12) aT (aL bW (aA (aB 12) aC))) aC)) (aN 10))
 (aQ (a8 (aA (aB 3) (aA (aB 4) (aA (aB 5) (aA (aB 6) (aA (aB 7) (aA (aB 8) (aA (aI (BZ k.k) 3 aK (aA (aB 1) (aA (cX k.B ("letters_sent" : Str) (aB 0)) (aA (aB 2) aC)))) (aA (aB 10) (aA (aB 11) aC)))))))))))))))
def zB (k : Bd) : MF := a7 (zA k) y9
def fT : List Str := [("plan" : Str), ("lacks" : Str), ("sent_here" : Str), ("ahead" : Str), ("thing" : Str), ("address" : Str), ("sender" : Str), ("receiver" : Str), ("fate" : Str), ("part" : Str)]
def i5 (k : Bd) : MS :=
 (aJ (cO (fX (cH (eA (aL (fZ gI) (aA (aB 4) (aA (eC (.ty "tuple")) aC))))) (fX (aU (aD mS (aL cU (aA (aB 4) aC)) (eC (.int 4)))) (cH (eA (aL allM (aA (aS (bK (aB 4)) [9] (aN 9) aT (aI (eP k.k) 1 aK (aA (aB 9) aC))) aC)))))) (aQ (eC (.bl false))) aV)
 (aJ (aO (aB 4) (bJ 4 (aH (aN 5) (aH (aN 6) (aH (aN 7) (aH (aN 8) bD))))))
 (aJ (cO (fX (aU (aD TC (qF m9 (aB 4) c6 (cG (zN y7 (eC (.int 1))))) (aB 2))) (fW (aU (aD mS (aB 3) (a8 aC))) (aU (aD leA (qF m9 (aB 4) c6 (cG (zN y7 (eC (.int 1))))) (qF m9 (aB 3) c6 (cG (zN y7 (eC (.int 1))))))))) (aQ (eC (.bl false))) aV)
 (aJ (cO (aU (aD dD (aB 8) (eC (.int 0)))) (aQ (aD M4 (aD aZ (aD aZ (aD aZ (aB 1) (aB 5)) (aB 6)) (aB 7)) (cX k.k.cZ ("lost" : Str) (aB 0)))) aV)
 (aQ (SU M9 M9 (eC (.int 1)) (aB 8) (cX k.k.cZ ("slow" : Str) (aB 0))))))))
def g9 (k : Bd) : MF := a7 (i5 k) fT
theorem AY (x0 x1 x2 x3 x4 : D) : begin fT [x0, x1, x2, x3, x4] = [some x0, some x1, some x2, some x3, some x4, none, none, none, none, none] := rfl
def OH : List Str := [("plan" : Str), ("lacks" : Str), ("sent_here" : Str), ("fates" : Str), ("found" : Str), ("ahead" : Str), ("place" : Str), ("thing" : Str)]
def PV (k : Bd) : MS :=
 (aJ (aO FP (aN 4))
 (aJ (aO (a8 aC) (aN 5))
 (aJ (fY (cK zW (aA (aB 3) aC)) (bJ 2 (aH (aN 6) (aH (aN 7) bD))) (aJ (cO (cH (eA (aI (g9 k) 5 aK (aA (aB 0) (aA (aB 1) (aA (aB 2) (aA (aB 5) (aA (aB 7) aC)))))))) L4 aV)
 (aJ (aO (aD aZ (aB 7) (zN y7 (eC (.int 1)))) (c8 (aB 4) (qF m9 (aB 7) c6 (cG (zN y7 (eC (.int 1)))))))
 (aO (aB 7) (aN 5)))))
 (aQ (aB 4)))))
def OL (k : Bd) : MF := a7 (PV k) OH
def OO : List Str := [("plan" : Str), ("deed" : Str), ("address" : Str)]
def OK (k : Bd) : MS :=
 (aJ (cO (aU (aD TC (aD aZ (aB 1) (eC (.int 0))) (a8 (aA (eC (.str ("fall" : Str))) (aA (eC (.str ("stop" : Str))) aC))))) (aQ (a8 aC)) aV)
 (aQ (aL bW (aA (aS (cK gG (aA (aI (dA k.k) 1 aK (aA (aB 0) aC)) aC)) [2] (aN 2) aT (a8 (aA (aB 2) (aA (aD aZ (aB 1) (eC (.int 1))) (aA (eC (.str ("rests" : Str))) aC))))) aC))))
def OX (k : Bd) : MF := a7 (OK k) OO
def G7 : List Str := [("plan" : Str), ("state" : Str), ("deeds" : Str), ("news" : Str), ("place" : Str), ("deed" : Str)]
def H8 (k : Bd) : MS :=
 (aJ (aO (eNew aC) (aN 3))
 (aJ (fY (cK zW (aA (aB 2) aC)) (bJ 2 (aH (aN 4) (aH (aN 5) bD))) (aJ (cO (cH (eA (aI (SM k.k k.S) 3 aK (aA (aB 0) (aA (aB 1) (aA (aB 5) aC)))))) L4 aV)
 (aJ (aO (aI (JP k.k) 4 aK (aA (aB 0) (aA (aB 1) (aA (aB 5) (aA FP aC))))) (aN 1))
 (cF (bA "list" ZK (aB 3) (aA (aI (OX k) 2 aK (aA (aB 0) (aA (aB 5) aC))) aC))))))
 (aQ (a8 (aA (aB 1) (aA (aL bW (aA (aB 3) aC)) aC))))))
def G2 (k : Bd) : MF := a7 (H8 k) G7
def S5 : List Str := [("plan" : Str), ("state" : Str), ("deeds" : Str), ("fates" : Str), ("after" : Str), ("news" : Str), ("beat" : Str), ("sent_here" : Str), ("known" : Str), ("letter" : Str)]
def T4 (k : Bd) : MS :=
 (aJ (aO (aI (G2 k) 3 aK (aA (aB 0) (aA (aB 1) (aA (aB 2) aC)))) (bJ 2 (aH (aN 4) (aH (aN 5) bD))))
 (aJ (aO (aC6 k.B (IX k) 3 aK (aA (aB 0) (aA (aB 4) (aA (aL cU (aA (aD aZ (aB 1) (eC (.int 5))) aC)) aC)))) (aN 6))
 (aJ (aO (aDw (bK (cX k.B ("letters_sent" : Str) (aB 6))) [9] (aN 9) aT (qF m9 (aB 9) c6 (cG (zN y7 (eC (.int 1))))) (eC (.bl true))) (aN 7))
 (aJ (aO (aI (OL k) 4 aK (aA (aB 0) (aA (aD aZ (aB 1) (eC (.int 6))) (aA (aB 7) (aA (aB 3) aC))))) (aN 8))
 (aQ (a8 (aA (aD bH (aB 5) (aL bW (aA (cX k.B ("news_told" : Str) (aB 6)) aC))) (aA (xH k.B ("state_by" : Str) (zB k) 3 aK (aB 6) (aA (aD aZ (aB 1) (eC (.int 6))) (aA (aB 8) aC))) aC))))))))
def UJ (k : Bd) : MF := a7 (T4 k) S5
abbrev oL (k : Bd) : List D → List D → List D := fun xs zs => aCH [(0, 0), (0, 1), (1, 0), (1, 1)] xs zs []
def DR : List Str := [("_law_one" : Str), ("_law_other" : Str)]
def DL (k : a6) : MS :=
 (aQ (eOr (aD QY (aD aZ (aB 0) (eC (.int 0))) (aD aZ (aB 1) (eC (.int 0)))) (fK (aD dD (aD aZ (aB 0) (eC (.int 0))) (aD aZ (aB 1) (eC (.int 0)))) (aD M4 (aD aZ (aB 0) (eC (.int 1))) (aD aZ (aB 1) (eC (.int 1)))))))
def sL (k : a6) : MF := a7 (DL k) DR
def B5 : List Str := [("_law_model_here" : Str), ("_law_world_here" : Str), ("_law_letter" : Str), ("_law_news" : Str), ("_law_left" : Str), ("_law_a" : Str), ("_law_s" : Str), ("_law_r" : Str), ("_law_rank_here" : Str), ("_law_many" : Str), ("_law_stand" : Str), ("_law_own" : Str)]
def AW (k : a6) : MS :=
 (aJ (aO (aB 2) (bJ 5 (aH (aN 4) (aH (aN 5) (aH (aN 6) (aH (aN 7) (aH (aN 8) bD)))))))
 (aJ (aO (aL cU (aA (aD aZ (aB 1) (eC (.str ("living" : Str)))) aC)) (aN 9))
 (aJ (cO (fX (aU (aD mS (aD aZ (aD aZ (aB 1) (eC (.str ("parts" : Str)))) (aB 6)) (aD aZ (aD aZ (aB 1) (eC (.str ("parts" : Str)))) (aB 7)))) (fW (aU (aD M4 (aB 7) (aB 9))) (aU (aD dD (aD aZ (aD aZ (aB 1) (eC (.str ("living" : Str)))) (aB 7)) (eC (.int 0)))))) (aQ (eC .non)) aV)
 (aJ (cO (aU (aD XT (aB 7) (aB 9))) (aJ (cO (aU (aD QY (aB 8) (eC (.int 0)))) (aO (aB 6) (c8 (aD aZ (aD aZ (aB 1) (eC (.str ("tables" : Str)))) (aD pB (aB 7) (aB 9))) (aB 5))) aV)
 (aQ (eC .non))) aV)
 (aJ (GY 10 11 (aA (aD aZ (aD aZ (aD aZ (aB 1) (eC (.str ("stands" : Str)))) (aB 5)) (aB 7)) (aA (a8 (aA (aI (jR k) 4 aK (aA (aB 0) (aA (aB 1) (aA (aB 5) (aA (aB 7) aC))))) (aA (aB 7) aC))) aC)))
 (cO (fW (aU (aD dD (aD aZ (aB 10) (eC (.int 0))) (eC (.str ("serves" : Str))))) (fW (aU (aD QY (aB 8) (eC (.int 0)))) (eA (aI (sL k) 2 aK (aA (a8 (aA (aB 8) (aA (aB 6) aC))) (aA (aB 11) aC)))))) (aJ (aO (aI (pG k) 4 aK (aA (aB 0) (aA (aB 1) (aA (aB 5) (aA (aB 7) aC))))) (c8 (aD aZ (aD aZ (aB 1) (eC (.str ("stands" : Str)))) (aB 5)) (aB 7)))
 (cF (bA "list" b8 (aB 3) (aA (a8 (aA (aB 5) (aA (aB 7) (aA (eC (.str ("yields" : Str))) aC)))) aC)))) (cO (fW (aU (aD dD (aD aZ (aB 10) (eC (.int 0))) (eC (.str ("waits" : Str))))) (aU (aD dD (aB 8) (eC (.int 0))))) (aO (aL min2 (aA (aD aZ (aB 10) (eC (.int 1))) (aA (aD bH (eC (.int 2)) (aD mulM (aD aZ (aB 0) (eC (.str ("gap" : Str)))) (aD pB (eC (.int 12)) (aD aZ (aB 11) (eC (.int 0)))))) aC))) (c8 (aB 10) (eC (.int 1)))) (cO (fW (aU (aD dD (aD aZ (aB 10) (eC (.int 0))) (eC (.str ("waits" : Str))))) (fX (cH (eA (aD aZ (aB 0) (eC (.str ("takes" : Str)))))) (eA (aI (sL k) 2 aK (aA (a8 (aA (aB 8) (aA (aB 6) aC))) (aA (aB 11) aC)))))) (aO (aL max2 (aA (aD aZ (aB 10) (eC (.int 1))) (aA (aI (yL k) 2 aK (aA (aB 0) (aA (aD aZ (aB 11) (eC (.int 0))) aC))) aC))) (c8 (aB 10) (eC (.int 1)))) aV))))))))
def AH (k : a6) : MF := a7 (AW k) B5
def K2 : List Str := [("_law_model_here" : Str), ("_law_world_here" : Str), ("_law_acts" : Str), ("_law_lots" : Str), ("_law_news" : Str), ("_law_letters" : Str), ("_law_deed_here" : Str), ("_law_one" : Str), ("_law_a" : Str), ("_law_h" : Str), ("_law_role" : Str), ("_law_clock" : Str)]
def K9 (k : a6) : MS :=
 (aJ (aO (a8 (aA (eNew aC) (aA (eNew aC) aC))) (bJ 2 (aH (aN 4) (aH (c8 (aB 1) (eC (.str ("sent" : Str)))) bD))))
 (aJ (aO (a8 (aA (aS (bK (aD aZ (aB 1) (eC (.str ("under" : Str))))) [7] (aN 7) aT (aD bH (a8 (aA (aD pB (aD aZ (aB 7) (eC (.int 0))) (eC (.int 1))) aC)) (qF m9 (aB 7) (cG (eC (.int 1))) c6))) (aA (eNew aC) aC))) (bJ 2 (aH (aN 5) (aH (c8 (aB 1) (eC (.str ("under" : Str)))) bD))))
 (aJ (fY (bK (aB 2)) (aN 6) (cF (aI (K7 k) 5 aK (aA (aB 0) (aA (aB 1) (aA (aB 6) (aA (aB 3) (aA (aB 4) aC))))))))
 (aJ (aO (aD aCU (aS (bK (aB 5)) [7] (aN 7) (aU (aD QY (aD aZ (aB 7) (eC (.int 0))) (eC (.int 0)))) (aB 7)) (aD aZ (aB 1) (eC (.str ("under" : Str))))) (c8 (aB 1) (eC (.str ("under" : Str)))))
 (aJ (fY (bK (aB 5)) (aN 7) (cO (aU (aD dD (aD aZ (aB 7) (eC (.int 0))) (eC (.int 0)))) (cF (aI (AH k) 4 aK (aA (aB 0) (aA (aB 1) (aA (aB 7) (aA (aB 4) aC)))))) aV))
 (aJ (fY (cK gG (aA (aL cU (aA (aD aZ (aB 0) (eC (.str ("ranks" : Str)))) aC)) aC)) (aN 8) (fY (cK gG (aA (aL cU (aA (aD aZ (aB 1) (eC (.str ("living" : Str)))) aC)) aC)) (aN 9) (aJ (aO (aD aZ (aD aZ (aD aZ (aB 1) (eC (.str ("stands" : Str)))) (aB 8)) (aB 9)) (aAc 2 (aH (aN 10) (aH (aN 11) bD))))
 (aJ (aO (eNew (aA (aB 10) (aA (aD pB (aB 11) (aL AS (aA (aD mS (aB 10) (eC (.str ("rests" : Str)))) aC))) aC))) (c8 (aD aZ (aD aZ (aB 1) (eC (.str ("stands" : Str)))) (aB 8)) (aB 9)))
 (cO (fW (aU (aD mS (aB 10) (eC (.str ("rests" : Str))))) (aU (aD dD (aB 11) (eC (.int 1))))) (aJ (cO (aU (aD dD (aB 10) (eC (.str ("waits" : Str))))) (cF (bA "list" b8 (aB 4) (aA (a8 (aA (aB 8) (aA (aB 9) (aA (eC (.str ("serves" : Str))) aC)))) aC))) aV)
 (aJ (aO (eNew (aA (eC (.str ("serves" : Str))) (aA (aD aZ (aB 0) (eC (.str ("every" : Str)))) aC))) (c8 (aD aZ (aD aZ (aB 1) (eC (.str ("stands" : Str)))) (aB 8)) (aB 9)))
 (cF (aI (yJ k) 5 aK (aA (aB 1) (aA (aB 8) (aA (aB 9) (aA (aI (jR k) 4 aK (aA (aB 0) (aA (aB 1) (aA (aB 8) (aA (aB 9) aC))))) (aA (aB 3) aC))))))))) aV)))))
 (aQ (aL bW (aA (aB 4) aC)))))))))
def MN (k : a6) : MF := a7 (K9 k) K2
structure Bt where
 dE : List (List (Role × Int))
 tables : List (List Int)
 under : List WB
 LP : List Snt
 news : List D
def aB2 (y : Bt) (a c : Nat) : Role × Int := (y.dE.getD a []).getD c (.rests, 0)
def Pos (y : Bt) : Prop := ∀ a c, (aB2 y a c).1 ≠ .rests → 1 ≤ (aB2 y a c).2
def fM : List Str := [("_law_model_here" : Str), ("_law_own_plan" : Str), ("_law_world_here" : Str), ("_law_acts" : Str), ("_law_lots" : Str), ("_law_state_here" : Str), ("_law_kept" : Str), ("_law_found" : Str), ("_law_news" : Str)]
def iE (k : Bd) : MS :=
 (aJ (aO (aI (uR k.k) 2 aK (aA (aB 0) (aA (aB 2) aC))) (aN 5))
 (aJ (aO (aL Q2 (aA (a8 (aA (aB 5) (aA (aB 3) (aA (aB 4) aC)))) aC)) (aN 6))
 (aJ (aO (tV (UJ k) 2 2 (oL k) (aA (aB 1) (aA (aB 5) aC)) (aA (aB 3) (aA (aB 4) aC))) (aN 7))
 (aJ (aO (aI (MN k.k) 4 aK (aA (aB 0) (aA (aB 2) (aA (aB 3) (aA (aI (vD k.k) 1 aK (aA (aB 4) aC)) aC))))) (aN 8))
 (aQ (fK (aD dD (aL Q2 (aA (aB 7) aC)) (aL Q2 (aA (a8 (aA (aB 8) (aA (aI (uR k.k) 2 aK (aA (aB 0) (aA (aB 2) aC))) aC))) aC))) (aD dD (aL Q2 (aA (a8 (aA (aB 5) (aA (aB 3) (aA (aB 4) aC)))) aC)) (aB 6))))))))
def fV (k : Bd) : MF := a7 (iE k) fM
open PySem.W (dataLe)
abbrev Qd := Int × Int × Int × Int
def l4 (t : Qd) : List Int := [t.1, t.2.1, t.2.2.1, t.2.2.2]
def aCL (q : Role × Int) : Bool := decide (q.1 = .WW)
structure Nd where
 b : Bd
 N : Addr
section
variable {n n' nn Q : Nat} {w w' : W} {A : B7} {x : Wx} {P : D → W → Prop} {i h p q F S N r : Nat} {m : Mo} {b g l : Int} {ds : List y8} {ls : List Snt} {ns : List (List D)} {nw : List D} {ys : List D}
theorem World.mono (hW : World n w A x) (h : n' ≤ n) : World n' w A x := fun l o e => by
 obtain ⟨h1, h2, h3⟩ := hW l o e
 exact ⟨by omega, h2, h3⟩
end
abbrev VF := List y8 × List Snt
end Lw
namespace Pro
structure Dat where
 N : Nat
 mem : Nat → Prop
 R : Nat → Int
 takes : Bool
 xQ : Nat
 NA : Nat
 HH : Nat
 B : Nat
 wait : Nat → Int
 srv : Nat → Nat → Prop
 clk : Nat → Nat → Int
 snd : Nat → Nat → Prop
 hit : Nat → Nat → Nat → Prop
 lk : Nat → Nat → Nat → Nat
def Dat.ahead (D : Dat) (d c : Nat) : Prop := D.R d > D.R c ∨ (D.R d = D.R c ∧ d < c)
def Dat.P (D : Dat) : Nat := (D.NA + 1) * D.xQ + D.HH - 1
variable {D : Dat}
end Pro
namespace Lw
open PySem PySem.Spec PyProof.Rows L2 Pc Lb
section
variable {m : Mo} {b : Int} {h Q : Nat} {s : I0} {x e : Wx} {a c r : Nat} {q : Role × Int} {ds : List y8} {fa : X1} {l : WB}
def aDF (m : Mo) (b : Int) : Int := Z6 m b 1 + m.hold
end
section
variable {m : Mo} {b : Int} {h Q : Nat} {s : I0} {x x' e : Wx} {a c d r t : Nat} {p : Int} {q : Role × Int} {ds : List y8} {fa : X1} {l : WB} {ts : List VF}
open Classical in
def aBX (m : Mo) (b : Int) (h : Nat) : Nat := (h + 1) * m.HH.toNat + (aDF m b).toNat
def aB8 (m : Mo) : Nat := (m.NA.toNat + 1) * m.xQ.toNat + m.HH.toNat - 1
end
def WY (h : Nat) (s : I0) (v : Nat) : List Nat := (List.range h).filter fun c => s.living.getD c 0 == 1 && s.parts.getD c 0 == (v : Int)
def HJ (cs : List Nat) (j : Nat) : List (Nat × Nat) := (cs.take j).flatMap fun c => (cs.filter fun d => decide (c < d)).map fun d => (c, d)
section
variable {k : Nd} {m : Mo} {b g l : Int} {h n i n0 p q S N D0 TT Q t C : Nat} {ss : List D} {ns : List (List D)} {w w' w0 : W} {A A' : B7} {x : Wx} {s : I0} {P : D → W → Prop} {PF : Fl → W → Prop} {ds : List y8} {a c d r v : Nat} {cs : List Nat} {kvs : List (List Key × D)} {V : Nat → Nat → Nat → Int}
theorem pairs_len : ∀ j : Nat, (HJ cs j).length ≤ j * cs.length
 | 0 => by simp [HJ]
 | j + 1 => by
  have ih := pairs_len j
  unfold HJ at ih ⊢
  rw [List.take_add_one, List.flatMap_append, bx, Nat.succ_mul]
  have : (((cs[j]?).toList).flatMap fun c => (cs.filter fun d => decide (c < d)).map fun d => (c, d)).length ≤ cs.length := by
   cases cs[j]? with
   | none => simp
   | some c =>
    simp only [Option.toList, List.flatMap_cons, List.flatMap_nil, List.append_nil, ay]
    exact List.length_filter_le _ _
  omega
theorem VR {xs : List D} {PI : kP → W → Prop} : T (Pc.lN [.lst xs] w) PI = PI ⟨e9 xs, always⟩ w := by unfold T; rfl
end
section
variable {k : Nd} {m : Mo} {b : Int} {h n0 p q S N TT Q i a c r : Nat} {ss : List D} {ns : List (List D)} {w w' w0 : W} {x : Wx} {P : D → W → Prop} {PF : Fl → W → Prop} {ds : List y8} {ls : List Snt} {dd ff : D}
theorem e6 (s : I0) : atI [GC s.living, GC s.parts, GC s.downs, .tup (s.eG.map GC), .tup (s.dE.map aCE), .tup (s.zM.map ZU), .tup (s.yO.map aAj), .tup (s.tables.map GC), .tup (s.asks.map Pc.pairD)] 6 = some (.tup (s.yO.map aAj)) := rfl
end
end Lw
namespace Lw
open PySem PySem.Spec PyProof.Rows L2 Pc Lb TL
def RA (z : Str) : Prop := tl (reprText z) = 39 :: (tl z ++ [39]) ∧ 39 ∉ tl z
mutual
def dZ : PyData → Prop
 | .int _ => True
 | .str z => RA z
 | .tuple xs => SimPs xs
 | _ => False
def SimPs : List PyData → Prop
 | [] => True
 | x :: xs => dZ x ∧ SimPs xs
end
def jP : List PyData → List Nat
 | [] => [41]
 | y :: t => 44 :: 32 :: (tl y.shown ++ jP t)
def kH : List PyData → List Nat
 | [] => [41]
 | [x] => tl x.shown ++ [44, 41]
 | x :: y :: t => tl x.shown ++ (44 :: 32 :: (tl y.shown ++ jP t))
theorem EE : ∀ (x : PyData) (t : List PyData), joinL [44, 32] ((PyData.shownAll (x :: t)).map tl) ++ [41] = tl x.shown ++ jP t
 | x, [] => rfl
 | x, y :: t => by
  show (tl x.shown ++ ([44, 32] ++ joinL [44, 32] ((PyData.shownAll (y :: t)).map tl))) ++ [41] = _
  rw [bo, bo, EE y t]
  rfl
theorem vR (xs : List PyData) : tl (PyData.tuple xs).shown = 40 :: kH xs := by
 have e : (PyData.tuple xs).shown = ("(" : Str) ++ Str.join ", " (PyData.shownAll xs) ++ (if (PyData.shownAll xs).length == 1 then ",)" else ")" : String) := by
  simp only [PyData.shown]
  rfl
 have e1 : tl ("(" : Str) = [40] := by decide +kernel
 have e2 : tl (", " : Str) = [44, 32] := by decide +kernel
 have e3 : tl (Str.ofString ",)") = [44, 41] := by decide +kernel
 have e4 : tl (Str.ofString ")") = [41] := by decide +kernel
 rw [e, tl_append, tl_append, tl_join, e1, e2]
 match xs with
 | [] => simp only [PyData.shownAll, List.length_nil, List.map_nil]; exact congrArg _ e4
 | [x] =>
  show ([40] ++ tl x.shown) ++ tl (Str.ofString ",)") = _
  rw [e3]; rfl
 | x :: y :: t =>
  show ([40] ++ joinL [44, 32] ((PyData.shownAll (x :: y :: t)).map tl)) ++ tl (Str.ofString ")") = _
  rw [e4, bo, EE]; rfl
theorem zL (n : Nat) : tl (PyData.int (Int.negSucc n)).shown = 45 :: numL (n + 1) := by
 have e : (PyData.int (Int.negSucc n)).shown = Str.ofString ("-" ++ toString ((n + 1 : Nat) : Int)) := by
  simp only [PyData.shown]
  rfl
 rw [e, tl_ofString, String.toList_append, List.map_append, ← tl_ofString, ← tl_ofString, tl_num]
 have : tl (Str.ofString "-") = [45] := by decide +kernel
 rw [this]
 rfl
theorem G6 (n : Nat) : tl (PyData.int (n : Nat)).shown = numL n := by
 simp only [PyData.shown]
 exact tl_num n
def Dl (r : List Nat) : Prop := r = [] ∨ (∃ t, r = 44 :: t) ∨ ∃ t, r = 41 :: t
theorem NF : ∀ (a b : List Nat) {r r' : List Nat}, (∀ c ∈ a, 48 ≤ c ∧ c ≤ 57) → (∀ c ∈ b, 48 ≤ c ∧ c ≤ 57) → Dl r → Dl r' → a ++ r = b ++ r' → a = b ∧ r = r'
 | [], [], r, r', _, _, _, _, h => ⟨rfl, h⟩
 | x :: a, y :: b, r, r', ha, hb, d, d', h => by
  rw [List.cons_append, List.cons_append] at h
  injection h with h1 h2
  obtain ⟨e1, e2⟩ := NF a b (fun c hc => ha c (av _ hc)) (fun c hc => hb c (av _ hc)) d d' h2
  exact ⟨by rw [h1, e1], e2⟩
 | x :: a, [], r, r', ha, _, _, d', h => by
  exfalso
  have hx := ha x (aq ..)
  rw [List.nil_append] at h
  rcases d' with e | ⟨t, e⟩ | ⟨t, e⟩ <;> rw [e, List.cons_append] at h <;> injection h <;> omega
 | [], y :: b, r, r', _, hb, d, _, h => by
  exfalso
  have hy := hb y (aq ..)
  rw [List.nil_append] at h
  rcases d with e | ⟨t, e⟩ | ⟨t, e⟩ <;> rw [e, List.cons_append] at h <;> injection h <;> omega
theorem marks : ∀ (a b : List Nat) {r r' : List Nat}, 39 ∉ a → 39 ∉ b → a ++ 39 :: r = b ++ 39 :: r' → a = b ∧ r = r'
 | [], [], _, _, _, _, h => ⟨rfl, by injection h⟩
 | x :: a, y :: b, r, r', ha, hb, h => by
  rw [List.cons_append, List.cons_append] at h
  injection h with h1 h2
  obtain ⟨e1, e2⟩ := marks a b (fun c => ha (av _ c)) (fun c => hb (av _ c)) h2
  exact ⟨by rw [h1, e1], e2⟩
 | x :: a, [], r, r', ha, _, h => by
  rw [List.cons_append, List.nil_append] at h
  injection h with h1 h2
  exact absurd (by rw [h1]; exact aq ..) ha
 | [], y :: b, r, r', _, hb, h => by
  rw [List.cons_append, List.nil_append] at h
  injection h with h1 h2
  exact absurd (by rw [← h1]; exact aq ..) hb
theorem vI {z : Str} (h : RA z) : tl (PyData.str z).shown = 39 :: (tl z ++ [39]) := by
 simp only [PyData.shown]
 exact h.1
theorem rR : ∀ (p : PyData), dZ p → ∃ c l, tl p.shown = c :: l ∧ ((∃ n : Nat, p = .int (n : Nat)) ∧ (48 ≤ c ∧ c ≤ 57) ∨ (∃ n, p = .int (Int.negSucc n)) ∧ c = 45 ∨ (∃ z, p = .str z ∧ RA z) ∧ c = 39 ∨ (∃ xs, p = .tuple xs ∧ SimPs xs) ∧ c = 40)
 | .int (Int.ofNat n), _ => by
  have e : tl (PyData.int (Int.ofNat n)).shown = numL n := G6 n
  obtain ⟨c, l, h⟩ := List.exists_cons_of_ne_nil (numL_ne n)
  refine ⟨c, l, e.trans h, .inl ⟨⟨n, rfl⟩, ?_⟩⟩
  have := numL_digits n c (by rw [h]; exact aq ..)
  omega
 | .int (Int.negSucc n), _ => ⟨45, _, zL n, .inr (.inl ⟨⟨n, rfl⟩, rfl⟩)⟩
 | .str z, h => by
  rw [dZ] at h
  exact ⟨39, _, vI h, .inr (.inr (.inl ⟨⟨z, rfl, h⟩, rfl⟩))⟩
 | .tuple xs, h => by
  rw [dZ] at h
  exact ⟨40, _, vR xs, .inr (.inr (.inr ⟨⟨xs, rfl, h⟩, rfl⟩))⟩
 | .none, h => by simp [dZ] at h
 | .bool _, h => by simp [dZ] at h
 | .list _, h => by simp [dZ] at h
 | .dict _, h => by simp [dZ] at h
theorem Dl.tail : ∀ (t : List PyData) (r : List Nat), Dl (jP t ++ r)
 | [], r => .inr (.inr ⟨r, rfl⟩)
 | y :: t, r => .inr (.inl ⟨_, rfl⟩)
theorem r9 {p : PyData} (h : dZ p) {s u : List Nat} (e : tl p.shown ++ s = 41 :: u) : False := by
 obtain ⟨c, l, e1, hc⟩ := rR p h
 rw [e1, List.cons_append] at e
 injection e with e2 _
 rcases hc with ⟨_, hc⟩ | ⟨_, hc⟩ | ⟨_, hc⟩ | ⟨_, hc⟩ <;> omega
mutual
theorem lG : ∀ (p : PyData), dZ p → ∀ (q : PyData), dZ q → ∀ (r r' : List Nat), Dl r → Dl r' → tl p.shown ++ r = tl q.shown ++ r' → p = q ∧ r = r'
 | .int (Int.ofNat n), hp, q, hq, r, r', d, d', h => by
  have e : tl (PyData.int (Int.ofNat n)).shown = numL n := G6 n
  have dg : ∀ n c, c ∈ numL n → 48 ≤ c ∧ c ≤ 57 := fun n c hc => by
   have := numL_digits n c hc
   omega
  obtain ⟨c', l', e', hc'⟩ := rR (.int (Int.ofNat n)) hp
  obtain ⟨c, l, eq, hc⟩ := rR q hq
  have hcc : c' = c := by rw [e', eq, List.cons_append, List.cons_append] at h; injection h
  have h48 : 48 ≤ c' ∧ c' ≤ 57 := dg n c' (by rw [← e, e']; exact aq ..)
  rcases hc with ⟨⟨k, rfl⟩, _⟩ | ⟨_, hc⟩ | ⟨_, hc⟩ | ⟨_, hc⟩
  ·rw [e, G6] at h
   obtain ⟨e1, e2⟩ := NF _ _ (dg n) (dg k) d d' h
   rw [numL_inj e1]
   exact ⟨rfl, e2⟩
  all_goals exfalso; omega
 | .int (Int.negSucc n), hp, q, hq, r, r', d, d', h => by
  have dg : ∀ n c, c ∈ numL n → 48 ≤ c ∧ c ≤ 57 := fun n c hc => by
   have := numL_digits n c hc
   omega
  obtain ⟨c, l, eq, hc⟩ := rR q hq
  have hcc : 45 = c := by rw [zL, eq, List.cons_append, List.cons_append] at h; injection h
  rcases hc with ⟨_, hc⟩ | ⟨⟨k, rfl⟩, _⟩ | ⟨_, hc⟩ | ⟨_, hc⟩
  ·omega
  ·rw [zL, zL, List.cons_append, List.cons_append] at h
   injection h with _ h
   obtain ⟨e1, e2⟩ := NF _ _ (dg (n + 1)) (dg (k + 1)) d d' h
   have := numL_inj e1
   rw [show n = k by omega]
   exact ⟨rfl, e2⟩
  all_goals exfalso; omega
 | .str z, hp, q, hq, r, r', d, d', h => by
  rw [dZ] at hp
  obtain ⟨c, l, eq, hc⟩ := rR q hq
  have hcc : 39 = c := by rw [vI hp, eq, List.cons_append, List.cons_append] at h; injection h
  rcases hc with ⟨_, hc⟩ | ⟨_, hc⟩ | ⟨⟨k, rfl, hk⟩, _⟩ | ⟨_, hc⟩
  ·omega
  ·omega
  ·rw [vI hp, vI hk, List.cons_append, List.cons_append] at h
   injection h with _ h
   rw [bo, bo] at h
   obtain ⟨e1, e2⟩ := marks _ _ hp.2 hk.2 h
   rw [ext_tl e1]
   exact ⟨rfl, e2⟩
  ·omega
 | .tuple xs, hp, q, hq, r, r', d, d', h => by
  rw [dZ] at hp
  obtain ⟨c, l, eq, hc⟩ := rR q hq
  have hcc : 40 = c := by rw [vR, eq, List.cons_append, List.cons_append] at h; injection h
  rcases hc with ⟨_, hc⟩ | ⟨_, hc⟩ | ⟨_, hc⟩ | ⟨⟨ys, rfl, hk⟩, _⟩
  ·omega
  ·omega
  ·omega
  ·rw [vR, vR, List.cons_append, List.cons_append] at h
   injection h with _ h
   obtain ⟨e1, e2⟩ := tup_key xs hp ys hk r r' h
   exact ⟨by rw [e1], e2⟩
 | .none, h, _, _, _, _, _, _, _ => by simp [dZ] at h
 | .bool _, h, _, _, _, _, _, _, _ => by simp [dZ] at h
 | .list _, h, _, _, _, _, _, _, _ => by simp [dZ] at h
 | .dict _, h, _, _, _, _, _, _, _ => by simp [dZ] at h
theorem tup_key : ∀ (xs : List PyData), SimPs xs → ∀ (ys : List PyData), SimPs ys → ∀ (r r' : List Nat), kH xs ++ r = kH ys ++ r' → xs = ys ∧ r = r'
 | [], hx, [], hy, r, r', h => ⟨rfl, by simp only [kH, List.cons_append, List.nil_append] at h; injection h⟩
 | [], hx, [y], hy, r, r', h => by
  simp only [SimPs] at hy
  simp only [kH, List.cons_append, List.nil_append, bo] at h
  exact (r9 hy.1 h.symm).elim
 | [], hx, y :: y2 :: ys, hy, r, r', h => by
  simp only [SimPs] at hy
  simp only [kH, List.cons_append, List.nil_append, bo] at h
  exact (r9 hy.1 h.symm).elim
 | [x], hx, [], hy, r, r', h => by
  simp only [SimPs] at hx
  simp only [kH, List.cons_append, List.nil_append, bo] at h
  exact (r9 hx.1 h).elim
 | [x], hx, [y], hy, r, r', h => by
  simp only [SimPs] at hx hy
  simp only [kH, List.cons_append, List.nil_append, bo] at h
  obtain ⟨e1, e2⟩ := lG x hx.1 y hy.1 _ _ (.inr (.inl ⟨_, rfl⟩)) (.inr (.inl ⟨_, rfl⟩)) h
  injection e2 with _ e2
  injection e2 with _ e2
  exact ⟨by rw [e1], e2⟩
 | [x], hx, y :: y2 :: ys, hy, r, r', h => by
  simp only [SimPs] at hx hy
  simp only [kH, List.cons_append, List.nil_append, bo] at h
  obtain ⟨e1, e2⟩ := lG x hx.1 y hy.1 _ _ (.inr (.inl ⟨_, rfl⟩)) (.inr (.inl ⟨_, rfl⟩)) h
  injection e2 with _ e2
  injection e2 with e2 _
  omega
 | x :: x2 :: xs, hx, [], hy, r, r', h => by
  simp only [SimPs] at hx
  simp only [kH, List.cons_append, List.nil_append, bo] at h
  exact (r9 hx.1 h).elim
 | x :: x2 :: xs, hx, [y], hy, r, r', h => by
  simp only [SimPs] at hx hy
  simp only [kH, List.cons_append, List.nil_append, bo] at h
  obtain ⟨e1, e2⟩ := lG x hx.1 y hy.1 _ _ (.inr (.inl ⟨_, rfl⟩)) (.inr (.inl ⟨_, rfl⟩)) h
  injection e2 with _ e2
  injection e2 with e2 _
  omega
 | x :: x2 :: xs, hx, y :: y2 :: ys, hy, r, r', h => by
  simp only [SimPs] at hx hy
  simp only [kH, List.cons_append, List.nil_append, bo] at h
  obtain ⟨e1, e2⟩ := lG x hx.1 y hy.1 _ _ (.inr (.inl ⟨_, rfl⟩)) (.inr (.inl ⟨_, rfl⟩)) h
  injection e2 with _ e2
  injection e2 with _ e2
  obtain ⟨e3, e4⟩ := lG x2 hx.2.1 y2 hy.2.1 _ _ (Dl.tail _ _) (Dl.tail _ _) e2
  obtain ⟨e5, e6⟩ := tail_key xs hx.2.2 ys hy.2.2 r r' e4
  exact ⟨by rw [e1, e3, e5], e6⟩
theorem tail_key : ∀ (xs : List PyData), SimPs xs → ∀ (ys : List PyData), SimPs ys → ∀ (r r' : List Nat), jP xs ++ r = jP ys ++ r' → xs = ys ∧ r = r'
 | [], _, [], _, r, r', h => ⟨rfl, by simp only [jP, List.cons_append, List.nil_append] at h; injection h⟩
 | [], _, y :: ys, _, r, r', h => by
  simp only [jP, List.cons_append, List.nil_append] at h
  injection h with h _
  omega
 | x :: xs, _, [], _, r, r', h => by
  simp only [jP, List.cons_append, List.nil_append] at h
  injection h with h _
  omega
 | x :: xs, hx, y :: ys, hy, r, r', h => by
  simp only [SimPs] at hx hy
  simp only [jP, List.cons_append, List.nil_append, bo] at h
  injection h with _ h
  injection h with _ h
  obtain ⟨e1, e2⟩ := lG x hx.1 y hy.1 _ _ (Dl.tail _ _) (Dl.tail _ _) h
  obtain ⟨e3, e4⟩ := tail_key xs hx.2 ys hy.2 r r' e2
  exact ⟨by rw [e1, e3], e4⟩
end
mutual
theorem XX : ∀ (p : PyData), dZ p → ∀ (q : PyData), dZ q → (PyData.eqv p q = true ↔ p = q)
 | .int i, _, .int j, _ => by simp [PyData.eqv]
 | .str x, _, .str y, _ => by simp [PyData.eqv]
 | .tuple xs, hp, .tuple ys, hq => by
  rw [dZ] at hp hq
  rw [PyData.eqv, eqvs_sim xs hp ys hq]
  simp
 | .int i, _, .str y, _ => by simp [PyData.eqv]
 | .int i, _, .tuple y, _ => by simp [PyData.eqv]
 | .str i, _, .int y, _ => by simp [PyData.eqv]
 | .str i, _, .tuple y, _ => by simp [PyData.eqv]
 | .tuple i, _, .int y, _ => by simp [PyData.eqv]
 | .tuple i, _, .str y, _ => by simp [PyData.eqv]
 | .none, h, _, _ => by simp [dZ] at h
 | .bool _, h, _, _ => by simp [dZ] at h
 | .list _, h, _, _ => by simp [dZ] at h
 | .dict _, h, _, _ => by simp [dZ] at h
 | _, _, .none, h => by simp [dZ] at h
 | _, _, .bool _, h => by simp [dZ] at h
 | _, _, .list _, h => by simp [dZ] at h
 | _, _, .dict _, h => by simp [dZ] at h
theorem eqvs_sim : ∀ (xs : List PyData), SimPs xs → ∀ (ys : List PyData), SimPs ys → (PyData.eqvAll xs ys = true ↔ xs = ys)
 | [], _, [], _ => by simp [PyData.eqvAll]
 | [], _, y :: ys, _ => by simp [PyData.eqvAll]
 | x :: xs, _, [], _ => by simp [PyData.eqvAll]
 | x :: xs, hx, y :: ys, hy => by
  simp only [SimPs] at hx hy
  rw [PyData.eqvAll, ag, XX x hx.1 y hy.1, eqvs_sim xs hx.2 ys hy.2, List.cons.injEq]
end
mutual
def eB : D → Prop
 | .int _ => True
 | .str z => RA z
 | .tup xs => SimDs xs
 | _ => False
def SimDs : List D → Prop
 | [] => True
 | x :: xs => eB x ∧ SimDs xs
end
mutual
theorem II : ∀ (d : D) {f : Nat → Option PyData} {p : PyData}, eB d → d.eS f = some p → dZ p
 | .int i, f, p, _, h1 => by
  simp only [D.eS, af] at h1
  subst h1
  simp [dZ]
 | .str i, f, p, s1, h1 => by
  simp only [D.eS, af] at h1
  simp only [eB] at s1
  subst h1
  simp [dZ, s1]
 | .tup i, f, p, s1, h1 => by
  simp only [D.eS, aj] at h1
  obtain ⟨ps, h1, rfl⟩ := h1
  simp only [eB] at s1
  simp only [dZ]
  exact simps_of i s1 h1
 | .non, _, _, h, _ => by simp [eB] at h
 | .bl _, _, _, h, _ => by simp [eB] at h
 | .ty _, _, _, h, _ => by simp [eB] at h
 | .con _, _, _, h, _ => by simp [eB] at h
 | .lst _, _, _, h, _ => by simp [eB] at h
 | .mH _, _, _, h, _ => by simp [eB] at h
 | .pW _, _, _, h, _ => by simp [eB] at h
 | .BV _ _, _, _, h, _ => by simp [eB] at h
 | .ref _, _, _, h, _ => by simp [eB] at h
theorem simps_of : ∀ (xs : List D) {f : Nat → Option PyData} {ps : List PyData}, SimDs xs → D.pysR f xs = some ps → SimPs ps
 | [], f, ps, _, h1 => by
  simp only [D.pysR, af] at h1
  subst h1
  simp [SimPs]
 | x :: xs, f, ps, s1, h1 => by
  simp only [D.pysR] at h1
  split at h1
  ·rename_i p ps e1 e2
   cases h1
   simp only [SimDs] at s1
   simp only [SimPs]
   exact ⟨II x s1.1 e1, simps_of xs s1.2 e2⟩
  ·cases h1
end
mutual
theorem aAB : ∀ (d e : D) {f g : Nat → Option PyData} {p q : PyData}, eB d → eB e → d.eS f = some p → e.eS g = some q → dZ p ∧ dZ q ∧ (p = q ↔ d = e)
 | .int i, .int j, f, g, p, q, _, _, h1, h2 => by
  simp only [D.eS, af] at h1 h2
  subst h1 h2
  simp [dZ]
 | .str i, .str j, f, g, p, q, s1, s2, h1, h2 => by
  simp only [D.eS, af] at h1 h2
  simp only [eB] at s1 s2
  subst h1 h2
  simp [dZ, s1, s2]
 | .tup i, .tup j, f, g, p, q, s1, s2, h1, h2 => by
  simp only [D.eS, aj] at h1 h2
  obtain ⟨ps, h1, rfl⟩ := h1
  obtain ⟨qs, h2, rfl⟩ := h2
  simp only [eB] at s1 s2
  obtain ⟨a1, a2, a3⟩ := pys_sim i j s1 s2 h1 h2
  simp only [dZ, PyData.tuple.injEq, D.tup.injEq]
  exact ⟨a1, a2, a3⟩
 | .int i, .str j, f, g, p, q, s1, s2, h1, h2 => by
  simp only [D.eS, af] at h1 h2
  simp only [eB] at s1 s2
  subst h1 h2
  simp [dZ, s2]
 | .str i, .int j, f, g, p, q, s1, s2, h1, h2 => by
  simp only [D.eS, af] at h1 h2
  simp only [eB] at s1 s2
  subst h1 h2
  simp [dZ, s1]
 | .tup i, .int j, f, g, p, q, s1, s2, h1, h2 => by
  simp only [D.eS, af, aj] at h1 h2
  obtain ⟨ps, h1, rfl⟩ := h1
  subst h2
  simp only [eB] at s1 s2
  have a1 := simps_of i s1 h1
  simp [dZ, a1]
 | .tup i, .str j, f, g, p, q, s1, s2, h1, h2 => by
  simp only [D.eS, af, aj] at h1 h2
  obtain ⟨ps, h1, rfl⟩ := h1
  subst h2
  simp only [eB] at s1 s2
  have a1 := simps_of i s1 h1
  simp [dZ, a1, s2]
 | .int i, .tup j, f, g, p, q, s1, s2, h1, h2 => by
  simp only [D.eS, af, aj] at h1 h2
  obtain ⟨ps, h2, rfl⟩ := h2
  subst h1
  simp only [eB] at s1 s2
  have a1 := simps_of j s2 h2
  simp [dZ, a1]
 | .str i, .tup j, f, g, p, q, s1, s2, h1, h2 => by
  simp only [D.eS, af, aj] at h1 h2
  obtain ⟨ps, h2, rfl⟩ := h2
  subst h1
  simp only [eB] at s1 s2
  have a1 := simps_of j s2 h2
  simp [dZ, a1, s1]
 | .non, _, _, _, _, _, h, _, _, _ => by simp [eB] at h
 | .bl _, _, _, _, _, _, h, _, _, _ => by simp [eB] at h
 | .ty _, _, _, _, _, _, h, _, _, _ => by simp [eB] at h
 | .con _, _, _, _, _, _, h, _, _, _ => by simp [eB] at h
 | .lst _, _, _, _, _, _, h, _, _, _ => by simp [eB] at h
 | .mH _, _, _, _, _, _, h, _, _, _ => by simp [eB] at h
 | .pW _, _, _, _, _, _, h, _, _, _ => by simp [eB] at h
 | .BV _ _, _, _, _, _, _, h, _, _, _ => by simp [eB] at h
 | .ref _, _, _, _, _, _, h, _, _, _ => by simp [eB] at h
 | _, .non, _, _, _, _, _, h, _, _ => by simp [eB] at h
 | _, .bl _, _, _, _, _, _, h, _, _ => by simp [eB] at h
 | _, .ty _, _, _, _, _, _, h, _, _ => by simp [eB] at h
 | _, .con _, _, _, _, _, _, h, _, _ => by simp [eB] at h
 | _, .lst _, _, _, _, _, _, h, _, _ => by simp [eB] at h
 | _, .mH _, _, _, _, _, _, h, _, _ => by simp [eB] at h
 | _, .pW _, _, _, _, _, _, h, _, _ => by simp [eB] at h
 | _, .BV _ _, _, _, _, _, _, h, _, _ => by simp [eB] at h
 | _, .ref _, _, _, _, _, _, h, _, _ => by simp [eB] at h
theorem pys_sim : ∀ (xs ys : List D) {f g : Nat → Option PyData} {ps qs : List PyData}, SimDs xs → SimDs ys → D.pysR f xs = some ps → D.pysR g ys = some qs → SimPs ps ∧ SimPs qs ∧ (ps = qs ↔ xs = ys)
 | [], [], f, g, ps, qs, s1, s2, h1, h2 => by
  simp only [D.pysR, af] at h1 h2
  subst h1 h2
  simp [SimPs]
 | x :: xs, [], f, g, ps, qs, s1, s2, h1, h2 => by
  simp only [D.pysR, af] at h1 h2
  subst h2
  split at h1
  ·rename_i p ps e1 e2
   cases h1
   simp only [SimDs] at s1
   have a1 := II x s1.1 e1
   have b1 := simps_of xs s1.2 e2
   simp [SimPs, a1, b1]
  ·cases h1
 | [], y :: ys, f, g, ps, qs, s1, s2, h1, h2 => by
  simp only [D.pysR, af] at h1 h2
  subst h1
  split at h2
  ·rename_i p ps e1 e2
   cases h2
   simp only [SimDs] at s2
   have a1 := II y s2.1 e1
   have b1 := simps_of ys s2.2 e2
   simp [SimPs, a1, b1]
  ·cases h2
 | x :: xs, y :: ys, f, g, ps, qs, s1, s2, h1, h2 => by
  simp only [D.pysR] at h1 h2
  split at h1
  ·split at h2
   ·rename_i p ps e1 e2 _ _ q qs e3 e4
    cases h1
    cases h2
    simp only [SimDs] at s1 s2
    obtain ⟨a1, a2, a3⟩ := aAB x y s1.1 s2.1 e1 e3
    obtain ⟨b1, b2, b3⟩ := pys_sim xs ys s1.2 s2.2 e2 e4
    exact ⟨⟨a1, b1⟩, ⟨a2, b2⟩, by rw [List.cons.injEq, List.cons.injEq, a3, b3]⟩
   ·cases h2
  ·cases h1
end
section
variable {w : W} {d e : D} {u v : PyData}
theorem SimDs.all : ∀ {xs : List D}, (∀ x ∈ xs, eB x) → SimDs xs
 | [], _ => by simp only [SimDs]
 | x :: xs, h => by
  simp only [SimDs]
  exact ⟨h x (aq ..), SimDs.all fun y hy => h y (av _ hy)⟩
end
mutual
/-- plain things, empty dicts among them -/
def fC : PyData → Bool
 | .none | .bool _ => true
 | .int i => decide (i.natAbs < 10 ^ 40)
 | .str x => PyData.strOk (reprText x) && PyData.strOk x && PyData.leavesShort 60 (.str x) && decide (x.length ≤ 100)
 | .list xs | .tuple xs => plainXs xs
 | .dict kvs => kvs.isEmpty
def plainXs : List PyData → Bool
 | [] => true
 | x :: xs => fC x && plainXs xs
end
mutual
theorem FX : ∀ p : PyData, fC p = true → PyData.strOk p.shown = true
 | .none, _ => dU _
 | .bool b, _ => by cases b <;> exact dU _
 | .int i, _ => dU _
 | .str x, h => by
  simp only [fC, ag] at h
  exact h.1.1.1
 | .list xs, h => by
  rw [fC] at h
  show PyData.strOk (textFrom 0 "[" (PyData.shownAll xs) ++ "]") = true
  rw [fJ, mK _ _ _ (dU _) (plainXs_shown xs h), dU]
  rfl
 | .tuple xs, h => by
  rw [fC] at h
  show PyData.strOk (tupleText (PyData.shownAll xs)) = true
  unfold tupleText
  rw [fJ, fJ, dU, uX _ (dU _) _ (plainXs_shown xs h)]
  split <;> rw [dU] <;> rfl
 | .dict [], _ => by decide +kernel
 | .dict (_ :: _), h => by simp [fC] at h
theorem plainXs_shown : ∀ ps : List PyData, plainXs ps = true → ∀ t ∈ PyData.shownAll ps, PyData.strOk t = true
 | [], _, t, ht => by simp [PyData.shownAll] at ht
 | p :: ps, h, t, ht => by
  simp only [plainXs, ag] at h
  simp only [PyData.shownAll, au] at ht
  rcases ht with rfl | ht
  ·exact FX p h.1
  ·exact plainXs_shown ps h.2 t ht
end
mutual
theorem OI : ∀ p : PyData, fC p = true → p.leavesShort 60 = true ∧ p.showable = true
 | .none, _ => by simp [PyData.leavesShort, PyData.showable]
 | .bool b, _ => by simp [PyData.leavesShort, PyData.showable]
 | .int i, h => by
  simp only [fC, ai] at h
  exact ⟨vV h, uQ h⟩
 | .str x, h => by
  simp only [fC, ag] at h
  exact ⟨h.1.2, by simp [PyData.showable]⟩
 | .list xs, h => by
  rw [fC] at h
  have := plainXs_all xs h
  simp only [PyData.leavesShort, PyData.showable]
  exact this
 | .tuple xs, h => by
  rw [fC] at h
  have := plainXs_all xs h
  simp only [PyData.leavesShort, PyData.showable]
  exact this
 | .dict [], _ => by decide +kernel
 | .dict (_ :: _), h => by simp [fC] at h
theorem plainXs_all : ∀ p : List PyData, plainXs p = true → PyData.leavesShortAll 60 p = true ∧ PyData.showableAll p = true
 | [], _ => by simp [PyData.leavesShortAll, PyData.showableAll]
 | p :: ps, h => by
  simp only [plainXs, ag] at h
  obtain ⟨a1, a2⟩ := OI p h.1
  obtain ⟨b1, b2⟩ := plainXs_all ps h.2
  simp only [PyData.leavesShortAll, PyData.showableAll, a1, a2, b1, b2]
  simp
end
mutual
theorem SF : ∀ p : PyData, e7 p = true → fC p = true
 | .none, _ => rfl
 | .bool b, _ => rfl
 | .int i, h => by rw [e7] at h; rw [fC]; exact h
 | .str x, h => by rw [e7] at h; rw [fC]; exact h
 | .list xs, h => by rw [e7] at h; rw [fC]; exact plainXs_of xs h
 | .tuple xs, h => by rw [e7] at h; rw [fC]; exact plainXs_of xs h
 | .dict _, h => by simp [e7] at h
theorem plainXs_of : ∀ p : List PyData, plainPs p = true → plainXs p = true
 | [], _ => rfl
 | p :: ps, h => by
  simp only [plainPs, ag] at h
  simp only [plainXs, SF p h.1, plainXs_of ps h.2, Bool.and_self]
end
mutual
theorem aAt {f g : Nat → Option PyData} (hfg : ∀ i p, f i = some p → g i = some p) : ∀ (d : D) {p : PyData}, d.eS f = some p → d.eS g = some p
 | .non, _, h => by simpa only [D.eS] using h
 | .bl _, _, h => by simpa only [D.eS] using h
 | .int _, _, h => by simpa only [D.eS] using h
 | .str _, _, h => by simpa only [D.eS] using h
 | .ty _, _, h => by simp [D.eS] at h
 | .con _, _, h => by simp [D.eS] at h
 | .BV _ _, _, h => by simp [D.eS] at h
 | .ref i, _, h => by
  simp only [D.eS] at h ⊢
  exact hfg i _ h
 | .tup xs, _, h => by
  simp only [D.eS, aj] at h ⊢
  obtain ⟨ps, h1, h2⟩ := h
  exact ⟨ps, pysR_le hfg xs h1, h2⟩
 | .pW xs, _, h => by
  simp only [D.eS, aj] at h ⊢
  obtain ⟨ps, h1, h2⟩ := h
  exact ⟨ps, pysR_le hfg xs h1, h2⟩
 | .lst xs, _, h => by
  simp only [D.eS, aj] at h ⊢
  obtain ⟨ps, h1, h2⟩ := h
  exact ⟨ps, pysR_le hfg xs h1, h2⟩
 | .mH xs, _, h => by
  simp only [D.eS, aj] at h ⊢
  obtain ⟨ps, h1, h2⟩ := h
  exact ⟨ps, pysR_le hfg xs h1, h2⟩
theorem pysR_le {f g : Nat → Option PyData} (hfg : ∀ i p, f i = some p → g i = some p) : ∀ (ds : List D) {ps : List PyData}, D.pysR f ds = some ps → D.pysR g ds = some ps
 | [], _, h => by simpa only [D.pysR] using h
 | d :: ds, _, h => by
  simp only [D.pysR] at h ⊢
  split at h
  ·rename_i p ps e1 e2
   rw [aAt hfg d e1, pysR_le hfg ds e2]
   exact h
  ·cases h
end
end Lw
namespace Lw
open PySem PySem.Spec PyProof.Rows L2 Pc Lb
def aBz (h : Nat) (s : I0) (a v : Nat) : List Nat := (WY h s v).filter fun c => aCL (YV s a c)
inductive Mark where
 | one (a v : Nat) | two (a v c d : Nat)
def Mark.a : Mark → Nat
 | .one a _ => a
 | .two a _ _ _ => a
def Mark.v : Mark → Nat
 | .one _ v => v
 | .two _ v _ _ => v
def Mark.key : Mark → List Key
 | .one a v => [.inl (a : Nat), .inl (v : Nat)]
 | .two a v c d => [.inl (a : Nat), .inl (v : Nat), .inl (c : Nat), .inl (d : Nat)]
def Mark.hold (h : Nat) (s : I0) : Mark → Prop
 | .one a v => WY h s v ≠ [] ∧ aBz h s a v = []
 | .two a v c d => c ∈ aBz h s a v ∧ d ∈ aBz h s a v ∧ c ≠ d
section
variable {m : Mo} {b : Int} {h Q : Nat} {x : Wx} {ts : List VF} {u : VF} {a v c d t : Nat} {mk : Mark} {s1 s2 : I0} {ds : List y8} {ls : List Snt}
def Mark.most (m : Mo) (b : Int) (h : Nat) : Mark → Nat
 | .one _ _ => aBX m b h
 | .two _ _ _ _ => aB8 m
end
def V4 : MS :=
 (aJ (aO (aD bH (aD aZ (aB 0) (eC (.str ("at" : Str)))) (eC (.int 1))) (c8 (aB 0) (eC (.str ("at" : Str)))))
 (aJ (aO (aD aZ (aB 0) (eC (.str ("at" : Str)))) (aN 2))
 (aJ (aO (aD aZ (aB 0) (eC (.str ("cells" : Str)))) (aN 3))
 (aJ (aO (aD bH (aD aZ (aB 0) (eC (.str ("sum" : Str)))) (aB 2)) (aN 4))
 (aJ (cO (aU (aD mS (aB 3) (i3 aC))) (aJ (aO (bA "list" xD (aB 3) (aA (eC (.int 0)) aC)) (aN 4))
 (cO (aU (aD XT (aB 4) (aD OJ (eC (.int 10)) (eC (.int 18))))) (aJ (cF (bA "list" rQ (aB 3) (aA (eC (.int 0)) (aA (aD sS (aB 4) (aB 1)) aC))))
 (aQ (aD iV (aB 4) (aB 1)))) aV)) aV)
 (aJ (aO (aD iV (aD bH (aD bH (aD mulM (aD iV (aB 4) (eC (.int 2147483647))) (eC (.int 48271))) (aD mulM (aD mulM (eC (.int 69621)) (aB 2)) (aB 2))) (eC (.int 7919))) (eC (.int 2147483629))) (aN 5))
 (aJ (aO (aD iV (aD mulM (aB 5) (aB 5)) (eC (.int 2147483587))) (aN 5))
 (aQ (aD iV (aD sS (aD iV (aD mulM (aB 5) (aD bH (aB 5) (eC (.int 39373)))) (eC (.int 2147483563))) (eC (.int 64))) (aB 1))))))))))
def VI : List Str := [("_law_deck_here" : Str), ("_law_bound" : Str), ("_law_at" : Str), ("_law_cells" : Str), ("_law_seed" : Str), ("_law_number" : Str)]
def kL : MF := a7 V4 VI
def qL (c : Nat) (a sm : Int) : List (L2.Key × D) := [(.inr ("cells" : Str), .ref c), (.inr ("at" : Str), .int a), (.inr ("sum" : Str), .int sm)]
def gE (w : W) (r c b : Nat) : Prop := r ≠ c ∧ ∃ (cells : List Int) (sm : Int) (a : Nat), w[r]? = some (.dK (qL c a sm)) ∧ w[c]? = some (.lst (cells.map D.int)) ∧ cells.length ≤ 63 ∧ a + b ≤ 2 ^ 60
section
variable {w w' : W} {P : D → W → Prop} {r c b : Nat} {size : Int}
theorem aDz (x0 x1 : D) : begin VI [x0, x1] = [some x0, some x1, none, none, none, none] := rfl
theorem aCV : T (OJ (.int 10) (.int 18) w) P = P (.int (10 ^ 18)) w := by
 have : OJ (.int 10) (.int 18) w = .ok (.int (10 ^ 18)) w := by unfold OJ; rfl
 rw [this, b0]
theorem zG {a c : Int} (h : -(2 ^ 64) < a ∧ a < 2 ^ 64) : AX a c = true := by
 unfold AX
 rw [decide_eq_true h.1, decide_eq_true h.2]
 rfl
theorem Q5 {a c : Int} (h : -(2 ^ 64) < c ∧ c < 2 ^ 64) : AX a c = true := by
 unfold AX
 rw [decide_eq_true h.1, decide_eq_true h.2]
 simp
theorem SQ {cell a : Int} {s3 : Option D} (h0 : 0 < size) (ha : 0 ≤ a ∧ a < 2 ^ 61) (hP : ∀ v, 0 ≤ v → v < size → P (.int v) w) :
  T (aJ (aO (aD iV (aD bH (aD bH (aD mulM (aD iV (aB 4) (eC (.int 2147483647))) (eC (.int 48271))) (aD mulM (aD mulM (eC (.int 69621)) (aB 2)) (aB 2))) (eC (.int 7919))) (eC (.int 2147483629))) (aN 5))
 (aJ (aO (aD iV (aD mulM (aB 5) (aB 5)) (eC (.int 2147483587))) (aN 5))
 (aQ (aD iV (aD sS (aD iV (aD mulM (aB 5) (aD bH (aB 5) (eC (.int 39373)))) (eC (.int 2147483563))) (eC (.int 64))) (aB 1))))
   [some (.ref r), some (.int size), some (.int a), s3, some (.int cell), none] w) fun f w1 => match f with
   | .nx _ => P .non w1
   | .rt d => P d w1
   | _ => False := by
 rw [bL]
 simp only [EH, MK, xU, CH, zY, ae, ab, reduceCtorEq]
 refine ⟨by omega, Q5 ⟨by omega, by omega⟩, zG ⟨by omega, by omega⟩, Q5 ⟨by omega, by omega⟩, by omega, ?_⟩
 obtain ⟨n, en⟩ : ∃ n, n = (cell % 2147483647 * 48271 + 69621 * a * a + 7919) % 2147483629 := ⟨_, rfl⟩
 have n0 : 0 ≤ n ∧ n < 2147483629 := by
  rw [en]
  exact ⟨Int.emod_nonneg _ (by omega), Int.emod_lt_of_pos _ (by omega)⟩
 rw [← en, bL]
 simp only [EH, MK, xU, CH, zY, ae, ab, reduceCtorEq]
 obtain ⟨m, em⟩ : ∃ m, m = n * n % 2147483587 := ⟨_, rfl⟩
 have m0 : 0 ≤ m ∧ m < 2147483587 := by
  rw [em]
  exact ⟨Int.emod_nonneg _ (by omega), Int.emod_lt_of_pos _ (by omega)⟩
 rw [← em]
 refine ⟨zG ⟨by omega, by omega⟩, by omega, ?_⟩
 try simp only [EH, MK, xU, CH, zY, ae, ab, reduceCtorEq]
 refine ⟨zG ⟨by omega, by omega⟩, by omega, ⟨by omega, by omega⟩, h0, hP _ (Int.emod_nonneg _ (by omega)) (Int.emod_lt_of_pos _ h0)⟩
theorem zF (h : gE w r c (b + 1)) (h0 : 0 < size) (h1 : size < 1073741824) (hP : ∀ v w', 0 ≤ v → v < size → gE w' r c b → Pc.Kept w w' r c → P (.int v) w') : T (kL [.ref r, .int size] w) P := by
 obtain ⟨ne, cells, sm, a, hr, hc, hl, hb⟩ := h
 have lr := (ak.mp hr).1
 have lc := (ak.mp hc).1
 unfold kL V4
 rw [cY, aDz, bL]
 simp only [P2 hr, zY, ae, ab, reduceCtorEq]
 refine ⟨.int a, rfl, ?_⟩
 simp only [xU, zY, ae, ab, reduceCtorEq]
 rw [aAZ hr]
 have ek : putD (qL c a sm) (.inr ("at" : Str)) (.int ((a : Int) + 1)) = qL c ((a + 1 : Nat) : Int) sm := rfl
 rw [ek]
 refine ⟨by rw [sizeLine_eq]; unfold qL; simp, ?_⟩
 obtain ⟨w1, e1⟩ : ∃ w1, w1 = w.set r (.dK (qL c ((a + 1 : Nat) : Int) sm)) := ⟨_, rfl⟩
 have hr1 : w1[r]? = some (.dK (qL c ((a + 1 : Nat) : Int) sm)) := by rw [e1]; exact bu lr
 have hc1 : w1[c]? = some (.lst (cells.map D.int)) := by rw [e1, bc ne]; exact hc
 have k1 : Pc.Kept w w1 r c := ⟨by rw [e1, List.length_set], fun i h2 _ => by rw [e1, bc (Ne.symm h2)]⟩
 rw [← e1, bL]
 simp only [P2 hr1, zY, ae, ab, reduceCtorEq]
 refine ⟨.int ((a + 1 : Nat) : Int), rfl, ?_⟩
 try simp only [zY, ae, ab, reduceCtorEq]
 rw [bL]
 simp only [P2 hr1, zY, ae, ab, reduceCtorEq]
 refine ⟨.ref c, rfl, ?_⟩
 try simp only [zY, ae, ab, reduceCtorEq]
 rw [bL]
 simp only [P2 hr1, zY, ae, ab, reduceCtorEq]
 refine ⟨.int sm, rfl, ?_⟩
 simp only [xU, zY, ae, ab, reduceCtorEq]
 rw [bL]
 have fin : ∀ (cell : Int) (w2 : W), gE w2 r c b → Pc.Kept w w2 r c → T (aJ (aO (aD iV (aD bH (aD bH (aD mulM (aD iV (aB 4) (eC (.int 2147483647))) (eC (.int 48271))) (aD mulM (aD mulM (eC (.int 69621)) (aB 2)) (aB 2))) (eC (.int 7919))) (eC (.int 2147483629))) (aN 5))
 (aJ (aO (aD iV (aD mulM (aB 5) (aB 5)) (eC (.int 2147483587))) (aN 5))
 (aQ (aD iV (aD sS (aD iV (aD mulM (aB 5) (aD bH (aB 5) (eC (.int 39373)))) (eC (.int 2147483563))) (eC (.int 64))) (aB 1))))
   [some (.ref r), some (.int size), some (.int ((a + 1 : Nat) : Int)), some (.ref c), some (.int cell), none] w2) fun f w1 => match f with
   | .nx _ => P .non w1
   | .rt d => P d w1
   | _ => False := fun cell w2 d2 k2 => SQ h0 ⟨by omega, by omega⟩ fun v v0 v1 => hP v w2 v0 v1 d2 k2
 have d1 : gE w1 r c b := ⟨ne, cells, sm, a + 1, hr1, hc1, hl, by omega⟩
 rcases cells with _ | ⟨z, zs⟩
 ·simp only [Pc.ne_nil hc1, b0, List.isEmpty_nil, Bool.not_true, zY, ae, ab, reduceCtorEq]
  exact fin _ w1 d1 k1
 ·obtain ⟨w2, e2⟩ : ∃ w2, w2 = w1.set c (.lst (zs.map D.int)) := ⟨_, rfl⟩
  have lc1 : c < w1.length := by rw [k1.1]; exact lc
  have hr2 : w2[r]? = some (.dK (qL c ((a + 1 : Nat) : Int) sm)) := by rw [e2, bc (Ne.symm ne)]; exact hr1
  have hc2 : w2[c]? = some (.lst (zs.map D.int)) := by rw [e2]; exact bu lc1
  have k2 : Pc.Kept w w2 r c := ⟨by rw [e2, List.length_set]; exact k1.1, fun i h2 h3 => by rw [e2, bc (Ne.symm h3)]; exact k1.2 i h2 h3⟩
  have lz : zs.length + 1 ≤ 63 := by simpa using hl
  have d2 : gE w2 r c b := ⟨ne, zs, sm, a + 1, hr2, hc2, by omega, by omega⟩
  have ep : xD (.ref c) [.int 0] w1 = .ok (.int z) w2 := by
   unfold xD
   simp only [hc1]
   rw [if_pos (by omega), e2]
   have es : seqIndex? 0 ((z :: zs).map D.int).length = some 0 := by
    unfold seqIndex?
    simp
   rw [es]
   rfl
  simp only [Pc.ne_nil hc1, b0, List.isEmpty_cons, Bool.not_false, zY, ae, ab, reduceCtorEq]
  rw [bL]
  simp only [tyL hc1, ep, b0, zY, ae, ab, reduceCtorEq]
  simp only [aCV, aCq, zY, ae, ab, reduceCtorEq]
  split
  ·rw [bL]
   simp only [tyL hc2, CH, zY, ae, ab, reduceCtorEq]
   refine ⟨⟨h0, h1⟩, ?_⟩
   obtain ⟨w3, e3⟩ : ∃ w3, w3 = w2.set c (.lst ((z / size :: zs).map D.int)) := ⟨_, rfl⟩
   have lc2 : c < w2.length := by rw [k2.1]; exact lc
   have ei : rQ (.ref c) [.int 0, .int (z / size)] w2 = .ok .non w3 := by
    unfold rQ
    simp only [hc2]
    rw [if_pos ⟨by rw [sizeLine_eq, ay]; omega, by omega, by omega⟩, e3]
    rfl
   have hr3 : w3[r]? = some (.dK (qL c ((a + 1 : Nat) : Int) sm)) := by rw [e3, bc (Ne.symm ne)]; exact hr2
   have hc3 : w3[c]? = some (.lst ((z / size :: zs).map D.int)) := by rw [e3]; exact bu lc2
   have k3 : Pc.Kept w w3 r c := ⟨by rw [e3, List.length_set]; exact k2.1, fun i h2 h3 => by rw [e3, bc (Ne.symm h3)]; exact k2.2 i h2 h3⟩
   simp only [ei, b0, EH, zY, ae, ab, reduceCtorEq]
   exact ⟨h0, hP _ w3 (Int.emod_nonneg _ (by omega)) (Int.emod_lt_of_pos _ h0) ⟨ne, z / size :: zs, sm, a + 1, hr3, hc3, by simpa using lz, by omega⟩ k3⟩
  ·exact fin _ w2 d2 k2
def W5 : List Str := [("_law_deck_here" : Str), ("_law_some" : Str)]
def VW : MS := (aQ (aD aZ (aB 1) (aI kL 2 aK (aA (aB 0) (aA (aL cU (aA (aB 1) aC)) aC)))))
def FI : MF := a7 VW W5
theorem ZH {xs : List D} (h : gE w r c (b + 1)) (h0 : xs ≠ []) (h1 : xs.length < 1073741824) (hP : ∀ x w', x ∈ xs → gE w' r c b → Pc.Kept w w' r c → P x w') : T (FI [.ref r, .lst xs] w) P := by
 have bb : begin W5 [.ref r, .lst xs] = [some (.ref r), some (.lst xs)] := rfl
 have l0 : 0 < xs.length := List.length_pos_iff.mpr h0
 unfold FI VW
 rw [cY, bb]
 simp only [S2, zY, ae, ab, reduceCtorEq]
 refine zF h (by omega) (by omega) fun v w' v0 v1 d' k' => ?_
 obtain ⟨i, x, e1, e2, _⟩ := atI_nat v0 v1
 simp only [ZY, V7, zY, ae, ab, reduceCtorEq]
 exact ⟨x, e2, hP x w' (cc e1) d' k'⟩
def S0 : List Str := [("_law_script" : Str), ("_law_cells" : Str)]
def VQ : MS :=
 (aJ (aO (aL AI (aA (qF m9 (aB 0) c6 (cG (eC (.int 63)))) aC)) (aN 1))
 (aQ (NU (mA (eC (.str ("cells" : Str))) (aB 1) (mA (eC (.str ("at" : Str))) (eC (.int 0)) (mA (eC (.str ("sum" : Str))) (aD bH (aD iV (aL LF (aA (aB 1) aC)) (eC (.int 2147483629))) (aD mulM (eC (.int 17)) (aL cU (aA (aB 1) aC)))) R7))))))
def OP : MF := a7 VQ S0
theorem aCn (x0 : D) : begin S0 [x0] = [some x0, none] := rfl
theorem XH {ns : List Int} (hn : ns.length ≤ 63) : T (OP [.mH (ns.map D.int)] []) fun d w => d = .ref 1 ∧ w.length = 2 ∧ gE w 1 0 (2 ^ 59) := by
 obtain ⟨ms, e1, e2⟩ := XU (ns := ns) (lo := none) (hi := some 63)
 have sl : m9 (.mH (ns.map D.int)) none (some 63) [] = .ok (.lst (ms.map D.int)) [] := by simp only [m9, e1]
 have ln : AI [.lst (ms.map D.int)] [] = .ok (.ref 0) [.lst (ms.map D.int)] := rfl
 have h0 : ([MO.lst (ms.map D.int)] : W)[0]? = some (.lst (ms.map D.int)) := rfl
 have hl : ms.length ≤ 63 := by omega
 unfold OP VQ
 rw [cY, aCn, bL]
 simp only [sl, ln, b0, zY, ae, ab, reduceCtorEq]
 have sm : LF [.ref 0] [MO.lst (ms.map D.int)] = .ok (.int ms.sum) [MO.lst (ms.map D.int)] := by
  have : sI (.ref 0) [MO.lst (ms.map D.int)] = some (ms.map D.int) := rfl
  simp only [LF, this, Option.bind_some, Pc.oI]
 have lm : cU [.ref 0] [MO.lst (ms.map D.int)] = .ok (.int ms.length) [MO.lst (ms.map D.int)] := by simp [cU, BK]
 simp only [sm, lm, b0, EH, MK, xU]
 exact ⟨by omega, zG ⟨by omega, by omega⟩, _, rfl, by simp, rfl, rfl, by omega, ms, _, 0, rfl, rfl, hl, by omega⟩
end
theorem gE.less {w : W} {r c b b' : Nat} (d : gE w r c b) (h : b' ≤ b) : gE w r c b' := by
 obtain ⟨ne, cells, sm, a, h1, h2, h3, h4⟩ := d
 exact ⟨ne, cells, sm, a, h1, h2, h3, by omega⟩
section
variable {w : W} {P : D → W → Prop} {PF : Fl → W → Prop} {r c b H q : Nat} {us : List (Int × Int × Int)} {s1 s3 s4 s5 s7 s8 s9 s10 s11 s12 : Option D}
theorem IY {o : MO} (d : gE w r c b) (h1 : q ≠ r) (h2 : q ≠ c) : gE (w.set q o) r c b := by
 obtain ⟨ne, cells, sm, a, g1, g2, g3, g4⟩ := d
 exact ⟨ne, cells, sm, a, by rw [bc h1]; exact g1, by rw [bc h2]; exact g2, g3, g4⟩
end
def chB (c : Nat) : Bool := decide (32 ≤ c) && (decide (c < 127) && ((c != 34) && ((c != 39) && (c != 92))))
def CU (l : Nat) (x : Str) : Bool := x.cps.toList.all chB && decide (x.cps.size ≤ 60 + l)
def L3 (l : Nat) : D → Bool
 | .int i => decide (i.natAbs ≤ 1000000000000000000000000000000000000000 + 1000 * l)
 | .str x => CU l x
 | _ => false
def C0 : Nat → Nat → D → Bool
 | 0, _, _ => false
 | _ + 1, _, .non => true
 | _ + 1, _, .bl _ => true
 | _ + 1, l, .int i => decide (i.natAbs ≤ 1000000000000000000000000000000000000000 + 1000 * l)
 | _ + 1, l, .str x => CU l x
 | n + 1, l, .tup xs => xs.all (C0 n l) && decide (xs.length ≤ 40 + l)
 | n + 1, l, .lst xs => xs.all (C0 n l) && decide (xs.length ≤ 40 + l)
 | n + 1, l, .BV ks vs => (ks.all (L3 l) && vs.all (C0 n l)) && (decide (ks.length = vs.length) && decide (ks.length ≤ 15))
 | _ + 1, _, _ => false
mutual
def kG : D → Nat
 | .str x => x.cps.size
 | .tup xs => wtDs xs
 | .lst xs => wtDs xs
 | .pW xs => wtDs xs
 | .mH xs => wtDs xs
 | .BV ks vs => wtDs ks + wtDs vs
 | _ => 0
def wtDs : List D → Nat
 | [] => 0
 | x :: xs => kG x + 1 + wtDs xs
end
theorem UM {c : Nat} (h : chB c = true) : c < 127 := by
 simp only [chB, ag, ai] at h
 exact h.2.1
theorem Q8 {l : Nat} {x : Str} (h : CU l x = true) : PyData.strOk x = true := by
 simp only [CU, ag, ao] at h
 unfold PyData.strOk
 rw [Array.all_eq_true_iff_forall_mem]
 intro c hc
 have := UM (h.1 c (by simpa using hc))
 simp only [ai]
 omega
theorem u6 {l l' : Nat} {x : Str} (h : CU l x = true) (hl : l ≤ l') : CU l' x = true := by
 simp only [CU, ag, ai] at h ⊢
 exact ⟨h.1, by omega⟩
theorem XA {l l' : Nat} {x : D} (h : L3 l x = true) (hl : l ≤ l') : L3 l' x = true := by
 cases x <;> simp only [L3, bz] at h ⊢
 ·simp only [ai] at h ⊢
  omega
 ·exact u6 h hl
theorem BS : ∀ {n n' l l' : Nat} {d : D}, C0 n l d = true → n ≤ n' → l ≤ l' → C0 n' l' d = true
 | 0, _, _, _, _, h, _, _ => by simp [C0] at h
 | n + 1, 0, _, _, _, _, hn, _ => by omega
 | n + 1, n' + 1, l, l', d, h, hn, hl => by
  cases d <;> simp only [C0, bz] at h ⊢
  ·simp only [ai] at h ⊢
   omega
  ·exact u6 h hl
  ·simp only [ag, ao, ai] at h ⊢
   exact ⟨fun x hx => BS (h.1 x hx) (by omega) hl, by omega⟩
  ·simp only [ag, ao, ai] at h ⊢
   exact ⟨fun x hx => BS (h.1 x hx) (by omega) hl, by omega⟩
  ·simp only [ag, ao, ai] at h ⊢
   exact ⟨⟨fun x hx => XA (h.1.1 x hx) hl, fun x hx => BS (h.1.2 x hx) (by omega) hl⟩, h.2⟩
theorem XI {n l : Nat} {x : D} (h : L3 l x = true) (hl : l ≤ 1000) : kR (n + 1) x = true := by
 cases x <;> simp only [L3, bz] at h
 ·simp only [ai] at h
  simp only [kR, ai]
  omega
 ·exact Q8 h
theorem FJ : ∀ {n l : Nat} {d : D}, C0 n l d = true → l ≤ 1000 → kR (n + 1) d = true
 | 0, _, _, h, _ => by simp [C0] at h
 | n + 1, l, d, h, hl => by
  cases d <;> simp only [C0, kR, bz] at h ⊢
  ·simp only [ai] at h ⊢
   omega
  ·exact Q8 h
  ·simp only [ag, ao, ai] at h ⊢
   exact ⟨fun x hx => FJ (h.1 x hx) hl, by omega⟩
  ·simp only [ag, ao, ai] at h ⊢
   exact ⟨fun x hx => FJ (h.1 x hx) hl, by omega⟩
  ·simp only [ag, ao, ai] at h ⊢
   exact ⟨⟨fun x hx => XI (h.1.1 x hx) hl, fun x hx => FJ (h.1.2 x hx) hl⟩, h.2.2⟩
mutual
def dJ : PyData → Bool
 | .none => true
 | .bool _ => true
 | .int i => decide (i.natAbs < 10 ^ 40)
 | .str x => CU 100 x
 | .list xs => plainVs xs
 | .tuple xs => plainVs xs
 | .dict kvs => plainKv kvs
def plainVs : List PyData → Bool
 | [] => true
 | x :: xs => dJ x && plainVs xs
def plainKv : List (PyData × PyData) → Bool
 | [] => true
 | (k, v) :: r => (dJ k && dJ v) && plainKv r
end
theorem UG : ((List.range 127).all fun c => (Builtin.Str.reprChar 34 c).all (fun x => decide (x < 0x110000)) && (Builtin.Str.reprChar 39 c).all (fun x => decide (x < 0x110000))) = true := by decide +kernel
theorem LB {q c : Nat} (hq : q = 34 ∨ q = 39) (hc : c < 127) : ∀ x ∈ Builtin.Str.reprChar q c, x < 0x110000 := by
 have a := UG
 rw [ao] at a
 have b := a c (List.mem_range.mpr hc)
 simp only [ag, ao, ai] at b
 rcases hq with rfl | rfl
 ·exact b.1
 ·exact b.2
theorem JU {x : Str} (h : x.cps.toList.all chB = true) : PyData.strOk (reprText x) = true := by
 have hq : reprQuote x = 34 ∨ reprQuote x = 39 := by
  unfold reprQuote
  split
  ·exact .inl rfl
  ·exact .inr rfl
 have key : ∀ (cs : List Nat) (acc : Array Nat), (∀ c ∈ cs, c < 127) → (∀ c ∈ acc.toList, c < 0x110000) → ∀ c ∈ (cs.foldl (fun out c => out ++ (Builtin.Str.reprChar (reprQuote x) c).toArray) acc).toList, c < 0x110000 := by
  intro cs
  induction cs with
  | nil => intro acc _ h2; exact h2
  | cons c cs ih =>
   intro acc h1 h2
   rw [List.foldl_cons]
   refine ih _ (fun y hy => h1 y (av _ hy)) fun y hy => ?_
   rw [Array.toList_append] at hy
   rcases bq.mp hy with hy | hy
   ·exact h2 y hy
   ·exact LB hq (h1 c (aq ..)) y (by simpa using hy)
 unfold PyData.strOk
 rw [Array.all_eq_true_iff_forall_mem]
 intro c hc
 unfold reprText at hc
 simp only at hc
 rw [Array.mem_push] at hc
 simp only [ai]
 rcases hc with hc | rfl
 ·rw [← Array.foldl_toList] at hc
  rw [ao] at h
  exact key x.cps.toList #[reprQuote x] (fun y hy => UM (h y hy)) (fun y hy => by
   have : y = reprQuote x := by simpa using hy
   rcases hq with q | q <;> (rw [this, q]; decide)) c (Array.mem_toList_iff.mpr hc)
 ·rcases hq with q | q <;> (rw [q]; decide)
mutual
theorem kT : ∀ p : PyData, dJ p = true → PyData.strOk p.shown = true
 | .none, _ => dU _
 | .bool b, _ => by cases b <;> exact dU _
 | .int i, _ => dU _
 | .str x, h => by
  rw [dJ] at h
  simp only [CU, ag] at h
  exact JU h.1
 | .list xs, h => by
  rw [dJ] at h
  show PyData.strOk (textFrom 0 "[" (PyData.shownAll xs) ++ "]") = true
  rw [fJ, mK _ _ _ (dU _) (plainVs_shown xs h), dU]
  rfl
 | .tuple xs, h => by
  rw [dJ] at h
  show PyData.strOk (tupleText (PyData.shownAll xs)) = true
  unfold tupleText
  rw [fJ, fJ, dU, uX _ (dU _) _ (plainVs_shown xs h)]
  split <;> rw [dU] <;> rfl
 | .dict kvs, h => by
  rw [dJ] at h
  show PyData.strOk (dictText (PyData.shownKv kvs)) = true
  unfold dictText
  rw [fJ, fJ, dU, dU, uX _ (dU _) _ (plainKv_shown kvs h)]
  rfl
theorem plainVs_shown : ∀ ps : List PyData, plainVs ps = true → ∀ t ∈ PyData.shownAll ps, PyData.strOk t = true
 | [], _, t, ht => by simp [PyData.shownAll] at ht
 | p :: ps, h, t, ht => by
  simp only [plainVs, ag] at h
  simp only [PyData.shownAll, au] at ht
  rcases ht with rfl | ht
  ·exact kT p h.1
  ·exact plainVs_shown ps h.2 t ht
theorem plainKv_shown : ∀ ps : List (PyData × PyData), plainKv ps = true → ∀ t ∈ PyData.shownKv ps, PyData.strOk t = true
 | [], _, t, ht => by simp [PyData.shownKv] at ht
 | (k, v) :: ps, h, t, ht => by
  simp only [plainKv, ag] at h
  simp only [PyData.shownKv, au] at ht
  rcases ht with rfl | ht
  ·rw [fJ, fJ, kT k h.1.1, kT v h.1.2, dU]
   rfl
  ·exact plainKv_shown ps h.2 t ht
end
mutual
theorem o6 : ∀ p : PyData, dJ p = true → p.leavesShort 60 = true ∧ p.showable = true
 | .none, _ => by simp [PyData.leavesShort, PyData.showable]
 | .bool b, _ => by simp [PyData.leavesShort, PyData.showable]
 | .int i, h => by
  simp only [dJ, ai] at h
  exact ⟨vV h, uQ h⟩
 | .str x, h => by
  simp only [dJ, CU, ag, ao] at h
  refine ⟨?_, by simp [PyData.showable]⟩
  simp only [PyData.leavesShort, ao, ai]
  intro c hc
  have := UM (h.1 c hc)
  omega
 | .list xs, h => by
  rw [dJ] at h
  have := plainVs_all xs h
  simp only [PyData.leavesShort, PyData.showable]
  exact this
 | .tuple xs, h => by
  rw [dJ] at h
  have := plainVs_all xs h
  simp only [PyData.leavesShort, PyData.showable]
  exact this
 | .dict kvs, h => by
  rw [dJ] at h
  have := plainKv_all kvs h
  simp only [PyData.leavesShort, PyData.showable]
  exact this
theorem plainVs_all : ∀ p : List PyData, plainVs p = true → PyData.leavesShortAll 60 p = true ∧ PyData.showableAll p = true
 | [], _ => by simp [PyData.leavesShortAll, PyData.showableAll]
 | p :: ps, h => by
  simp only [plainVs, ag] at h
  obtain ⟨a1, a2⟩ := o6 p h.1
  obtain ⟨b1, b2⟩ := plainVs_all ps h.2
  simp only [PyData.leavesShortAll, PyData.showableAll, a1, a2, b1, b2]
  simp
theorem plainKv_all : ∀ p : List (PyData × PyData), plainKv p = true → PyData.leavesShortKv 60 p = true ∧ PyData.showableKv p = true
 | [], _ => by simp [PyData.leavesShortKv, PyData.showableKv]
 | (k, v) :: ps, h => by
  simp only [plainKv, ag] at h
  obtain ⟨a1, a2⟩ := o6 k h.1.1
  obtain ⟨c1, c2⟩ := o6 v h.1.2
  obtain ⟨b1, b2⟩ := plainKv_all ps h.2
  simp only [PyData.leavesShortKv, PyData.showableKv, a1, a2, b1, b2, c1, c2]
  simp
end
structure Told (n : Nat) (d : D) (p : PyData) : Prop where
 py : ∀ f, d.HK f = some p
 plain : dJ p = true
 bulk : p.bulk = kG d
 deep : p.depth ≤ n
theorem VZ {l : Nat} (hl : l ≤ 100) : ∀ {ks : List D}, ks.all (L3 l) = true → ∃ ps, qR ks = some ps ∧ plainVs ps = true ∧ PyData.bulkAll ps = wtDs ks ∧ ps.length = ks.length ∧ PyData.depthAll ps = 0
 | [], _ => ⟨[], rfl, rfl, rfl, rfl, rfl⟩
 | d :: ds, h => by
  simp only [List.all_cons, ag] at h
  obtain ⟨ps, h1, h2, h3, h4, h5⟩ := VZ hl h.2
  cases d <;> simp only [L3, bz, false_and] at h
  ·rename_i i
   refine ⟨.int i :: ps, by simp only [qR, h1, Option.map_some], ?_, ?_, by simp [h4], ?_⟩
   ·have := h.1
    simp only [ai] at this
    simp only [plainVs, dJ, h2, Bool.and_true, ai]
    omega
   ·rw [PyData.bulkAll, wtDs, h3]
    simp [PyData.bulk, kG]
   ·rw [PyData.depthAll, h5]
    simp [PyData.depth]
  ·rename_i x
   refine ⟨.str x :: ps, by simp only [qR, h1, Option.map_some], ?_, ?_, by simp [h4], ?_⟩
   ·simp only [plainVs, dJ, h2, Bool.and_true]
    exact u6 h.1 (by omega)
   ·rw [PyData.bulkAll, wtDs, h3]
    simp [PyData.bulk, kG]
   ·rw [PyData.depthAll, h5]
    simp [PyData.depth]
theorem GN {n : Nat} : ∀ {xs : List D}, (∀ x ∈ xs, ∃ p, Told n x p) → ∃ ps, (∀ f, D.pysV f xs = some ps) ∧ plainVs ps = true ∧ PyData.bulkAll ps = wtDs xs ∧ ps.length = xs.length ∧ PyData.depthAll ps ≤ n
 | [], _ => ⟨[], fun _ => rfl, rfl, rfl, rfl, Nat.zero_le _⟩
 | x :: xs, h => by
  obtain ⟨p, t⟩ := h x (aq ..)
  obtain ⟨ps, h1, h2, h3, h4, h5⟩ := GN fun y hy => h y (av _ hy)
  refine ⟨p :: ps, fun f => ?_, ?_, ?_, by simp [h4], ?_⟩
  ·unfold D.pysV
   rw [t.py f, h1 f]
  ·simp only [plainVs, t.plain, h2, Bool.and_self]
  ·rw [PyData.bulkAll, wtDs, h3, t.bulk]
  ·rw [PyData.depthAll]
   have := t.deep
   omega
theorem VH : ∀ {ks vs : List PyData}, ks.length = vs.length → plainVs ks = true → plainVs vs = true → plainKv (ks.zip vs) = true ∧ PyData.bulkKv (ks.zip vs) = PyData.bulkAll ks + PyData.bulkAll vs ∧ PyData.depthKv (ks.zip vs) = max (PyData.depthAll ks) (PyData.depthAll vs)
 | [], [], _, _, _ => ⟨rfl, rfl, rfl⟩
 | [], _ :: _, h, _, _ => by simp at h
 | _ :: _, [], h, _, _ => by simp at h
 | k :: ks, v :: vs, h, h1, h2 => by
  simp only [plainVs, ag] at h1 h2
  obtain ⟨a, b, c⟩ := VH (ks := ks) (vs := vs) (by simpa using h) h1.2 h2.2
  simp only [List.zip_cons_cons, plainKv, PyData.bulkKv, PyData.depthKv, PyData.bulkAll, PyData.depthAll, h1.1, h2.1, a, b, c, Bool.and_self, true_and]
  omega
theorem QH : ∀ {n l : Nat} {d : D}, C0 n l d = true → l ≤ 100 → ∃ p, Told n d p
 | 0, _, _, h, _ => by simp [C0] at h
 | n + 1, l, d, h, hl => by
  cases d <;> simp only [C0, bz] at h
  ·exact ⟨.none, fun _ => rfl, rfl, rfl, by simp [PyData.depth]⟩
  ·exact ⟨.bool _, fun _ => rfl, rfl, rfl, by simp [PyData.depth]⟩
  ·refine ⟨.int _, fun _ => rfl, ?_, rfl, by simp [PyData.depth]⟩
   simp only [ai] at h
   simp only [dJ, ai]
   omega
  ·refine ⟨.str _, fun _ => rfl, ?_, rfl, by simp [PyData.depth]⟩
   rw [dJ]
   exact u6 h (by omega)
  ·simp only [ag, ao, ai] at h
   obtain ⟨ps, h1, h2, h3, h4, h5⟩ := GN fun x hx => QH (h.1 x hx) hl
   exact ⟨.tuple ps, fun f => by unfold D.HK; rw [h1 f]; rfl, by rw [dJ]; exact h2, by rw [PyData.bulk, h3, kG], by rw [PyData.depth]; omega⟩
  ·simp only [ag, ao, ai] at h
   obtain ⟨ps, h1, h2, h3, h4, h5⟩ := GN fun x hx => QH (h.1 x hx) hl
   exact ⟨.list ps, fun f => by unfold D.HK; rw [h1 f]; rfl, by rw [dJ]; exact h2, by rw [PyData.bulk, h3, kG], by rw [PyData.depth]; omega⟩
  ·rename_i ks vs
   simp only [ag, ai] at h
   obtain ⟨⟨g1, g2⟩, g3, g4⟩ := h
   obtain ⟨kp, a1, a2, a3, a4, a5⟩ := VZ hl g1
   rw [ao] at g2
   obtain ⟨ps, h1, h2, h3, h4, h5⟩ := GN fun x hx => QH (g2 x hx) hl
   have el : kp.length = ps.length := by omega
   obtain ⟨z1, z2, z3⟩ := VH el a2 h2
   refine ⟨.dict (kp.zip ps), fun f => ?_, by rw [dJ]; exact z1, by rw [PyData.bulk, z2, a3, h3, kG], by rw [PyData.depth, z3]; omega⟩
   unfold D.HK
   rw [a1, h1 f]
   simp only [el, ae]
section
variable {w : W} {P : D → W → Prop} {d : D} {p : PyData} {n l : Nat}
theorem YT (t : Told n d p) (hn : n ≤ 40) (hb : kG d ≤ 200000) : T (sF [d] w) P = P (.str p.shown) w := by
 obtain ⟨a1, a2⟩ := o6 p t.plain
 have b := PyData.shown_le_bulk 60 (by decide) p a1
 have dd := t.deep
 have z := t.bulk
 have e2 : GA d w = some p.shown := by
  unfold GA
  rw [t.py]
  simp only []
  rw [if_pos]
  refine ⟨a2, by omega, ?_⟩
  have := sizeLine_eq
  have : (60 + 2) * p.bulk ≤ 62 * 200000 := Nat.mul_le_mul_left _ (by omega)
  omega
 have : sF [d] w = .ok (.str p.shown) w := by simp only [sF, e2]
 rw [this, b0]
theorem UT (h : C0 n l d = true) (hl : l ≤ 100) (hn : n ≤ 40) (hb : kG d ≤ 200000) : ∃ z, PyData.strOk z = true ∧ ∀ (w : W) (P : D → W → Prop), T (sF [d] w) P = P (.str z) w := by
 obtain ⟨p, t⟩ := QH h hl
 exact ⟨p.shown, kT p t.plain, fun w P => YT t hn hb⟩
end
mutual
theorem aDh {f : Nat → Option PyData} (hf : ∀ i, f i = none) : ∀ (d : D) {q : PyData}, d.eS f = some q → q.bulk = kG d
 | .non, _, h => by simp only [D.eS, af] at h; subst h; rfl
 | .bl _, _, h => by simp only [D.eS, af] at h; subst h; rfl
 | .int _, _, h => by simp only [D.eS, af] at h; subst h; rfl
 | .str _, _, h => by simp only [D.eS, af] at h; subst h; rfl
 | .ty _, _, h => by simp [D.eS] at h
 | .con _, _, h => by simp [D.eS] at h
 | .BV _ _, _, h => by simp [D.eS] at h
 | .ref i, _, h => by
  simp only [D.eS, hf] at h
  cases h
 | .tup xs, _, h => by
  simp only [D.eS, aj] at h
  obtain ⟨ps, h1, rfl⟩ := h
  rw [PyData.bulk, kG, wts_py hf xs h1]
 | .pW xs, _, h => by
  simp only [D.eS, aj] at h
  obtain ⟨ps, h1, rfl⟩ := h
  rw [PyData.bulk, kG, wts_py hf xs h1]
 | .lst xs, _, h => by
  simp only [D.eS, aj] at h
  obtain ⟨ps, h1, rfl⟩ := h
  rw [PyData.bulk, kG, wts_py hf xs h1]
 | .mH xs, _, h => by
  simp only [D.eS, aj] at h
  obtain ⟨ps, h1, rfl⟩ := h
  rw [PyData.bulk, kG, wts_py hf xs h1]
theorem wts_py {f : Nat → Option PyData} (hf : ∀ i, f i = none) : ∀ (ds : List D) {qs : List PyData}, D.pysR f ds = some qs → PyData.bulkAll qs = wtDs ds
 | [], _, h => by simp only [D.pysR, af] at h; subst h; rfl
 | d :: ds, _, h => by
  simp only [D.pysR] at h
  split at h
  ·rename_i p ps e1 e2
   cases h
   rw [PyData.bulkAll, wtDs, aDh hf d e1, wts_py hf ds e2]
  ·cases h
end
theorem V0 {n l : Nat} {xs : List D} (h : ∀ x ∈ xs, C0 n l x = true) (hl : xs.length ≤ 40 + l) : C0 (n + 1) l (.tup xs) = true := by
 simp only [C0, ag, ao, ai]
 exact ⟨h, hl⟩
theorem aBL {xs : List D} {i : Int} (h0 : 0 ≤ i) (h1 : i < (xs.length : Nat)) : ∃ x, atI xs i = some x ∧ x ∈ xs := by
 obtain ⟨j, rfl⟩ : ∃ j : Nat, i = (j : Int) := ⟨i.toNat, by omega⟩
 have hj : j < xs.length := by omega
 exact ⟨xs[j], aAC (bf hj), List.getElem_mem hj⟩
section
variable {w : W} {P : D → W → Prop} {n : Nat} {d : D}
theorem U9 {i : Int} (h : i.natAbs < 10 ^ 40) : T (mI [.int i] w) P = P (.str (toString i : String)) w := by
 have l : i.natAbs.log2 < 1920 := by
  have := uQ h
  simpa only [PyData.showable, ai] using this
 have : mI [.int i] w = .ok (.str (toString i : String)) w := by
  simp only [mI, if_pos l]
 rw [this, b0]
end
def p8 (i : Int) : Str := (toString i : String)
theorem oJ (y : Str) (ps : List Str) : TL.tl (Txt.join y ps) = TL.joinL (TL.tl y) (ps.map TL.tl) := by rw [TL.join_eq, TL.tl_join]
theorem EO {S : List Nat} {c : Nat} : ∀ {ps : List (List Nat)}, c ∈ TL.joinL S ps → c ∈ S ∨ ∃ p ∈ ps, c ∈ p
 | [], h => nomatch h
 | [p], h => .inr ⟨p, bh.mpr rfl, h⟩
 | p :: q :: r, h => by
  have h : c ∈ p ++ (S ++ TL.joinL S (q :: r)) := h
  rcases bq.mp h with h | h
  ·exact .inr ⟨p, aq .., h⟩
  ·rcases bq.mp h with h | h
   ·exact .inl h
   ·rcases EO h with h | ⟨z, hz, hc⟩
    ·exact .inl h
    ·exact .inr ⟨z, av _ hz, hc⟩
theorem lV {y : Str} {ps : List Str} {c : Nat} (h : c ∈ (Txt.join y ps).cps.toList) : c ∈ y.cps.toList ∨ ∃ p ∈ ps, c ∈ p.cps.toList := by
 have h : c ∈ TL.tl (Txt.join y ps) := h
 rw [oJ] at h
 rcases EO h with h | ⟨z, hz, hc⟩
 ·exact .inl h
 ·obtain ⟨p, hp, rfl⟩ := bt.mp hz
  exact .inr ⟨p, hp, hc⟩
theorem ZZ : TL.tl (" " : Str) = 32 :: [] := by decide +kernel
theorem aCa : TL.tl ("\n" : Str) = 10 :: [] := by decide +kernel
section
variable {ws : List Str} {ls : List (List Str)}
theorem UH {x : Str} (h : ∀ c ∈ x.cps.toList, c < 127) : PyData.strOk x = true := by
 unfold PyData.strOk
 rw [Array.all_eq_true_iff_forall_mem]
 intro c hc
 have := h c (by simpa using hc)
 simp only [ai]
 omega
end
section
variable {w : W} {P : D → W → Prop} {PS : Sg → W → Prop} {n : Nat} {d : D} {σ : Sg}
theorem EA : ∀ ys : List Str, y3 (ys.map D.str) = some ys
 | [] => rfl
 | y :: ys => by rw [List.map_cons, y3, EA ys]; rfl
theorem aAV {a : Str} : T (mI [.str a] w) P = P (.str a) w := by unfold T; rfl
theorem aAQ {c : Nat} {z : Str} : T (WG (.str ⟨#[c]⟩) (.str z) w) P = P (.bl (decide (c ∈ z.cps.toList))) w := by unfold T; rfl
end
end Lw
namespace Sx
open PySem PySem.Spec PyProof.Rows L2 Pc Lb Lw
structure a6 where
 dI : Addr
 zz : Unit := ()
def bQ : List (Str × Option D) := [(("fall" : Str), some (.int 1)), (("stop" : Str), some (.int 1)), (("rise" : Str), some (.int 1)), (("down" : Str), some (.int 1)), (("up" : Str), some (.int 1)), (("rank" : Str), some (.int 3)), (("heal" : Str), some (.int 0)), (("ask" : Str), some (.int 2))]
def dM : List Str := [("_law_act_here" : Str), ("_law_rest" : Str), ("_law_some" : Str), ("_law_one" : Str)]
def eV (k : a6) : MS :=
 (aJ (cO (aU (aD dD (aD aZ (aB 0) (eC (.int 0))) (eC (.str ("tear" : Str))))) (aO (aS (bK (qF m9 (aB 0) (cG (eC (.int 1))) c6)) [2] (aN 2) aT (wW (aU (aD mS (aB 2) (a8 aC))) (bA "str" joinM (eC (.str ("," : Str))) (aA (aS (bK (aB 2)) [3] (aN 3) aT (aL mI (aA (aB 3) aC))) aC)) (eC (.str ("-" : Str))))) (aN 1)) (aO (aS (bK (qF m9 (aB 0) (cG (eC (.int 1))) c6)) [3] (aN 3) aT (aL mI (aA (aB 3) aC))) (aN 1)))
 (aQ (bA "str" joinM (eC (.str (" " : Str))) (aA (aD bH (i3 (aA (aD aZ (aB 0) (eC (.int 0))) aC)) (aB 1)) aC))))
def cV (k : a6) : MF := a7 (eV k) dM
theorem wM (x0 : D) : begin dM [x0] = [some x0, none, none, none] := rfl
def dB : List Str := [("_law_turn_here" : Str), ("_law_text_told" : Str), ("_law_act_here" : Str), ("_law_lot_here" : Str), ("_law_one" : Str)]
def eL (k : a6) : MS :=
 (aJ (aO (wW (aU (aD mS (aD aZ (aB 0) (eC (.int 0))) (a8 aC))) (bA "str" joinM (eC (.str (" ; " : Str))) (aA (aS (bK (aD aZ (aB 0) (eC (.int 0)))) [2] (aN 2) aT (aI (cV k) 1 aK (aA (aB 2) aC))) aC)) (eC (.str ("-" : Str)))) (aN 1))
 (aJ (cO (aU (aD dD (aD aZ (aB 0) (eC (.int 1))) (a8 aC))) (aQ (aB 1)) aV)
 (aQ (aD bH (aD bH (aB 1) (eC (.str (" ! " : Str)))) (bA "str" joinM (eC (.str (" , " : Str))) (aA (aS (bK (aD aZ (aB 0) (eC (.int 1)))) [3] (aN 3) aT (bA "str" joinM (eC (.str (" " : Str))) (aA (aS (bK (aB 3)) [4] (aN 4) aT (aL mI (aA (aB 4) aC))) aC))) aC))))))
def dC (k : a6) : MF := a7 (eL k) dB
theorem vT (x0 : D) : begin dB [x0] = [some x0, none, none, none, none] := rfl
def cR : List Str := [("_law_told" : Str), ("_law_turn_here" : Str)]
def dP (k : a6) : MS :=
 (aQ (bA "str" joinM (eC (.str ("\n" : Str))) (aA (aS (bK (aB 0)) [1] (aN 1) aT (aI (dC k) 1 aK (aA (aB 1) aC))) aC)))
def bX (k : a6) : MF := a7 (dP k) cR
theorem tA (x0 : D) : begin cR [x0] = [some x0, none] := rfl
def eO : List Str := [("thing" : Str)]
def gL (k : a6) : MS :=
 (aQ (fK (aL (fZ gI) (aA (aB 0) (aA (eC (.ty "int")) aC))) (zN notM (aL (fZ gI) (aA (aB 0) (aA (eC (.ty "bool")) aC))))))
def eP (k : a6) : MF := a7 (gL k) eO
theorem x6 (x0 : D) : begin eO [x0] = [some x0] := rfl
def dQ : List Str := [("thing" : Str), ("least" : Str), ("most" : Str)]
def fD (k : a6) : MS :=
 (aQ (fK (aI (eP k) 1 aK (aA (aB 0) aC)) (SU M9 M9 (aB 1) (aB 0) (aB 2))))
def bM (k : a6) : MF := a7 (fD k) dQ
theorem u5 (x0 x1 x2 : D) : begin dQ [x0, x1, x2] = [some x0, some x1, some x2] := rfl
def eW : List Str := [("thing" : Str), ("one" : Str)]
def gB (k : a6) : MS :=
 (aQ (aL allM (aA (aS (bK (aB 0)) [1] (aN 1) aT (aI (bM k) 3 aK (aA (aB 1) (aA (eC (.int 0)) (aA (eC (.int 999)) aC))))) aC)))
def bY (k : a6) : MF := a7 (gB k) eW
theorem CW (x0 : D) : begin eW [x0] = [some x0, none] := rfl
def fT : List Str := [("thing" : Str)]
def i5 (k : a6) : MS :=
 (aQ (fK (aL (fZ gI) (aA (aB 0) (aA (eC (.ty "tuple")) aC))) (fK (aD dD (aL cU (aA (aB 0) aC)) (eC (.int 4))) (aI (bY k) 1 aK (aA (aB 0) aC)))))
def g9 (k : a6) : MF := a7 (i5 k) fT
theorem AY (x0 : D) : begin fT [x0] = [some x0] := rfl
def gZ : List Str := [("thing" : Str), ("least" : Str), ("one" : Str), ("other" : Str)]
def kD (k : a6) : MS :=
 (aJ (cO (fX (cH (eA (aL (fZ gI) (aA (aB 0) (aA (eC (.ty "tuple")) aC))))) (fX (aU (aD M4 (aL cU (aA (aB 0) aC)) (aB 1))) (cH (eA (aI (bY k) 1 aK (aA (aB 0) aC)))))) (aQ (eC (.bl false))) aV)
 (aQ (aL allM (aA (aS (cK Z1 (aA (qF m9 (aB 0) c6 (cG (zN y7 (eC (.int 1))))) (aA (qF m9 (aB 0) (cG (eC (.int 1))) c6) aC))) [2, 3] (bJ 2 (aH (aN 2) (aH (aN 3) bD))) aT (aD M4 (aB 2) (aB 3))) aC))))
def c9 (k : a6) : MF := a7 (kD k) gZ
theorem G9 (x0 x1 : D) : begin gZ [x0, x1] = [some x0, some x1, none, none] := rfl
def lI : List Str := [("thing" : Str), ("word" : Str), ("rest" : Str)]
def oA (k : a6) : MS :=
 (aJ (cO (fX (cH (eA (aL (fZ gI) (aA (aB 0) (aA (eC (.ty "tuple")) aC))))) (fX (aU (aD dD (aB 0) (a8 aC))) (cH (eA (aL (fZ gI) (aA (aD aZ (aB 0) (eC (.int 0))) (aA (eC (.ty "str")) aC))))))) (aQ (eC (.bl false))) aV)
 (aJ (aO (aB 0) (pQ 1 (aH (aN 1) (aH (aN 2) bD))))
 (aJ (cO (aU (aD dD (aB 1) (eC (.str ("tear" : Str))))) (aQ (fK (aD dD (aL cU (aA (aB 2) aC)) (eC (.int 2))) (fK (aI (c9 k) 2 aK (aA (aD aZ (aB 2) (eC (.int 0))) (aA (eC (.int 1)) aC))) (aI (c9 k) 2 aK (aA (aD aZ (aB 2) (eC (.int 1))) (aA (eC (.int 0)) aC)))))) aV)
 (aQ (fK (aD (ML k.dI bQ) (aB 1) (eC (.con k.dI))) (fK (aD dD (aL cU (aA (aB 2) aC)) (aD (OV k.dI bQ) (eC (.con k.dI)) (aB 1))) (aI (bY k) 1 aK (aA (aB 2) aC))))))))
def lE (k : a6) : MF := a7 (oA k) lI
theorem M5 (x0 : D) : begin lI [x0] = [some x0, none, none] := rfl
def lF : List Str := [("thing" : Str), ("deeds" : Str), ("fates" : Str), ("part" : Str), ("deed" : Str), ("fate" : Str)]
def n5 (k : a6) : MS :=
 (aJ (cO (fX (cH (eA (aL (fZ gI) (aA (aB 0) (aA (eC (.ty "tuple")) aC))))) (fX (aU (aD mS (aL cU (aA (aB 0) aC)) (eC (.int 2)))) (cH (eA (aL allM (aA (aS (bK (aB 0)) [3] (aN 3) aT (aL (fZ gI) (aA (aB 3) (aA (eC (.ty "tuple")) aC)))) aC)))))) (aQ (eC (.bl false))) aV)
 (aJ (aO (aB 0) (bJ 2 (aH (aN 1) (aH (aN 2) bD))))
 (aQ (fK (aL allM (aA (aS (bK (aB 1)) [4] (aN 4) aT (aI (lE k) 1 aK (aA (aB 4) aC))) aC)) (aL allM (aA (aS (bK (aB 2)) [5] (aN 5) aT (aI (g9 k) 1 aK (aA (aB 5) aC))) aC))))))
def gN (k : a6) : MF := a7 (n5 k) lF
theorem NY (x0 : D) : begin lF [x0] = [some x0, none, none, none, none, none] := rfl
def iZ : List Str := [("thing" : Str), ("turn" : Str)]
def mE (k : a6) : MS :=
 (aQ (fK (aL (fZ gI) (aA (aB 0) (aA (eC (.ty "tuple")) aC))) (aL allM (aA (aS (bK (aB 0)) [1] (aN 1) aT (aI (gN k) 1 aK (aA (aB 1) aC))) aC))))
def fB (k : a6) : MF := a7 (mE k) iZ
theorem LQ (x0 : D) : begin iZ [x0] = [some x0, none] := rfl
def hV : List Str := [("word" : Str), ("sign" : Str)]
def kA (k : a6) : MS :=
 (aJ (cO (fX (cH (aU (SU M9 M9 (eC (.int 1)) (aL cU (aA (aB 0) aC)) (eC (.int 3))))) (cH (eA (aL allM (aA (aS (WO (aB 0)) [1] (aN 1) aT (aD WG (aB 1) (eC (.str ("0123456789" : Str))))) aC))))) (aQ (eC .non)) aV)
 (aQ (wW (aU (aD dD (aL mI (aA (aL vS (aA (aB 0) aC)) aC)) (aB 0))) (aL vS (aA (aB 0) aC)) (eC .non))))
def gQ (k : a6) : MF := a7 (kA k) hV
theorem IJ (x0 : D) : begin hV [x0] = [some x0, none] := rfl
def fO : List Str := [("words" : Str), ("found" : Str), ("word" : Str)]
def iT (k : a6) : MS :=
 (aJ (aO (aL bW (aA (aS (bK (aB 0)) [2] (aN 2) aT (aI (gQ k) 1 aK (aA (aB 2) aC))) aC)) (aN 1))
 (aQ (wW (aU (aD JR (eC .non) (aB 1))) (eC .non) (aB 1))))
def bN (k : a6) : MF := a7 (iT k) fO
theorem DS (x0 : D) : begin fO [x0] = [some x0, none, none] := rfl
def gW : List Str := [("word" : Str)]
def kF (k : a6) : MS :=
 (aQ (wW (aU (aD dD (aB 0) (eC (.str ("-" : Str))))) (a8 aC) (aI (bN k) 1 aK (aA (bA "str" splitM (aB 0) (aA (eC (.str ("," : Str))) aC)) aC))))
def hE (k : a6) : MF := a7 (kF k) gW
theorem IG (x0 : D) : begin gW [x0] = [some x0] := rfl
def lH : List Str := [("text" : Str), ("word" : Str), ("words" : Str), ("one" : Str)]
def oD (k : a6) : MS :=
 (aJ (aO (bA "str" splitM (aB 0) (aA (eC (.str (" " : Str))) aC)) (wD 1 (aH (aN 1) (aH (aN 2) bD))))
 (aJ (cO (aU (aD dD (aB 1) (eC (.str ("tear" : Str))))) (aQ (aD bH (a8 (aA (aB 1) aC)) (aL bW (aA (aS (bK (aB 2)) [3] (aN 3) aT (aI (hE k) 1 aK (aA (aB 3) aC))) aC)))) aV)
 (aQ (wW (aU (aD tP (aI (bN k) 1 aK (aA (aB 2) aC)) (eC .non))) (aD bH (a8 (aA (aB 1) aC)) (eOr (aI (bN k) 1 aK (aA (aB 2) aC)) (a8 aC))) (a8 aC)))))
def jB (k : a6) : MF := a7 (oD k) lH
theorem N3 (x0 : D) : begin lH [x0] = [some x0, none, none, none] := rfl
def lB : List Str := [("line" : Str), ("ahead" : Str), ("mark" : Str), ("behind" : Str), ("deeds" : Str), ("fates" : Str), ("one" : Str)]
def nX (k : a6) : MS :=
 (aJ (aO (bA "str" BF (aB 0) (aA (eC (.str (" ! " : Str))) aC)) (bJ 3 (aH (aN 1) (aH (aN 2) (aH (aN 3) bD)))))
 (aJ (aO (wW (aU (aD dD (aB 1) (eC (.str ("-" : Str))))) (a8 aC) (aL bW (aA (aS (bK (bA "str" splitM (aB 1) (aA (eC (.str (" ; " : Str))) aC))) [6] (aN 6) aT (aI (jB k) 1 aK (aA (aB 6) aC))) aC))) (aN 4))
 (aJ (aO (a8 aC) (aN 5))
 (aJ (cO (aU (aD mS (aB 2) (eC (.str ("" : Str))))) (aO (aL bW (aA (aS (bK (bA "str" splitM (aB 3) (aA (eC (.str (" , " : Str))) aC))) [6] (aN 6) aT (aI (bN k) 1 aK (aA (bA "str" splitM (aB 6) (aA (eC (.str (" " : Str))) aC)) aC))) aC)) (aN 5)) aV)
 (aQ (wW (eA (aI (gN k) 1 aK (aA (a8 (aA (aB 4) (aA (aB 5) aC))) aC))) (a8 (aA (aB 4) (aA (aB 5) aC))) (eC .non)))))))
def i6 (k : a6) : MF := a7 (nX k) lB
theorem NQ (x0 : D) : begin lB [x0] = [some x0, none, none, none, none, none, none] := rfl
def fL : List Str := [("text" : Str), ("found" : Str), ("at" : Str), ("line" : Str), ("turn" : Str)]
def hZ (k : a6) : MS :=
 (aJ (cO (cH (eA (aL (fZ gI) (aA (aB 0) (aA (eC (.ty "str")) aC))))) L4 aV)
 (aJ (aO (eNew aC) (aN 1))
 (aJ (fY (cK lN (aA (wW (aU (aD mS (aB 0) (eC (.str ("" : Str))))) (bA "str" splitM (aB 0) (aA (eC (.str ("\n" : Str))) aC)) (i3 aC)) aC)) (bJ 2 (aH (aN 2) (aH (aN 3) bD))) (aJ (aO (aI (i6 k) 1 aK (aA (aB 3) aC)) (aN 4))
 (aJ (cO (aU (aD isM (aB 4) (eC .non))) L4 aV)
 (cF (bA "list" b8 (aB 1) (aA (aB 4) aC))))))
 (aQ (aL bW (aA (aB 1) aC))))))
def dX (k : a6) : MF := a7 (hZ k) fL
theorem C3 (x0 : D) : begin fL [x0] = [some x0, none, none, none, none] := rfl
abbrev eD (k : a6) : List D → List D → List D := pick [(true, 0)]
def nS : List Str := [("some" : Str), ("between" : Str), ("one" : Str)]
def nT (k : a6) : MS :=
 (aJ (cO (aU (aD dD (aL cU (aA (aB 0) aC)) (eC (.int 0)))) (aQ (eC (.str ("-" : Str)))) aV)
 (aQ (bA "str" joinM (aB 1) (aA (aS (bK (aB 0)) [2] (aN 2) aT (aL mI (aA (aB 2) aC))) aC))))
def eU (k : a6) : MF := a7 (nT k) nS
theorem EB (x0 x1 : D) : begin nS [x0, x1] = [some x0, some x1, none] := rfl
def hU : List Str := [("deed" : Str), ("word" : Str), ("rest" : Str), ("part" : Str), ("one" : Str)]
def jS (k : a6) : MS :=
 (aJ (aO (aB 0) (pQ 1 (aH (aN 1) (aH (aN 2) bD))))
 (aJ (cO (aU (aD dD (aB 1) (eC (.str ("tear" : Str))))) (aQ (bA "str" joinM (eC (.str (" " : Str))) (aA (aD bH (i3 (aA (aB 1) aC)) (aS (bK (aB 2)) [3] (aN 3) aT (aI (eU k) 2 aK (aA (aB 3) (aA (eC (.str ("," : Str))) aC))))) aC))) aV)
 (aQ (bA "str" joinM (eC (.str (" " : Str))) (aA (aD bH (i3 (aA (aB 1) aC)) (aS (bK (aB 2)) [4] (aN 4) aT (aL mI (aA (aB 4) aC)))) aC)))))
def gP (k : a6) : MF := a7 (jS k) hU
theorem FF (x0 : D) : begin hU [x0] = [some x0, none, none, none, none] := rfl
def gO : List Str := [("turn" : Str), ("deeds" : Str), ("fates" : Str), ("text" : Str), ("deed" : Str), ("fate" : Str), ("one" : Str)]
def kB (k : a6) : MS :=
 (aJ (aO (aB 0) (bJ 2 (aH (aN 1) (aH (aN 2) bD))))
 (aJ (aO (aI (eU k) 2 aK (aA (aS (bK (aB 1)) [4] (aN 4) aT (aI (gP k) 1 aK (aA (aB 4) aC))) (aA (eC (.str (" ; " : Str))) aC))) (aN 3))
 (aJ (cO (aU (aD dD (aB 2) (a8 aC))) (aQ (aB 3)) aV)
 (aQ (aD bH (aD bH (aB 3) (eC (.str (" ! " : Str)))) (aI (eU k) 2 aK (aA (aS (bK (aB 2)) [5] (aN 5) aT (bA "str" joinM (eC (.str (" " : Str))) (aA (aS (bK (aB 5)) [6] (aN 6) aT (aL mI (aA (aB 6) aC))) aC))) (aA (eC (.str (" , " : Str))) aC))))))))
def g6 (k : a6) : MF := a7 (kB k) gO
theorem FW (x0 : D) : begin gO [x0] = [some x0, none, none, none, none, none, none] := rfl
def fP : List Str := [("story" : Str), ("turn" : Str)]
def hY (k : a6) : MS :=
 (aQ (bA "str" joinM (eC (.str ("\n" : Str))) (aA (aS (bK (aB 0)) [1] (aN 1) aT (aI (g6 k) 1 aK (aA (aB 1) aC))) aC)))
def bO (k : a6) : MF := a7 (hY k) fP
theorem DU (x0 : D) : begin fP [x0] = [some x0, none] := rfl
abbrev dS (k : a6) : List D → List D → List D := pick [(true, 0)]
def eZ : List Str := [("_law_deck_here" : Str)]
def f6 (k : a6) : MS :=
 (aQ (aD aZ (i3 (aA (eC (.int 0)) (aA (eC (.int 9)) (aA (eC (.int 10)) (aA (eC (.int 99)) (aA (eC (.int 100)) (aA (eC (.int 999)) (aA (aI kL 2 aK (aA (aB 0) (aA (eC (.int 10)) aC))) (aA (aI kL 2 aK (aA (aB 0) (aA (eC (.int 1000)) aC))) aC))))))))) (aI kL 2 aK (aA (aB 0) (aA (eC (.int 8)) aC)))))
def b7 (k : a6) : MF := a7 (f6 k) eZ
theorem z9 (x0 : D) : begin eZ [x0] = [some x0] := rfl
def jE : List Str := [("_law_deck_here" : Str), ("_law_fewest" : Str), ("_law_many" : Str), ("_law_k" : Str)]
def lW (k : a6) : MS :=
 (aJ (aO (aD bH (aB 1) (aI kL 2 aK (aA (aB 0) (aA (eC (.int 4)) aC)))) (aN 2))
 (aQ (aL bW (aA (zN AA (aS (cK gG (aA (aB 2) aC)) [3] (aN 3) aT (aI (b7 k) 1 aK (aA (aB 0) aC)))) aC))))
def fH (k : a6) : MF := a7 (lW k) jE
theorem J5 (x0 x1 : D) : begin jE [x0, x1] = [some x0, some x1, none, none] := rfl
def i8 : List Str := [("_law_deck_here" : Str), ("_law_word" : Str), ("_law_many" : Str), ("_law_k" : Str)]
def l9 (k : a6) : MS :=
 (aJ (aO (aI FI 2 aK (aA (aB 0) (aA (i3 (aA (eC (.str ("fall" : Str))) (aA (eC (.str ("stop" : Str))) (aA (eC (.str ("rise" : Str))) (aA (eC (.str ("down" : Str))) (aA (eC (.str ("up" : Str))) (aA (eC (.str ("rank" : Str))) (aA (eC (.str ("tear" : Str))) (aA (eC (.str ("tear" : Str))) (aA (eC (.str ("heal" : Str))) (aA (eC (.str ("ask" : Str))) aC))))))))))) aC))) (aN 1))
 (aJ (aO (bA "dict" getM (NU (mA (eC (.str ("rank" : Str))) (eC (.int 3)) (mA (eC (.str ("heal" : Str))) (eC (.int 0)) (mA (eC (.str ("ask" : Str))) (eC (.int 2)) R7)))) (aA (aB 1) (aA (eC (.int 1)) aC))) (aN 2))
 (aJ (cO (aU (aD dD (aB 1) (eC (.str ("tear" : Str))))) (aQ (a8 (aA (aB 1) (aA (aI (fH k) 2 aK (aA (aB 0) (aA (eC (.int 1)) aC))) (aA (aI (fH k) 2 aK (aA (aB 0) (aA (eC (.int 0)) aC))) aC))))) aV)
 (aQ (aD bH (a8 (aA (aB 1) aC)) (aL bW (aA (aS (cK gG (aA (aB 2) aC)) [3] (aN 3) aT (aI (b7 k) 1 aK (aA (aB 0) aC))) aC)))))))
def jD (k : a6) : MF := a7 (l9 k) i8
theorem LL (x0 : D) : begin i8 [x0] = [some x0, none, none, none] := rfl
def gU : List Str := [("_law_deck_here" : Str), ("_law_acts" : Str), ("_law_lots" : Str), ("_law_k" : Str), ("_law_j" : Str)]
def jT (k : a6) : MS :=
 (aJ (aO (aL bW (aA (aS (cK gG (aA (aI kL 2 aK (aA (aB 0) (aA (eC (.int 5)) aC))) aC)) [3] (aN 3) aT (aI (jD k) 1 aK (aA (aB 0) aC))) aC)) (aN 1))
 (aJ (aO (aS (cK gG (aA (aD aZ (i3 (aA (eC (.int 0)) (aA (aI kL 2 aK (aA (aB 0) (aA (eC (.int 5)) aC))) aC))) (aI kL 2 aK (aA (aB 0) (aA (eC (.int 2)) aC)))) aC)) [4] (aN 4) aT (aL bW (aA (aS (cK gG (aA (eC (.int 4)) aC)) [3] (aN 3) aT (aI (b7 k) 1 aK (aA (aB 0) aC))) aC))) (aN 2))
 (aQ (a8 (aA (aB 1) (aA (aL bW (aA (aB 2) aC)) aC))))))
def gR (k : a6) : MF := a7 (jT k) gU
theorem FE (x0 : D) : begin gU [x0] = [some x0, none, none, none, none] := rfl
def fQ : List Str := [("_law_deck_here" : Str), ("_law_many" : Str), ("_law_k" : Str)]
def h8 (k : a6) : MS :=
 (aQ (aL bW (aA (aS (cK gG (aA (aB 1) aC)) [2] (aN 2) aT (aI (gR k) 1 aK (aA (aB 0) aC))) aC)))
def eQ (k : a6) : MF := a7 (h8 k) fQ
theorem D2 (x0 x1 : D) : begin fQ [x0, x1] = [some x0, some x1, none] := rfl
abbrev iW : D → Bool := pM 0 999
def intsOf : List D → List Int
 | [] => []
 | .int i :: r => i :: intsOf r
 | _ :: r => intsOf r
def iU (c : Nat) : D → Bool
 | .tup xs => decide (c ≤ xs.length) && (xs.all iW && decide (intsOf xs = hH (intsOf xs)))
 | _ => false
def sG (m : Nat) : Option (Option D) → Bool
 | some (some (.int i)) => i == (m : Int)
 | _ => false
def gD : D → Bool
 | .tup (.str z :: rest) => if z = ("tear" : Str) then rest.length == 2 && (iU 1 (rest.getD 0 .non) && iU 0 (rest.getD 1 .non)) else sG rest.length (bQ.lookup z) && rest.all iW
 | _ => false
def iA : D → Bool
 | .tup xs => xs.length == 4 && xs.all iW
 | _ => false
def cS : D → Bool
 | .tup [.tup a, .tup f] => a.all gD && f.all iA
 | _ => false
def gM : D → Bool
 | .tup xs => xs.all cS
 | _ => false
theorem wU : ∀ {xs : List D}, xs.all iW = true → xs = (intsOf xs).map D.int
 | [], _ => rfl
 | x :: xs, h => by
  simp only [List.all_cons, ag] at h
  cases x <;> first | (simp [pM] at h; done) | skip
  rw [intsOf, List.map_cons, ← wU h.2]
theorem iL {r : Res D} {v : D} {w : W} (h : T r fun a w' => a = v ∧ w' = w) : r = .ok v w := by
 obtain ⟨a, w', e, rfl, rfl⟩ := h.ex
 exact e
section
variable (k : Sx.a6)
abbrev lz : Lb.a6 := ⟨0, 0⟩
theorem US : bM k = Lb.bM lz := rfl
variable {n l : Nat} {w w' w0 : W} {P : D → W → Prop} {PF : Fl → W → Prop} {d : D}
theorem OG {xs : List D} (hd : d = .tup xs ∨ d = .lst xs) (e : ∀ x ∈ xs, kR n x = true) (hl : xs.length ≤ 70000) : bY k [d] w = .ok (.bl (xs.all iW)) w := by
 refine iL ?_
 unfold bY gB
 rw [cY, CW]
 have it : ∀ (PI : kP → W → Prop), T (iterM d w) PI = PI ⟨xs, always⟩ w := fun PI => by
  rcases hd with rfl | rfl
  ·exact gT
  ·exact uB
 simp only [it, zY, ae, ab, reduceCtorEq]
 refine ⟨mR _ (by omega), ?_⟩
 refine cE (it := ⟨xs, always⟩) xs (fun x => x) (fun x => .bl (iW x)) (by simp) trivial (fun x hx => ?_) ?_
 ·simp only [bV, US, WQ 0 999 (e x hx), zY, ae, ab, reduceCtorEq]
 ·rw [tQ xs iW]
  first | exact ⟨rfl, rfl⟩ | rfl
theorem Z4 (a c : Int) (w : W) (P : D → W → Prop) : T (M4 (.int a) (.int c) w) P = P (.bl (decide (a < c))) w := by unfold T; rfl
theorem KH {c : Nat} (e : kR (n + 1) d = true) : c9 k [d, .int (c : Nat)] w = .ok (.bl (iU c d)) w := by
 refine iL ?_
 unfold c9 kD
 rw [cY, G9, bL]
 simp only [ES e, zY, ae, ab, reduceCtorEq]
 cases d <;> simp only [l8, iU, zY, ae, ab, reduceCtorEq] <;> try exact ⟨rfl, rfl⟩
 rename_i xs
 obtain ⟨e1, e2⟩ := o5 e
 try simp only [S6, Z4, zY, ae, ab, reduceCtorEq]
 by_cases c1 : c ≤ xs.length
 case neg =>
  have i1 : decide (((xs.length : Nat) : Int) < (c : Nat)) = true := by simp; omega
  have j1 : decide (c ≤ xs.length) = false := by simp; omega
  (simp only [i1, j1, Bool.false_and, zY, ae, ab, reduceCtorEq]) <;> (first | exact ⟨rfl, rfl⟩ | rfl)
 have i1 : decide (((xs.length : Nat) : Int) < (c : Nat)) = false := by simp; omega
 have j1 : decide (c ≤ xs.length) = true := by simp; omega
 simp only [i1, j1, OG k (.inl rfl) e1 e2, Bool.true_and, zY, ae, ab, reduceCtorEq]
 cases c2 : xs.all iW with
 | false =>
  (simp only [Bool.false_and, zY, ae, ab, reduceCtorEq]) <;> (first | exact ⟨rfl, rfl⟩ | rfl)
 | true =>
 have ei := wU c2
 obtain ⟨ns, en⟩ : ∃ ns, ns = intsOf xs := ⟨_, rfl⟩
 rw [← en] at ei ⊢
 have hl : ns.length ≤ 70000 := by rw [ei, ay] at e2; exact e2
 subst ei
 simp only [XO, Q3, aDP, b0, zY, ae, ab, reduceCtorEq]
 refine ⟨by simp, mR _ (by simp; omega), ?_⟩
 have e5 : (List.zip (ns.map D.int).dropLast (ns.map D.int).tail).map (fun p => D.tup [p.1, p.2]) = (ns.dropLast.zip ns.tail).map fun p => D.tup [.int p.1, .int p.2] := by
  rw [← List.map_dropLast, ← List.map_tail, List.zip_map, List.map_map]
  rfl
 rw [e5]
 refine cE (it := ⟨_, always⟩) (ns.dropLast.zip ns.tail) (fun p => .tup [.int p.1, .int p.2]) (fun p => .bl (decide (p.1 < p.2))) rfl trivial (fun p _ => ?_) ?_
 ·simp only [bV, Z4, zY, ae, ab, reduceCtorEq]
 rw [tQ (ns.dropLast.zip ns.tail) fun p => decide (p.1 < p.2), VB]
 exact ⟨by simp, rfl⟩
theorem aBe (e : kR (n + 1) d = true) : g9 k [d] w = .ok (.bl (iA d)) w := by
 refine iL ?_
 unfold g9 i5
 rw [cY, AY]
 simp only [ES e, zY, ae, ab, reduceCtorEq]
 cases d <;> simp only [l8, iA, zY, ae, ab, reduceCtorEq] <;> try exact ⟨rfl, rfl⟩
 rename_i xs
 obtain ⟨e1, e2⟩ := o5 e
 simp only [S6, WV, OG k (.inl rfl) e1 e2, zY, ae, ab, reduceCtorEq]
 by_cases c : xs.length = 4
 ·have i1 : (((xs.length : Nat) : Int) == 4) = true := by simp; omega
  have i2 : (xs.length == 4) = true := by simp; omega
  simp only [i1, i2, Bool.true_and, zY, ae, ab, reduceCtorEq]
 ·have i1 : (((xs.length : Nat) : Int) == 4) = false := by simp; omega
  have i2 : (xs.length == 4) = false := by simp; omega
  simp only [i1, i2, Bool.false_and, zY, ae, ab, reduceCtorEq]
theorem YB {z : Str} {o : Option D} (h : bQ.lookup z = some o) : ∃ m : Nat, o = some (.int m) := by
 have := lookup_mem h
 simp only [bQ, au, bg, or_false, Prod.mk.injEq] at this
 rcases this with ⟨_, rfl⟩ | ⟨_, rfl⟩ | ⟨_, rfl⟩ | ⟨_, rfl⟩ | ⟨_, rfl⟩ | ⟨_, rfl⟩ | ⟨_, rfl⟩ | ⟨_, rfl⟩
 ·exact ⟨1, rfl⟩
 ·exact ⟨1, rfl⟩
 ·exact ⟨1, rfl⟩
 ·exact ⟨1, rfl⟩
 ·exact ⟨1, rfl⟩
 ·exact ⟨3, rfl⟩
 ·exact ⟨0, rfl⟩
 ·exact ⟨2, rfl⟩
theorem vK : PyData.strOk ("tear" : Str) = true := by decide +kernel
theorem aA8 (e : kR (n + 2) d = true) : lE k [d] w = .ok (.bl (gD d)) w := by
 refine iL ?_
 unfold lE oA
 rw [cY, M5, bL]
 simp only [ES e, zY, ae, ab, reduceCtorEq]
 cases d <;> simp only [l8, zY, ae, ab, reduceCtorEq] <;> try rfl
 rename_i xs
 obtain ⟨e1, e2⟩ := o5 e
 cases xs with
 | nil =>
  (simp only [pD, wB, List.isEmpty_nil, zY, ae, ab, reduceCtorEq]) <;> (first | exact ⟨rfl, rfl⟩ | rfl)
 | cons x rest =>
 have ex := e1 x (aq ..)
 have er : ∀ y ∈ rest, kR (n + 1) y = true := fun y hy => e1 y (av _ hy)
 have lr : rest.length ≤ 70000 := by rw [List.length_cons] at e2; omega
 simp only [pD, wB, List.isEmpty_cons, at0, aBW ex, zY, ae, ab, reduceCtorEq]
 cases x <;> simp only [V5, zY, ae, ab, reduceCtorEq] <;> try rfl
 rename_i z
 have sz : PyData.strOk z = true := ex
 rw [bL]
 simp only [P9, List.take_succ_cons, List.take_zero, List.drop_succ_cons, List.drop_zero, List.cons_append, List.nil_append, zY, ae, ab, reduceCtorEq]
 refine ⟨⟨by omega, mR _ (by omega)⟩, ?_⟩
 rw [bL]
 simp only [pD, eI sz vK, zY, ae, ab, reduceCtorEq]
 by_cases ct : z = ("tear" : Str)
 ·subst ct
  simp only [ck, S2, kX, zY, ae, ab, reduceCtorEq]
  by_cases c2 : rest.length = 2
  case neg =>
   have i1 : (((rest.length : Nat) : Int) == 2) = false := by simp; omega
   have i2 : (rest.length == 2) = false := by simp; omega
   (simp only [kX, i1, gD, ae, i2, Bool.false_and, zY, ae, ab, reduceCtorEq]) <;> (first | exact ⟨rfl, rfl⟩ | rfl)
  obtain ⟨a, b, rfl⟩ : ∃ a b, rest = [a, b] := by
   match rest, c2 with
   | [a, b], _ => exact ⟨a, b, rfl⟩
  have ra : ∀ w : W, c9 k [a, .int 1] w = .ok (.bl (iU 1 a)) w := fun w => KH k (c := 1) (er a (by simp))
  have rb : ∀ w : W, c9 k [b, .int 0] w = .ok (.bl (iU 0 b)) w := fun w => KH k (c := 0) (er b (by simp))
  have g0 : atI [a, b] 0 = some a := rfl
  have g1 : atI [a, b] 1 = some b := rfl
  have ev : gD (.tup (.str ("tear" : Str) :: [a, b])) = (iU 1 a && iU 0 b) := by
   simp only [gD, ae]
   rfl
  have i1 : ((((0 + 1 + 1 : Nat)) : Int) == 2) = true := rfl
  simp only [kX, beq_self_eq_true, i1, g0, g1, ra, rb, ev, zY, ae, ab, reduceCtorEq]
  cases iU 1 a <;> simp
 ·have ev : gD (.tup (.str z :: rest)) = (sG rest.length (bQ.lookup z) && rest.all iW) := by simp only [gD, if_neg ct]
  have nn : ∀ w : W, bY k [.lst rest] w = .ok (.bl (rest.all iW)) w := fun w => OG k (.inr rfl) er lr
  simp only [bw ct, zY, ae, ab, reduceCtorEq]
  cases hz : bQ.lookup z with
  | none =>
   have ki : ∀ (w : W) (P : D → W → Prop), T (ML k.dI bQ (.str z) (.con k.dI) w) P = P (.bl false) w := fun w P => by simp only [ML, ae, hz, b0]
   (simp only [ki, ev, hz, sG, Bool.false_and, zY, ae, ab, reduceCtorEq]) <;> (first | exact ⟨rfl, rfl⟩ | rfl)
  | some o =>
   obtain ⟨m, rfl⟩ := YB hz
   have ki := fun (w : W) (P : D → W → Prop) => aC0 (w := w) (P := P) (a := k.dI) hz
   have kx := fun (w : W) (P : D → W → Prop) => aCl (w := w) (P := P) (a := k.dI) hz
   simp only [ki, kx, Option.isSome_some, S2, kX, nn, ev, hz, sG, zY, ae, ab, reduceCtorEq]
   by_cases c : rest.length = m
   ·subst c
    simp
   ·have i1 : (((rest.length : Nat) : Int) == (m : Nat)) = false := by simp; omega
    have i2 : (((m : Nat) : Int) == (rest.length : Nat)) = false := by simp; omega
    (simp only [i1, i2, Bool.false_and, zY, ae, ab, reduceCtorEq]) <;> (first | exact ⟨rfl, rfl⟩ | rfl)
theorem A4 (h : ∀ a f, d ≠ .tup [.tup a, .tup f]) : cS d = false := by
 unfold cS
 split
 ·exact absurd rfl (h _ _)
 ·rfl
theorem S4 (e : kR (n + 4) d = true) : gN k [d] w = .ok (.bl (cS d)) w := by
 refine iL ?_
 unfold gN n5
 rw [cY, NY, bL]
 simp only [ES e, zY, ae, ab, reduceCtorEq]
 have no : (∀ a f, d ≠ .tup [.tup a, .tup f]) → D.bl false = .bl (cS d) ∧ w = w := fun h => ⟨by rw [A4 h], rfl⟩
 cases d <;> simp only [l8, zY, ae, ab, reduceCtorEq] <;> try rfl
 rename_i ps
 obtain ⟨p1, p2⟩ := o5 e
 try simp only [S6, V2, gT, zY, ae, ab, reduceCtorEq]
 by_cases c : ps.length = 2
 case neg =>
  have i1 : (!(((ps.length : Nat) : Int) == 2)) = true := by
   have : ¬ ((ps.length : Nat) : Int) = 2 := by omega
   simpa using this
  simp only [i1, zY, ae, ab, reduceCtorEq]
  rw [A4 (by intro a f h; cases h; exact c rfl)]
 obtain ⟨a, f, rfl⟩ : ∃ a f, ps = [a, f] := by
  match ps, c with
  | [a, f], _ => exact ⟨a, f, rfl⟩
 have oa := p1 a (by simp)
 have of := p1 f (by simp)
 have i1 : (!((((0 + 1 + 1 : Nat)) : Int) == 2)) = false := rfl
 simp only [i1, zY, ae, ab, reduceCtorEq]
 try refine ⟨mR _ (by simp), ?_⟩
 refine cE (it := ⟨[a, f], always⟩) [a, f] (fun x => x) (fun x => .bl (l8 x)) rfl trivial (fun x hx => ?_) ?_
 ·simp only [bV, ES (p1 x hx), zY, ae, ab, reduceCtorEq]
 rw [tQ [a, f] l8]
 have tup2 : (∃ as fs, a = .tup as ∧ f = .tup fs) ∨ [a, f].all l8 = false := by cases a <;> cases f <;> first | exact .inl ⟨_, _, rfl, rfl⟩ | exact .inr rfl
 rcases tup2 with ⟨as, fs, rfl, rfl⟩ | hf
 case inr =>
  have tn : cS (.tup [a, f]) = false := A4 (by intro a' f' h; cases h; simp [l8] at hf)
  simp only [hf, tn, zY, ae, ab, reduceCtorEq]
 obtain ⟨oa1, oa2⟩ := o5 oa
 obtain ⟨of1, of2⟩ := o5 of
 simp only [List.all_cons, List.all_nil, l8, Bool.and_self, zY, ae, ab, reduceCtorEq]
 rw [bL]
 try simp only [gT, zY, ae, ab, reduceCtorEq]
 refine ⟨mR _ (by omega), ?_⟩
 refine cE (it := ⟨as, always⟩) as (fun x => x) (fun x => .bl (gD x)) (by simp) trivial (fun x hx => ?_) ?_
 ·simp only [bV, aA8 k (oa1 x hx), zY, ae, ab, reduceCtorEq]
 rw [tQ as gD]
 cases ca : as.all gD with
 | false =>
  try simp only [zY, ae, ab, reduceCtorEq]
  first | (simp only [cS, ca, Bool.false_and]; done) | exact ⟨by simp only [cS, ca, Bool.false_and], rfl⟩
 | true =>
 try simp only [gT, zY, ae, ab, reduceCtorEq]
 refine ⟨mR _ (by omega), ?_⟩
 refine cE (it := ⟨fs, always⟩) fs (fun x => x) (fun x => .bl (iA x)) (by simp) trivial (fun x hx => ?_) ?_
 ·simp only [bV, aBe k (n := n + 1) (of1 x hx), zY, ae, ab, reduceCtorEq]
 rw [tQ fs iA]
 first | (simp only [cS, ca, Bool.true_and, zY, ae, ab, reduceCtorEq]; done) | exact ⟨by simp only [cS, ca, Bool.true_and], rfl⟩
theorem Y5 (e : kR (n + 5) d = true) : fB k [d] w = .ok (.bl (gM d)) w := by
 refine iL ?_
 unfold fB mE
 rw [cY, LQ]
 simp only [ES e, zY, ae, ab, reduceCtorEq]
 cases d <;> simp only [l8, zY, ae, ab, reduceCtorEq] <;> try rfl
 rename_i xs
 obtain ⟨e1, e2⟩ := o5 e
 try simp only [gT, zY, ae, ab, reduceCtorEq]
 refine ⟨mR _ (by omega), ?_⟩
 refine cE (it := ⟨xs, always⟩) xs (fun x => x) (fun x => .bl (cS x)) (by simp) trivial (fun x hx => ?_) ?_
 ·simp only [bV, S4 k (e1 x hx), zY, ae, ab, reduceCtorEq]
 rw [tQ xs cS]
 exact ⟨rfl, rfl⟩
end
def aB1 : D → Bool
 | .int _ => true
 | _ => false
def cI (xs : List D) : Nat := xs.countP aB1
def VA : Nat → Nat → D → Bool
 | 0, _, _ => false
 | n + 1, l, .tup xs => xs.all (VA n l) && decide (cI xs + 40 ≤ l)
 | n + 1, l, .lst xs => xs.all (VA n l)
 | n + 1, l, .BV _ vs => vs.all (VA n l)
 | _ + 1, _, _ => true
theorem IS : ∀ {n n' l l' : Nat} {d : D}, VA n l d = true → n ≤ n' → l ≤ l' → VA n' l' d = true
 | 0, _, _, _, _, h, _, _ => by simp [VA] at h
 | n + 1, 0, _, _, _, _, hn, _ => by omega
 | n + 1, n' + 1, l, l', d, h, hn, hl => by
  cases d <;> simp only [VA] at h ⊢
  ·simp only [ag, ao, ai] at h ⊢
   exact ⟨fun x hx => IS (h.1 x hx) (by omega) hl, by omega⟩
  ·simp only [ao] at h ⊢
   exact fun x hx => IS (h x hx) (by omega) hl
  ·simp only [ao] at h ⊢
   exact fun x hx => IS (h x hx) (by omega) hl
theorem VT {n l : Nat} {xs : List D} (h : ∀ x ∈ xs, VA n l x = true) (hl : cI xs + 40 ≤ l) : VA (n + 1) l (.tup xs) = true := by
 simp only [VA, ag, ao, ai]
 exact ⟨h, hl⟩
def Gr (w w' : W) : Prop := ∃ x, w' = w ++ x
theorem Gr.refl {w : W} : Gr w w := ⟨[], (List.append_nil w).symm⟩
theorem Gr.trans {a b c : W} (h : Gr a b) (g : Gr b c) : Gr a c := by
 obtain ⟨x, rfl⟩ := h
 obtain ⟨y, rfl⟩ := g
 exact ⟨x ++ y, by rw [bo]⟩
theorem Gr.one {w : W} {o : MO} : Gr w (w ++ [o]) := ⟨[o], rfl⟩
section
variable (k : Sx.a6)
variable {n l : Nat} {w w' w0 : W} {P : D → W → Prop} {PF : Fl → W → Prop} {d : D}
def w9 (u0 w : W) (b : Nat) : Prop := gE w 1 0 b ∧ pS u0 w 1 0
variable {u0 : W}
theorem w9.less {b b' : Nat} (h : w9 u0 w b) (hb : b' ≤ b) : w9 u0 w b' := ⟨h.1.less hb, h.2⟩
theorem QB {b : Nat} (h : gE w 1 0 b) : 2 ≤ w.length := by
 obtain ⟨_, cells, sm, a, h1, h2, _⟩ := h
 have := (ak.mp h1).1
 omega
theorem QW {b : Nat} (h : gE w 1 0 b) (g : Gr w w') : gE w' 1 0 b := by
 have l := QB h
 obtain ⟨x, rfl⟩ := g
 obtain ⟨ne, cells, sm, a, h1, h2, h3⟩ := h
 exact ⟨ne, cells, sm, a, by rw [aw (by omega)]; exact h1, by rw [aw (by omega)]; exact h2, h3⟩
theorem IY {b q : Nat} {o : MO} (h : gE w 1 0 b) (hq : 2 ≤ q) : gE (w.set q o) 1 0 b := by
 obtain ⟨ne, cells, sm, a, h1, h2, h3⟩ := h
 exact ⟨ne, cells, sm, a, by rw [bc (by omega)]; exact h1, by rw [bc (by omega)]; exact h2, h3⟩
theorem w9.gr {b : Nat} (h : w9 u0 w b) (g : Gr w w') : w9 u0 w' b := by
 refine ⟨QW h.1 g, h.2.trans ?_⟩
 obtain ⟨x, rfl⟩ := g
 exact pS.app
theorem oZ {b : Nat} {size : Int} (h : w9 u0 w (b + 1)) (h0 : 0 < size) (h1 : size < 1073741824) (hP : ∀ v w', 0 ≤ v → v < size → w9 u0 w' b → Pc.Kept w w' 1 0 → P (.int v) w') : T (kL [.ref 1, .int size] w) P :=
 zF h.1 h0 h1 fun v w' a0 a1 d k => hP v w' a0 a1 ⟨d, h.2.trans (Pc.Kept.grow k)⟩ k
theorem X0 {b : Nat} {xs : List D} (h : w9 u0 w (b + 1)) (h0 : xs ≠ []) (h1 : xs.length < 1073741824) (hP : ∀ x w', x ∈ xs → w9 u0 w' b → Pc.Kept w w' 1 0 → P x w') : T (FI [.ref 1, .lst xs] w) P :=
 ZH h.1 h0 h1 fun x w' a0 d k => hP x w' a0 ⟨d, h.2.trans (Pc.Kept.grow k)⟩ k
theorem aAh {xs : List D} {i : Int} {Q : D → Prop} (h0 : 0 ≤ i) (h1 : i < (xs.length : Nat)) (h : ∀ x ∈ xs, Q x) : ∃ x, atI xs i = some x ∧ Q x := by
 obtain ⟨x, hx, hm⟩ := aBL h0 h1
 exact ⟨x, hx, h x hm⟩
theorem oK {it : kP} {vs : List Nat} {g : MG} {t : MT} {e : ME} {σ : Sg} {P : List D → W → Prop} {b : Nat} (c : Nat) (F : D → Prop) (hok : ∀ w, it.ok w) (hd : w9 u0 w (b + c * it.xs.length))
  (step : ∀ x w' b', w9 u0 w' (b' + c) → T (g x (bV σ vs) w') fun σ1 w1 => T (t σ1 w1) fun tt w2 => tt = true ∧ T (e σ1 w2) fun y w3 => F y ∧ w9 u0 w3 b')
  (fin : ∀ ys w', ys.length = it.xs.length → (∀ y ∈ ys, F y) → w9 u0 w' b → P ys w') : T (iY it vs g t e it.xs σ w) P := by
 refine GR (fun j acc w' => acc.length = j ∧ (∀ y ∈ acc, F y) ∧ w9 u0 w' (b + c * (it.xs.length - j))) (fun _ _ w' _ => hok w') ⟨rfl, by simp, hd⟩ (fun j x acc w' hx ⟨h1, h2, h3⟩ => ?_) fun acc w' ⟨h1, h2, h3⟩ => ?_
 ·have hj := (ak.mp hx).1
  have e1 : b + c * (it.xs.length - j) = b + c * (it.xs.length - (j + 1)) + c := by
   have : it.xs.length - j = (it.xs.length - (j + 1)) + 1 := by omega
   rw [this, Nat.mul_succ]
   omega
  rw [e1] at h3
  refine (step x w' _ h3).mono fun σ1 w1 _ q => q.mono fun tt w2 _ q => ?_
  obtain ⟨rfl, q⟩ := q
  rw [if_pos rfl]
  refine q.mono fun y w3 _ ⟨e2, e3⟩ => ⟨by rw [bx, h1]; rfl, fun z hz => ?_, e3⟩
  rcases bq.mp hz with hz | hz
  ·exact h2 z hz
  ·rw [bh.mp hz]
   exact e2
 ·refine fin acc w' h1 h2 ?_
  rw [Nat.sub_self, Nat.mul_zero, Nat.add_zero] at h3
  exact h3
theorem BU {b : Nat} (hd : w9 u0 w (b + 3)) (hP : ∀ v w', 0 ≤ v → v ≤ 999 → w9 u0 w' b → P (.int v) w') : T (b7 k [.ref 1] w) P := by
 unfold b7 f6
 rw [cY, z9]
 simp only [zY, ae, ab, reduceCtorEq]
 refine oZ (b := b + 2) hd (by omega) (by omega) fun x w1 x0 x1 d1 _ => ?_
 try simp only [zY, ae, ab, reduceCtorEq]
 refine oZ (b := b + 1) d1 (by omega) (by omega) fun y w2 y0 y1 d2 _ => ?_
 try simp only [zY, ae, ab, reduceCtorEq]
 refine oZ (b := b) d2 (by omega) (by omega) fun i w3 i0 i1 d3 _ => ?_
 try simp only [zY, ae, ab, reduceCtorEq]
 refine aAh i0 ?_ fun z hz => ?_
 ·simp only [List.length_cons, List.length_nil]
  omega
 simp only [au, bg, or_false] at hz
 rcases hz with rfl | rfl | rfl | rfl | rfl | rfl | rfl | rfl <;> exact hP _ w3 (by omega) (by omega) d3
def Pt (n c : Nat) (y : D) : Prop := (C0 n 80 y = true ∧ VA n 80 y = true) ∧ kG y ≤ c
def V6 (y : D) : Prop := ∃ v : Int, y = .int v ∧ 0 ≤ v ∧ v ≤ 999
theorem YK {ys : List D} (h : ∀ y ∈ ys, V6 y) : ∃ ns : List Int, ys = ns.map D.int ∧ ∀ v ∈ ns, 0 ≤ v ∧ v ≤ 999 := by
 induction ys with
 | nil => exact ⟨[], rfl, by simp⟩
 | cons y ys ih =>
  obtain ⟨v, rfl, v0, v1⟩ := h y (aq ..)
  obtain ⟨ns, rfl, hn⟩ := ih fun z hz => h z (av _ hz)
  refine ⟨v :: ns, rfl, fun u hu => ?_⟩
  rcases au.mp hu with rfl | hu
  ·exact ⟨v0, v1⟩
  ·exact hn u hu
theorem CF {y : D} (h : V6 y) : Pt 1 0 y ∧ iW y = true := by
 obtain ⟨v, rfl, v0, v1⟩ := h
 refine ⟨⟨⟨?_, rfl⟩, az _⟩, ?_⟩
 ·simp only [C0, ai]
  omega
 ·simp only [pM, ag, ai]
  exact ⟨v0, v1⟩
theorem S3 {c : Nat} : ∀ {ys : List D}, (∀ y ∈ ys, kG y ≤ c) → wtDs ys ≤ ys.length * (c + 1)
 | [], _ => by simp [wtDs]
 | y :: ys, h => by
  have a := h y (aq ..)
  have b := S3 (c := c) fun z hz => h z (av _ hz)
  rw [wtDs, List.length_cons, Nat.succ_mul]
  omega
theorem CI {xs : List D} : cI xs ≤ xs.length := List.countP_le_length
theorem sX {n c : Nat} {ys : List D} (h : ∀ y ∈ ys, Pt n c y) (hl : ys.length ≤ 120) (hc : cI ys ≤ 40) : Pt (n + 1) (ys.length * (c + 1)) (.tup ys) :=
 ⟨⟨V0 (fun y hy => (h y hy).1.1) (by omega), VT (fun y hy => (h y hy).1.2) (by omega)⟩, S3 fun y hy => (h y hy).2⟩
theorem Pt.up {n n' c c' : Nat} {y : D} (h : Pt n c y) (hn : n ≤ n') (hc : c ≤ c') : Pt n' c' y := ⟨⟨BS h.1.1 hn (az _), IS h.1.2 hn (az _)⟩, by have := h.2; omega⟩
theorem ints_map : ∀ {ns : List Int}, intsOf (ns.map D.int) = ns
 | [] => rfl
 | n :: ns => by rw [List.map_cons, intsOf, ints_map]
theorem MQ {ns : List Int} : hH ns = hH (hH ns) := rS gY gY fun k => by simp only [lD]
theorem Z9 {b c : Nat} (hc : c ≤ 1) (hd : w9 u0 w (b + 13)) (hP : ∀ y w', iU c y = true → Pt 2 4 y → w9 u0 w' b → P y w') : T (fH k [.ref 1, .int (c : Nat)] w) P := by
 unfold fH lW
 rw [cY, J5, bL]
 simp only [zY, ae, ab, reduceCtorEq]
 refine oZ (b := b + 12) hd (by omega) (by omega) fun v w1 v0 v1 d1 _ => ?_
 obtain ⟨v, rfl⟩ : ∃ n : Nat, v = (n : Int) := ⟨v.toNat, by omega⟩
 have ev : ((c : Nat) : Int) + (v : Int) = ((c + v : Nat) : Int) := by omega
 simp only [xU, ev, zY, ae, ab, reduceCtorEq]
 rw [tL (by omega) (by omega)]
 have lr : (fI 0 ((c + v : Nat) : Int).toNat).xs.length = c + v := by rw [lJ]; omega
 refine ⟨mR _ (by rw [lr]; omega), ?_⟩
 refine oK (it := fI 0 ((c + v : Nat) : Int).toNat) (b := b) 3 V6 (fun _ => trivial) (d1.less (by rw [lr]; omega)) (fun x w' b' d' => ?_) fun ys w' ly hy d' => ?_
 ·try simp only [bV, zY, ae, ab, reduceCtorEq]
  refine BU k d' fun u w2 u0 u1 d2 => ?_
  try simp only [zY, ae, ab, reduceCtorEq]
  exact ⟨⟨u, rfl, u0, u1⟩, d2⟩
 rw [lr] at ly
 obtain ⟨ns, rfl, hn⟩ := YK hy
 rw [ay] at ly
 have hr : ∀ u ∈ hH ns, 0 ≤ u ∧ u ≤ 999 := fun u hu => hn u (lD.mp hu)
 have hl := D4 (xs := ns)
 have l2 : AA (.lst (ns.map D.int)) w' = .ok (.lst ((hH ns).map D.int)) w' := by
  simp only [AA, D.items, Option.bind_some, Pc.oI, show ns.length < 64 by omega, ae]
 simp only [l2, D1, zY, ae, ab, reduceCtorEq]
 have np : ∀ y ∈ (hH ns).map D.int, Pt 1 0 y ∧ iW y = true := fun y hy => by
  obtain ⟨u, hu, rfl⟩ := bt.mp hy
  exact CF ⟨u, rfl, hr u hu⟩
 refine hP _ w' ?_ ((sX (fun y hy => (np y hy).1) (by rw [ay]; omega) (br CI (by rw [ay]; omega))).up (az _) (by rw [ay]; omega)) d'
 simp only [iU, ag, ai, ao, ints_map, ay]
 refine ⟨?_, fun y hy => (np y hy).2, MQ⟩
 rcases Nat.eq_zero_or_pos c with h0 | h0
 ·omega
 ·have : ns ≠ [] := fun e => by rw [e, List.length_nil] at ly; omega
  obtain ⟨u, us, rfl⟩ := List.exists_cons_of_ne_nil this
  have := List.length_pos_of_mem (lD.mpr (aq (a := u) (l := us)))
  omega
def kv3 : List (Key × D) := [(.inr ("rank" : Str), .int 3), (.inr ("heal" : Str), .int 0), (.inr ("ask" : Str), .int 2)]
theorem OE {x : D} (h : x ∈ [D.str ("fall" : Str), .str ("stop" : Str), .str ("rise" : Str), .str ("down" : Str), .str ("up" : Str), .str ("rank" : Str), .str ("tear" : Str), .str ("tear" : Str), .str ("heal" : Str), .str ("ask" : Str)]) :
  ∃ (z : Str) (m : Nat), x = .str z ∧ m ≤ 3 ∧ (mP kv3 (.inr z)).getD (.int 1) = .int m ∧ (z ≠ ("tear" : Str) → sG m (bQ.lookup z) = true) ∧ (PyData.strOk z = true ∧ CU 0 z = true) ∧ z.cps.size ≤ 4 := by
 simp only [au, bg, or_false] at h
 rcases h with rfl | rfl | rfl | rfl | rfl | rfl | rfl | rfl | rfl | rfl
 ·exact ⟨_, 1, rfl, by omega, rfl, fun _ => by decide +kernel, by decide +kernel, by decide +kernel⟩
 ·exact ⟨_, 1, rfl, by omega, rfl, fun _ => by decide +kernel, by decide +kernel, by decide +kernel⟩
 ·exact ⟨_, 1, rfl, by omega, rfl, fun _ => by decide +kernel, by decide +kernel, by decide +kernel⟩
 ·exact ⟨_, 1, rfl, by omega, rfl, fun _ => by decide +kernel, by decide +kernel, by decide +kernel⟩
 ·exact ⟨_, 1, rfl, by omega, rfl, fun _ => by decide +kernel, by decide +kernel, by decide +kernel⟩
 ·exact ⟨_, 3, rfl, by omega, rfl, fun _ => by decide +kernel, by decide +kernel, by decide +kernel⟩
 ·exact ⟨_, 1, rfl, by omega, rfl, fun h => absurd rfl h, by decide +kernel, by decide +kernel⟩
 ·exact ⟨_, 1, rfl, by omega, rfl, fun h => absurd rfl h, by decide +kernel, by decide +kernel⟩
 ·exact ⟨_, 0, rfl, by omega, rfl, fun _ => by decide +kernel, by decide +kernel, by decide +kernel⟩
 ·exact ⟨_, 2, rfl, by omega, rfl, fun _ => by decide +kernel, by decide +kernel, by decide +kernel⟩
theorem aCG {b : Nat} (hd : w9 u0 w (b + 30)) (hP : ∀ y w', gD y = true → Pt 3 20 y → w9 u0 w' b → P y w') : T (jD k [.ref 1] w) P := by
 unfold jD l9
 rw [cY, LL, bL]
 simp only [zY, ae, ab, reduceCtorEq]
 refine X0 (b := b + 29) hd (by simp) (by simp) fun x w1 hx d1 _ => ?_
 obtain ⟨z, m, rfl, m3, hm, hs, ⟨sz, s0⟩, z4⟩ := OE hx
 clear hx
 try simp only [zY, ae, ab, reduceCtorEq]
 rw [bL]
 simp only [ZW, RC, W0, zY, ae, ab, reduceCtorEq]
 refine ⟨kv3, rfl, by decide, ?_⟩
 obtain ⟨w2, e2⟩ : ∃ w2, w2 = w1 ++ [MO.dK kv3] := ⟨_, rfl⟩
 have hq : w2[w1.length]? = some (.dK kv3) := by rw [e2]; exact OY
 have d2 : w9 u0 w2 (b + 29) := w9.gr d1 ⟨_, e2⟩
 have e3 : w1 ++ [MO.dK (xF [] kv3)] = w2 := by rw [e2]; rfl
 rw [e3]
 have tyk : W7 (.ref w1.length) w2 = some "dict" := by simp only [W7, hq]
 have gm : getM (.ref w1.length) [.str z, .int 1] w2 = .ok (.int m) w2 := by
  have : oE (.dK kv3) (.str z) = some (mP kv3 (.inr z)) := rfl
  simp only [getM, hq, this, hm]
 simp only [tyk, gm, zY, ae, ab, reduceCtorEq]
 rw [bL]
 simp only [pD, eI sz vK, af, bj, zY, ae, ab, reduceCtorEq]
 have wz : Pt 1 4 (.str z) := ⟨⟨by simp only [C0]; exact u6 s0 (by omega), rfl⟩, z4⟩
 by_cases ct : z = ("tear" : Str)
 ·subst ct
  simp only [ck, zY, ae, ab, reduceCtorEq]
  have n1 : (1 : Int) = ((1 : Nat) : Int) := rfl
  have n0 : (0 : Int) = ((0 : Nat) : Int) := rfl
  rw [n1]
  refine Z9 k (c := 1) (b := b + 16) (by omega) d2 fun y1 w3 g1 p1 d3 => ?_
  try simp only [zY, ae, ab, reduceCtorEq]
  rw [n0]
  refine Z9 k (c := 0) (b := b + 3) (by omega) d3 fun y0 w4 g0 p0 d4 => ?_
  try simp only [zY, ae, ab, reduceCtorEq]
  refine hP _ w4 ?_ ?_ (d4.less (by omega))
  ·simp only [gD, ae, ag]
   exact ⟨rfl, g1, g0⟩
  ·refine (sX (n := 2) (c := 4) (fun y hy => ?_) (by simp) (br CI (by simp))).up (by omega) (by simp)
   simp only [au, bg, or_false] at hy
   rcases hy with rfl | rfl | rfl
   ·exact wz.up (by omega) (by omega)
   ·exact p1
   ·exact p0
 ·simp only [bw ct, zY, ae, ab, reduceCtorEq]
  rw [tL (by omega) (by omega)]
  have lr : (fI 0 ((m : Nat) : Int).toNat).xs.length = m := by rw [lJ]; omega
  refine ⟨mR _ (by rw [lr]; omega), ?_⟩
  refine oK (it := fI 0 ((m : Nat) : Int).toNat) (b := b) 3 V6 (fun _ => trivial) (d2.less (by rw [lr]; omega)) (fun x w' b' d' => ?_) fun ys w' ly hy d' => ?_
  ·try simp only [bV, zY, ae, ab, reduceCtorEq]
   refine BU k d' fun u w2 u0 u1 d2 => ?_
   try simp only [zY, ae, ab, reduceCtorEq]
   exact ⟨⟨u, rfl, u0, u1⟩, d2⟩
  rw [lr] at ly
  simp only [D1, AG, zY, ae, ab, reduceCtorEq]
  refine ⟨by rw [sizeLine_eq]; omega, ?_⟩
  refine hP _ w' ?_ ?_ d'
  ·have : gD (.tup ([.str z] ++ ys)) = (sG ys.length (bQ.lookup z) && ys.all iW) := by
    rw [List.singleton_append]
    simp only [gD, if_neg ct]
   rw [this, ly, hs ct, Bool.true_and, ao]
   exact fun y hy' => (CF (hy y hy')).2
  ·refine (sX (n := 2) (c := 4) (fun y hy' => ?_) (by rw [bx, List.length_singleton]; omega) (br CI (by rw [bx, List.length_singleton]; omega))).up (by omega) (by rw [bx, List.length_singleton]; omega)
   rcases bq.mp hy' with h1 | h1
   ·rw [bh.mp h1]
    exact wz.up (by omega) (by omega)
   ·exact (CF (hy y h1)).1.up (by omega) (by omega)
theorem YE {xs : List D} (h : ∀ x ∈ xs, ∃ ys, x = .tup ys) : cI xs = 0 := by
 unfold cI
 rw [List.countP_eq_zero]
 intro x hx
 obtain ⟨ys, rfl⟩ := h x hx
 simp [aB1]
theorem UI {y : D} (h : cS y = true) : ∃ ys, y = .tup ys := by
 cases y <;> first | exact ⟨_, rfl⟩ | (simp [cS] at h; done)
theorem aBQ {b : Nat} (hd : w9 u0 w (b + 180)) (hP : ∀ y w', cS y = true → Pt 5 120 y → w9 u0 w' b → P y w') : T (gR k [.ref 1] w) P := by
 unfold gR jT
 rw [cY, FE, bL]
 simp only [zY, ae, ab, reduceCtorEq]
 refine oZ (b := b + 179) hd (by omega) (by omega) fun v w1 v0 v1 d1 _ => ?_
 obtain ⟨v, rfl⟩ : ∃ n : Nat, v = (n : Int) := ⟨v.toNat, by omega⟩
 rw [tL (by omega) (by omega)]
 have lr : (fI 0 ((v : Nat) : Int).toNat).xs.length = v := by rw [lJ]; omega
 refine ⟨mR _ (by rw [lr]; omega), ?_⟩
 refine oK (it := fI 0 ((v : Nat) : Int).toNat) (b := b + 59) 30 (fun y => gD y = true ∧ Pt 3 20 y) (fun _ => trivial) (d1.less (by rw [lr]; omega)) (fun x w' b' d' => ?_) fun as w2 la ha d2 => ?_
 ·try simp only [bV, zY, ae, ab, reduceCtorEq]
  refine aCG k d' fun y w3 y0 y1 d3 => ?_
  try simp only [zY, ae, ab, reduceCtorEq]
  exact ⟨⟨y0, y1⟩, d3⟩
 rw [lr] at la
 simp only [D1, zY, ae, ab, reduceCtorEq]
 rw [bL]
 simp only [zY, ae, ab, reduceCtorEq]
 refine oZ (b := b + 58) d2 (by omega) (by omega) fun u w3 u0 u1 d3 _ => ?_
 try simp only [zY, ae, ab, reduceCtorEq]
 refine oZ (b := b + 57) d3 (by omega) (by omega) fun i w4 i0 i1 d4 _ => ?_
 try simp only [zY, ae, ab, reduceCtorEq]
 refine aAh i0 ?_ fun z hz => ?_
 ·simp only [List.length_cons, List.length_nil]
  omega
 obtain ⟨m, rfl, m4⟩ : ∃ m : Nat, z = .int m ∧ m ≤ 4 := by
  simp only [au, bg, or_false] at hz
  rcases hz with rfl | rfl
  ·exact ⟨0, rfl, by omega⟩
  ·exact ⟨u.toNat, by congr 1; omega, by omega⟩
 rw [tL (by omega) (by omega)]
 have lm : (fI 0 ((m : Nat) : Int).toNat).xs.length = m := by rw [lJ]; omega
 refine ⟨mR _ (by rw [lm]; omega), ?_⟩
 refine oK (it := fI 0 ((m : Nat) : Int).toNat) (b := b) 12 (fun y => iA y = true ∧ Pt 2 4 y) (fun _ => trivial) (d4.less (by rw [lm]; omega)) (fun x w' b' d' => ?_) fun fs w5 lf hf d5 => ?_
 ·simp only [bV, tL (n := 4) (by omega) (by omega), zY, ae, ab, reduceCtorEq]
  have l4 : (fI 0 (4 : Int).toNat).xs.length = 4 := by rw [lJ]; rfl
  refine ⟨mR _ (by rw [l4]; omega), ?_⟩
  refine oK (it := fI 0 (4 : Int).toNat) (b := b') 3 V6 (fun _ => trivial) (d'.less (by rw [l4]; omega)) (fun x w'' b'' d'' => ?_) fun ys w6 ly hy d6 => ?_
  ·try simp only [bV, zY, ae, ab, reduceCtorEq]
   refine BU k d'' fun u w2 u0 u1 d2 => ?_
   try simp only [zY, ae, ab, reduceCtorEq]
   exact ⟨⟨u, rfl, u0, u1⟩, d2⟩
  rw [l4] at ly
  simp only [D1]
  refine ⟨⟨?_, (sX (fun y hy' => (CF (hy y hy')).1) (by omega) (br CI (by omega))).up (az _) (by omega)⟩, d6⟩
  simp only [iA, ly, ag, ao]
  exact ⟨rfl, fun y hy' => (CF (hy y hy')).2⟩
 rw [lm] at lf
 simp only [D1, zY, ae, ab, reduceCtorEq]
 have pa := (sX (fun y hy => (ha y hy).2) (by omega) (br CI (by omega))).up (n' := 4) (c' := 84) (by omega) (by omega)
 have pf := (sX (fun y hy => (hf y hy).2) (by omega) (br CI (by omega))).up (n' := 4) (c' := 20) (by omega) (by omega)
 refine hP _ w5 ?_ ⟨⟨V0 (fun y hy => ?_) (by simp), VT (fun y hy => ?_) (br (Nat.add_le_add_right CI _) (by simp))⟩, ?_⟩ d5
 ·simp only [cS, ag, ao]
  exact ⟨fun y hy => (ha y hy).1, fun y hy => (hf y hy).1⟩
 ·simp only [au, bg, or_false] at hy
  rcases hy with rfl | rfl
  ·exact pa.1.1
  ·exact pf.1.1
 ·simp only [au, bg, or_false] at hy
  rcases hy with rfl | rfl
  ·exact pa.1.2
  ·exact pf.1.2
 ·have := pa.2
  have := pf.2
  simp only [kG, wtDs] at *
  omega
theorem Y8 {b m : Nat} (hm : m ≤ 100) (hd : w9 u0 w (b + 18000)) (hP : ∀ y w', gM y = true → Pt 6 12100 y → w9 u0 w' b → P y w') : T (eQ k [.ref 1, .int (m : Nat)] w) P := by
 unfold eQ h8
 rw [cY, D2]
 try simp only [zY, ae, ab, reduceCtorEq]
 rw [tL (by omega) (by omega)]
 have lr : (fI 0 ((m : Nat) : Int).toNat).xs.length = m := by rw [lJ]; omega
 refine ⟨mR _ (by rw [lr]; omega), ?_⟩
 refine oK (it := fI 0 ((m : Nat) : Int).toNat) (b := b) 180 (fun y => cS y = true ∧ Pt 5 120 y) (fun _ => trivial) (hd.less (by rw [lr]; omega)) (fun x w' b' d' => ?_) fun ys w2 ly hy d2 => ?_
 ·try simp only [bV, zY, ae, ab, reduceCtorEq]
  refine aBQ k d' fun y w3 y0 y1 d3 => ?_
  try simp only [zY, ae, ab, reduceCtorEq]
  exact ⟨⟨y0, y1⟩, d3⟩
 rw [lr] at ly
 simp only [D1]
 refine hP _ w2 ?_ ((sX (fun y hy' => (hy y hy').2) (by omega) (by rw [YE fun y hy' => UI (hy y hy').1]; omega)).up (by omega) (by rw [ly]; omega)) d2
 simp only [gM, ao]
 exact fun y hy' => (hy y hy').1
end
def okW (l : List Nat) : Bool := match intText? ⟨l.toArray⟩ with
 | some n => decide (0 ≤ n) && decide (n ≤ 999)
 | none => false
theorem aA9 : ((List.range 10).all fun a => okW [48 + a] && (List.range 10).all fun b => okW [48 + a, 48 + b] && (List.range 10).all fun c => okW [48 + a, 48 + b, 48 + c]) = true := by decide +kernel
def B1 (c : Nat) : Bool := decide (48 ≤ c) && decide (c ≤ 57)
theorem aB4 : ((List.range 1000).all fun n => (p8 (n : Int)).cps.toList.all B1 && (decide (1 ≤ (p8 (n : Int)).length) && (decide ((p8 (n : Int)).length ≤ 3) && (intText? (p8 (n : Int)) == some (n : Int))))) = true := by decide +kernel
structure aDs (i : Int) : Prop where
 NF : ∀ c ∈ (p8 i).cps.toList, 48 ≤ c ∧ c ≤ 57
 one : 1 ≤ (p8 i).length
 three : (p8 i).length ≤ 3
 back : intText? (p8 i) = some i
theorem WR {i : Int} (h0 : 0 ≤ i) (h1 : i ≤ 999) : aDs i := by
 obtain ⟨n, rfl⟩ : ∃ n : Nat, i = (n : Int) := ⟨i.toNat, by omega⟩
 have a := aB4
 rw [ao] at a
 have b := a n (List.mem_range.mpr (by omega))
 simp only [ag, ai, beq_iff_eq, ao, B1] at b
 exact ⟨b.1, b.2.1, b.2.2.1, b.2.2.2⟩
theorem aBj : ("0123456789" : Str).cps.toList = [48, 49, 50, 51, 52, 53, 54, 55, 56, 57] := by decide +kernel
theorem ZO {c : Nat} : decide (c ∈ ("0123456789" : Str).cps.toList) = B1 c := by
 rw [aBj, B1]
 simp only [au, bg, or_false]
 rw [← Bool.decide_and]
 congr 1
 apply propext
 omega
theorem JJ {x : Str} (h1 : 1 ≤ x.length) (h3 : x.length ≤ 3) (hd : x.cps.toList.all B1 = true) : ∃ n : Int, intText? x = some n ∧ 0 ≤ n ∧ n ≤ 999 := by
 have key : okW x.cps.toList = true := by
  have a := aA9
  simp only [ao, ag, List.mem_range] at a
  have lx : x.length = x.cps.toList.length := by simp [Str.length]
  simp only [ao, B1, ag, ai] at hd
  have e : ∀ c ∈ x.cps.toList, ∃ d, c = 48 + d ∧ d < 10 := fun c hc => ⟨c - 48, by have := hd c hc; omega, by have := hd c hc; omega⟩
  match hx : x.cps.toList with
  | [] =>
   rw [hx, List.length_nil] at lx
   omega
  | [p] =>
   obtain ⟨d, rfl, h⟩ := e p (by rw [hx]; simp)
   exact (a d h).1
  | [p, q] =>
   obtain ⟨d, rfl, h⟩ := e p (by rw [hx]; simp)
   obtain ⟨f, rfl, g⟩ := e q (by rw [hx]; simp)
   exact ((a d h).2 f g).1
  | [p, q, r] =>
   obtain ⟨d, rfl, h⟩ := e p (by rw [hx]; simp)
   obtain ⟨f, rfl, g⟩ := e q (by rw [hx]; simp)
   obtain ⟨j, rfl, i⟩ := e r (by rw [hx]; simp)
   exact ((a d h).2 f g).2 j i
  | p :: q :: r :: s :: t =>
   rw [hx] at lx
   simp only [List.length_cons] at lx
   omega
 have ex : (⟨x.cps.toList.toArray⟩ : Str) = x := by
  cases x
  simp
 unfold okW at key
 rw [ex] at key
 split at key
 ·rename_i n e
  simp only [ag, ai] at key
  exact ⟨n, e, key.1, key.2⟩
 ·cases key
def n6 (x : Str) : Option Int := if 1 ≤ x.length ∧ x.length ≤ 3 ∧ x.cps.toList.all B1 = true then (match intText? x with
 | some n => if p8 n = x then some n else none
 | none => none) else none
theorem TU {i : Int} (h0 : 0 ≤ i) (h1 : i ≤ 999) : n6 (p8 i) = some i := by
 have n := WR h0 h1
 unfold n6
 rw [if_pos ⟨n.one, n.three, by
  simp only [ao, B1, ag, ai]
  exact n.NF⟩, n.back]
 simp
theorem XF {x : Str} {i : Int} (h : n6 x = some i) : 0 ≤ i ∧ i ≤ 999 := by
 unfold n6 at h
 split at h
 ·rename_i c
  obtain ⟨n, e, n0, n1⟩ := JJ c.1 c.2.1 c.2.2
  rw [e] at h
  simp only at h
  split at h
  ·cases h
   exact ⟨n0, n1⟩
  ·cases h
 ·cases h
def kO : D → Str
 | .int i => p8 i
 | _ => ""
def qE : D → Str
 | .tup xs => if xs = [] then "-" else Txt.join "," (xs.map kO)
 | _ => ""
def pT : D → Str
 | .tup (.str z :: rest) => Txt.join " " (z :: rest.map (if z = ("tear" : Str) then qE else kO))
 | _ => ""
def mN : D → Str
 | .tup xs => Txt.join " " (xs.map kO)
 | _ => ""
def iF (a : List D) : Str := if a = [] then "-" else Txt.join " ; " (a.map pT)
def c7 : D → Str
 | .tup [.tup a, .tup f] => if f = [] then iF a else iF a ++ " ! " ++ Txt.join " , " (f.map mN)
 | _ => ""
def dY : D → Str
 | .tup ts => Txt.join "\n" (ts.map c7)
 | _ => ""
theorem EM (y : Str) : ∀ ps : List Str, (TL.joinL (TL.tl y) (ps.map TL.tl)).length ≤ (ps.map fun p => p.length + y.length).sum
 | [] => az 0
 | [p] => by
  show (TL.tl p).length ≤ (p.length + y.length) + 0
  rw [← TL.len_tl]
  omega
 | p :: q :: r => by
  have ih := EM y (q :: r)
  show (TL.tl p ++ (TL.tl y ++ TL.joinL (TL.tl y) ((q :: r).map TL.tl))).length ≤ (p.length + y.length) + ((q :: r).map fun p => p.length + y.length).sum
  rw [bx, bx, ← TL.len_tl, ← TL.len_tl]
  omega
theorem KN (y : Str) (ps : List Str) : (Txt.join y ps).length ≤ (ps.map fun p => p.length + y.length).sum := by
 rw [TL.len_tl, oJ]
 exact EM y ps
theorem qU {f : D → Str} {c : Nat} : ∀ {xs : List D}, (∀ x ∈ xs, (f x).length + c ≤ 4 * (kG x + 1)) → ((xs.map f).map fun p => p.length + c).sum ≤ 4 * wtDs xs
 | [], _ => Nat.zero_le _
 | x :: xs, h => by
  have a := h x (aq ..)
  have b := qU (f := f) (c := c) fun z hz => h z (av x hz)
  rw [List.map_cons, List.map_cons, List.sum_cons, wtDs]
  omega
theorem uT {f : D → Str} {y : Str} {xs : List D} (h : ∀ x ∈ xs, (f x).length + y.length ≤ 4 * (kG x + 1)) : (Txt.join y (xs.map f)).length ≤ 4 * wtDs xs := br (KN y _) (qU h)
theorem A3 {d : D} (h : iW d = true) : ∃ i : Int, d = .int i ∧ 0 ≤ i ∧ i ≤ 999 := by
 cases d <;> first | (simp [pM] at h; done) | skip
 simp only [pM, ag, ai] at h
 exact ⟨_, rfl, h.1, h.2⟩
theorem zH {d : D} (h : iW d = true) : (kO d).length ≤ 3 ∧ 1 ≤ (kO d).length := by
 obtain ⟨i, rfl, h0, h1⟩ := A3 h
 exact ⟨(WR h0 h1).three, (WR h0 h1).one⟩
theorem xB {d : D} (h : iW d = true) : ∀ c ∈ (kO d).cps.toList, 48 ≤ c ∧ c ≤ 57 := by
 obtain ⟨i, rfl, h0, h1⟩ := A3 h
 exact (WR h0 h1).NF
theorem A6 {c : Nat} {d : D} (h : iU c d = true) : ∃ xs, d = .tup xs ∧ c ≤ xs.length ∧ (∀ x ∈ xs, iW x = true) ∧ iU 0 d = true := by
 cases d <;> first | (simp [iU] at h; done) | skip
 rename_i xs
 simp only [iU, ag, ai, ao] at h
 exact ⟨xs, rfl, h.1, h.2.1, by
  simp only [iU, ag, ai, ao]
  exact ⟨Nat.zero_le _, h.2⟩⟩
theorem cL {z : Str} {n : Nat} (h : z.cps.toList.length = n) : z.length = n := by
 rw [← h]
 simp [Str.length]
theorem oY : ("-" : Str).cps.toList = [45] := by decide +kernel
theorem xE : ("," : Str).cps.toList = [44] := by decide +kernel
theorem HC : (" ; " : Str).cps.toList = [32, 59, 32] := by decide +kernel
theorem v9 : (" ! " : Str).cps.toList = [32, 33, 32] := by decide +kernel
theorem HE : (" , " : Str).cps.toList = [32, 44, 32] := by decide +kernel
theorem v5 : (" " : Str).cps.toList = [32] := by decide +kernel
theorem GO : ("\n" : Str).cps.toList = [10] := by decide +kernel
theorem U3 {c0 : Nat} {d : D} (h : iU c0 d = true) : ∀ c ∈ (qE d).cps.toList, (48 ≤ c ∧ c ≤ 57) ∨ c = 44 ∨ c = 45 := by
 obtain ⟨xs, rfl, _, hn, _⟩ := A6 h
 intro c hc
 unfold qE at hc
 simp only at hc
 split at hc
 ·rw [oY] at hc
  exact .inr (.inr (bh.mp hc))
 ·rcases lV hc with hc | ⟨p, hp, hc⟩
  ·rw [xE] at hc
   exact .inr (.inl (bh.mp hc))
  ·obtain ⟨x, hx, rfl⟩ := bt.mp hp
   exact .inl (xB (hn x hx) c hc)
theorem Q4 {c0 : Nat} {d : D} (h : iU c0 d = true) : (qE d).length + 1 ≤ 4 * (kG d + 1) := by
 obtain ⟨xs, rfl, _, hn, _⟩ := A6 h
 unfold qE
 simp only
 split
 ·rename_i e
  rw [cL (congrArg List.length oY)]
  simp only [List.length_cons, List.length_nil]
  omega
 ·have := uT (f := kO) (y := ("," : Str)) (xs := xs) fun x hx => by
   have := (zH (hn x hx)).1
   rw [cL (z := ("," : Str)) (congrArg List.length xE)]
   simp only [List.length_cons, List.length_nil]
   omega
  simp only [kG]
  omega
def lL : List Str := ["fall", "stop", "rise", "down", "up", "rank", "heal", "ask"]
theorem U8 : ("tear" :: lL : List Str).all (fun z => PyData.strOk z && (z.cps.toList.all (fun c => decide (97 ≤ c) && decide (c ≤ 122)) && (decide (1 ≤ z.length) && decide (z.length ≤ 4)))) = true := by decide +kernel
theorem aAH {d : D} (h : gD d = true) : ∃ z rest, d = .tup (.str z :: rest) ∧ ((z = ("tear" : Str) ∧ ∃ a b, rest = [a, b] ∧ iU 1 a = true ∧ iU 0 b = true) ∨ (z ≠ ("tear" : Str) ∧ sG rest.length (bQ.lookup z) = true ∧ ∀ x ∈ rest, iW x = true)) := by
 cases d <;> first | (simp [gD] at h; done) | skip
 rename_i xs
 cases xs with
 | nil => simp [gD] at h
 | cons x rest =>
  cases x <;> first | (simp [gD] at h; done) | skip
  rename_i z
  refine ⟨z, rest, rfl, ?_⟩
  simp only [gD] at h
  by_cases e : z = ("tear" : Str)
  ·rw [if_pos e] at h
   simp only [ag, beq_iff_eq] at h
   match rest, h with
   | [a, b], h => exact .inl ⟨e, a, b, rfl, h.2.1, h.2.2⟩
  ·rw [if_neg e] at h
   simp only [ag, ao] at h
   exact .inr ⟨e, h.1, h.2⟩
theorem SH {z : Str} {m : Nat} (h : sG m (bQ.lookup z) = true) : z ∈ lL ∧ m ≤ 3 := by
 cases hz : bQ.lookup z with
 | none => rw [hz] at h; cases h
 | some o =>
  rw [hz] at h
  have := lookup_mem hz
  simp only [bQ, au, bg, or_false, Prod.mk.injEq] at this
  have key : ∀ c : Nat, c ≤ 3 → o = some (.int (c : Int)) → m ≤ 3 := fun c hc e => by
   rw [e] at h
   have : ((c : Int) == (m : Int)) = true := h
   simp only [beq_iff_eq] at this
   omega
  rcases this with ⟨rfl, e⟩ | ⟨rfl, e⟩ | ⟨rfl, e⟩ | ⟨rfl, e⟩ | ⟨rfl, e⟩ | ⟨rfl, e⟩ | ⟨rfl, e⟩ | ⟨rfl, e⟩
  ·exact ⟨by simp [lL], key 1 (by omega) e⟩
  ·exact ⟨by simp [lL], key 1 (by omega) e⟩
  ·exact ⟨by simp [lL], key 1 (by omega) e⟩
  ·exact ⟨by simp [lL], key 1 (by omega) e⟩
  ·exact ⟨by simp [lL], key 1 (by omega) e⟩
  ·exact ⟨by simp [lL], key 3 (by omega) e⟩
  ·exact ⟨by simp [lL], key 0 (by omega) e⟩
  ·exact ⟨by simp [lL], key 2 (by omega) e⟩
structure UZ (z : Str) : Prop where
 ok : PyData.strOk z = true
 ch : ∀ c ∈ z.cps.toList, 97 ≤ c ∧ c ≤ 122
 one : 1 ≤ z.length
 four : z.length ≤ 4
theorem KY {z : Str} (h : z ∈ ("tear" :: lL : List Str)) : UZ z := by
 have a := U8
 rw [ao] at a
 have b := a z h
 simp only [ag, ai, ao] at b
 exact ⟨b.1, b.2.1, b.2.2.1, b.2.2.2⟩
theorem lK {d : D} (h : gD d = true) : ∃ z rest, d = .tup (.str z :: rest) ∧ UZ z ∧ ∃ f : D → Str, pT d = Txt.join " " (z :: rest.map f) ∧ ((z = ("tear" : Str) ∧ f = qE ∧ ∃ a b, rest = [a, b] ∧ iU 1 a = true ∧ iU 0 b = true) ∨ (z ≠ ("tear" : Str) ∧ f = kO ∧ sG rest.length (bQ.lookup z) = true ∧ ∀ x ∈ rest, iW x = true)) := by
 obtain ⟨z, rest, ed, hh⟩ := aAH h
 clear h
 refine ⟨z, rest, ed, ?_, (if z = ("tear" : Str) then qE else kO), by rw [ed]; rfl, ?_⟩
 ·rcases hh with ⟨e, _⟩ | ⟨_, hs, _⟩
  ·exact KY (by rw [e]; exact aq ..)
  ·exact KY (av _ (SH hs).1)
 ·rcases hh with ⟨e, h⟩ | ⟨h1, h2⟩
  ·exact .inl ⟨e, if_pos e, h⟩
  ·exact .inr ⟨h1, if_neg h1, h2⟩
theorem uU {z : Str} {rest : List D} {f : D → Str} (h : (z = ("tear" : Str) ∧ f = qE ∧ ∃ a b, rest = [a, b] ∧ iU 1 a = true ∧ iU 0 b = true) ∨ (z ≠ ("tear" : Str) ∧ f = kO ∧ sG rest.length (bQ.lookup z) = true ∧ ∀ x ∈ rest, iW x = true)) :
  ∀ x ∈ rest, (∀ c ∈ (f x).cps.toList, (48 ≤ c ∧ c ≤ 57) ∨ c = 44 ∨ c = 45) ∧ (f x).length + 1 ≤ 4 * (kG x + 1) := fun x hx => by
 rcases h with ⟨_, rfl, a, b, rfl, h1, h2⟩ | ⟨_, rfl, _, hn⟩
 ·simp only [au, bg, or_false] at hx
  rcases hx with rfl | rfl
  ·exact ⟨U3 h1, Q4 h1⟩
  ·exact ⟨U3 h2, Q4 h2⟩
 ·exact ⟨fun c hc => .inl (xB (hn x hx) c hc), by have := (zH (hn x hx)).1; omega⟩
theorem VU {d : D} (h : gD d = true) : ∀ c ∈ (pT d).cps.toList, (48 ≤ c ∧ c ≤ 57) ∨ c = 44 ∨ c = 45 ∨ (97 ≤ c ∧ c ≤ 122) ∨ c = 32 := by
 obtain ⟨z, rest, rfl, hz, f, e, hf⟩ := lK h
 have hp := uU hf
 rw [e]
 intro c hc
 rcases lV hc with hc | ⟨p, hp', hc⟩
 ·rw [v5] at hc
  exact .inr (.inr (.inr (.inr (bh.mp hc))))
 ·rcases au.mp hp' with ep | hp'
  ·rw [ep] at hc
   exact .inr (.inr (.inr (.inl (hz.ch c hc))))
  ·obtain ⟨x, hx, rfl⟩ := bt.mp hp'
   rcases (hp x hx).1 c hc with h | h | h
   ·exact .inl h
   ·exact .inr (.inl h)
   ·exact .inr (.inr (.inl h))
theorem Q0 {d : D} (h : gD d = true) : (pT d).length ≤ 4 * kG d := by
 obtain ⟨z, rest, rfl, hz, f, e, hf⟩ := lK h
 have hp := uU hf
 rw [e]
 refine br (KN _ _) ?_
 have l1 : (" " : Str).length = 1 := cL (congrArg List.length v5)
 have s := qU (f := f) (c := 1) (xs := rest) fun x hx => (hp x hx).2
 rw [l1, List.map_cons, List.sum_cons]
 have z4 := hz.four
 have wz : kG (.str z) = z.length := rfl
 simp only [kG, wtDs] at *
 omega
theorem zJ {d : D} (h : iA d = true) : ∃ xs, d = .tup xs ∧ xs.length = 4 ∧ ∀ x ∈ xs, iW x = true := by
 cases d <;> first | (simp [iA] at h; done) | skip
 rename_i xs
 simp only [iA, ag, beq_iff_eq, ao] at h
 exact ⟨xs, rfl, h.1, h.2⟩
theorem QD {d : D} (h : iA d = true) : ∀ c ∈ (mN d).cps.toList, (48 ≤ c ∧ c ≤ 57) ∨ c = 32 := by
 obtain ⟨xs, rfl, _, hn⟩ := zJ h
 intro c hc
 rcases lV (y := (" " : Str)) hc with hc | ⟨p, hp, hc⟩
 ·rw [v5] at hc
  exact .inr (bh.mp hc)
 ·obtain ⟨x, hx, rfl⟩ := bt.mp hp
  exact .inl (xB (hn x hx) c hc)
theorem J4 {d : D} (h : iA d = true) : (mN d).length ≤ 4 * kG d := by
 obtain ⟨xs, rfl, _, hn⟩ := zJ h
 have := uT (f := kO) (y := (" " : Str)) (xs := xs) fun x hx => by
  have := (zH (hn x hx)).1
  rw [cL (z := (" " : Str)) (congrArg List.length v5)]
  simp only [List.length_cons, List.length_nil]
  omega
 exact this
theorem pE {d : D} (h : cS d = true) : ∃ a f, d = .tup [.tup a, .tup f] ∧ (∀ x ∈ a, gD x = true) ∧ ∀ x ∈ f, iA x = true := by
 unfold cS at h
 split at h
 ·rename_i a f
  simp only [ag, ao] at h
  exact ⟨a, f, rfl, h.1, h.2⟩
 ·cases h
theorem IU {a : List D} (h : ∀ x ∈ a, gD x = true) : ∀ c ∈ (iF a).cps.toList, (48 ≤ c ∧ c ≤ 57) ∨ c = 44 ∨ c = 45 ∨ (97 ≤ c ∧ c ≤ 122) ∨ c = 32 ∨ c = 59 := by
 intro c hc
 unfold iF at hc
 split at hc
 ·rw [oY] at hc
  exact .inr (.inr (.inl (bh.mp hc)))
 ·rcases lV hc with hc | ⟨p, hp, hc⟩
  ·rw [HC] at hc
   simp only [au, bg, or_false] at hc
   omega
  ·obtain ⟨x, hx, rfl⟩ := bt.mp hp
   have := VU (h x hx) c hc
   omega
theorem zV {a : List D} (h : ∀ x ∈ a, gD x = true) : (iF a).length ≤ 4 * wtDs a + 1 := by
 unfold iF
 split
 ·rw [cL (congrArg List.length oY)]
  simp
 ·have := uT (f := pT) (y := (" ; " : Str)) (xs := a) fun x hx => by
   have := Q0 (h x hx)
   rw [cL (z := (" ; " : Str)) (congrArg List.length HC)]
   simp only [List.length_cons, List.length_nil]
   omega
  omega
theorem wI {a : List D} (h : ∀ x ∈ a, iA x = true) : (Txt.join " , " (a.map mN)).length ≤ 4 * wtDs a :=
 uT fun x hx => by
  have := J4 (h x hx)
  rw [cL (z := (" , " : Str)) (congrArg List.length HE)]
  simp only [List.length_cons, List.length_nil]
  omega
theorem VN {a : List D} (h : ∀ x ∈ a, iA x = true) : ∀ c ∈ (Txt.join " , " (a.map mN)).cps.toList, (48 ≤ c ∧ c ≤ 57) ∨ c = 32 ∨ c = 44 := by
 intro c hc
 rcases lV hc with hc | ⟨p, hp, hc⟩
 ·rw [HE] at hc
  simp only [au, bg, or_false] at hc
  omega
 ·obtain ⟨x, hx, rfl⟩ := bt.mp hp
  have := QD (h x hx) c hc
  omega
theorem QS {x y : Str} {c : Nat} (h : c ∈ (x ++ y).cps.toList) : c ∈ x.cps.toList ∨ c ∈ y.cps.toList := by
 have : c ∈ TL.tl (x ++ y) := h
 rw [TL.tl_append] at this
 exact bq.mp this
theorem pF {x y : Str} : (x ++ y).length = x.length + y.length := by
 rw [TL.len_tl, TL.tl_append, bx, ← TL.len_tl, ← TL.len_tl]
theorem GI {d : D} (h : cS d = true) : ∀ c ∈ (c7 d).cps.toList, 32 ≤ c ∧ c < 127 := by
 obtain ⟨a, f, rfl, ha, hf⟩ := pE h
 intro c hc
 unfold c7 at hc
 simp only at hc
 split at hc
 ·have := IU ha c hc
  omega
 ·rcases QS hc with hc | hc
  ·rcases QS hc with hc | hc
   ·have := IU ha c hc
    omega
   ·rw [v9] at hc
    simp only [au, bg, or_false] at hc
    omega
  ·have := VN hf c hc
   omega
theorem AO {d : D} (h : cS d = true) : (c7 d).length ≤ 4 * kG d := by
 obtain ⟨a, f, rfl, ha, hf⟩ := pE h
 have la := zV ha
 have lf := wI hf
 have l3 : (" ! " : Str).length = 3 := cL (congrArg List.length v9)
 unfold c7
 simp only
 split
 ·simp only [kG, wtDs]
  omega
 ·rw [pF, pF]
  simp only [kG, wtDs]
  omega
theorem lO {d : D} (h : gM d = true) : ∃ ts, d = .tup ts ∧ ∀ x ∈ ts, cS x = true := by
 cases d <;> first | (simp [gM] at h; done) | skip
 rename_i ts
 simp only [gM, ao] at h
 exact ⟨ts, rfl, h⟩
theorem vX {d : D} (h : gM d = true) : (dY d).length ≤ 4 * kG d := by
 obtain ⟨ts, rfl, ht⟩ := lO h
 exact uT (f := c7) (y := ("\n" : Str)) (xs := ts) fun x hx => by
  have := AO (ht x hx)
  rw [cL (z := ("\n" : Str)) (congrArg List.length GO)]
  simp only [List.length_cons, List.length_nil]
  omega
theorem CJ {d : D} (h : gM d = true) : ∀ c ∈ (dY d).cps.toList, c < 127 := by
 obtain ⟨ts, rfl, ht⟩ := lO h
 intro c hc
 rcases lV (y := ("\n" : Str)) hc with hc | ⟨p, hp, hc⟩
 ·rw [GO] at hc
  simp only [au, bg, or_false] at hc
  omega
 ·obtain ⟨x, hx, rfl⟩ := bt.mp hp
  exact (GI (ht x hx) c hc).2
section
variable (k : Sx.a6)
variable {n l : Nat} {w w' w0 : W} {P : D → W → Prop} {PF : Fl → W → Prop} {d : D}
theorem EI {c : Nat} : ∀ ys : List Str, (ys.map fun p => p.length + c).sum = (ys.map (·.length)).sum + ys.length * c
 | [] => by simp
 | y :: ys => by
  rw [List.map_cons, List.sum_cons, List.map_cons, List.sum_cons, EI ys, List.length_cons, Nat.succ_mul]
  omega
theorem jN {a : Str} {ys : List Str} (h : (ys.map fun p => p.length + a.length).sum ≤ 16777216) : T (joinM (.str a) [.lst (ys.map D.str)] w) P = P (.str (Txt.join a ys)) w := by
 rw [EI] at h
 have e : (D.items w (.lst (ys.map D.str))).bind y3 = some ys := by simp only [D.items, Option.bind_some, EA]
 have : joinM (.str a) [.lst (ys.map D.str)] w = .ok (.str (Txt.join a ys)) w := by
  simp only [joinM, e, if_pos h]
 rw [this, b0]
theorem Y2 {xs : List D} (h : ∀ x ∈ xs, iW x = true) : xs.map (fun x => D.str (kO x)) = (xs.map kO).map D.str := by rw [List.map_map]; rfl
theorem r6 {x : D} (h : iW x = true) : T (mI [x] w) P = P (.str (kO x)) w := by
 obtain ⟨i, rfl, h0, h1⟩ := A3 h
 exact U9 (by omega)
theorem GD {xs : List D} {vs : List Nat} {g : MG} {e : ME} {σ : Sg} {PL : List D → W → Prop} {it : kP} (hx : it.xs = xs) (hok : it.ok w) (hn : ∀ x ∈ xs, iW x = true) (hg : ∀ x ∈ xs, T (g x (bV σ vs) w) fun σ1 w1 => T (aT σ1 w1) fun b w2 => b = true ∧ T (e σ1 w2) fun z w3 => z = .str (kO x) ∧ w3 = w) (hP : PL ((xs.map kO).map D.str) w) : T (iY it vs g aT e it.xs σ w) PL := by
 refine cE xs (fun x => x) (fun x => .str (kO x)) (by rw [hx, List.map_id']) hok hg ?_
 rw [Y2 hn]
 exact hP
end
section
variable (k : Sx.a6)
variable {n l : Nat} {w w' w0 : W} {P : D → W → Prop} {PF : Fl → W → Prop} {d : D}
theorem CK {x : Str} : W7 (.str x) w = some "str" := rfl
theorem UN {xs : List D} (h : ∀ x ∈ xs, iW x = true) : wtDs xs = xs.length := by
 induction xs with
 | nil => rfl
 | cons x xs ih =>
  obtain ⟨i, rfl, _⟩ := A3 (h x (aq ..))
  rw [wtDs, ih fun z hz => h z (av _ hz), List.length_cons]
  simp only [kG]
  omega
theorem AE {xs : List D} {c : Nat} (h : ∀ x ∈ xs, iW x = true) (hc : c ≤ 1) : ((xs.map kO).map fun p => p.length + c).sum ≤ 4 * wtDs xs := qU fun x hx => by
 have := (zH (h x hx)).1
 omega
theorem SJ {c : Nat} (h : iU c d = true) (hl : kG d ≤ 100000) : eU k [d, .str ","] w = .ok (.str (qE d)) w := by
 obtain ⟨xs, rfl, _, hn, _⟩ := A6 h
 refine iL ?_
 unfold eU nT
 rw [cY, EB, bL]
 simp only [S6, pD, kX, af, bj, zY, ae, ab, reduceCtorEq]
 have hw : wtDs xs ≤ 100000 := hl
 have lx := UN hn
 cases xs with
 | nil =>
  (simp only [List.length_nil, qE, ae, zY, ae, ab, reduceCtorEq]) <;> (first | exact ⟨rfl, rfl⟩ | exact trivial | rfl)
 | cons x r =>
  have i1 : ((((x :: r).length : Nat) : Int) == 0) = false := by simp; omega
  rw [List.length_cons] at lx
  simp only [i1, gT, CK, zY, ae, ab, reduceCtorEq]
  refine ⟨mR _ (by omega), ?_⟩
  refine GD (it := ⟨x :: r, always⟩) rfl trivial hn (fun y hy => ?_) ?_
  ·simp only [bV, r6 (hn y hy), zY, ae, ab, reduceCtorEq]
  ·rw [jN (br (AE (c := ("," : Str).length) hn (by rw [cL (congrArg List.length xE)]; simp)) (by omega))]
   exact ⟨by simp only [qE, if_neg (List.cons_ne_nil x r)], rfl⟩
theorem D6 {y : Str} {ys : List Str} (h : (ys.map fun p => p.length + y.length).sum ≤ 16777216) (hl : ys.length ≤ 100000) : eU k [.lst (ys.map D.str), .str y] w = .ok (.str (if ys = [] then "-" else Txt.join y ys)) w := by
 refine iL ?_
 unfold eU nT
 rw [cY, EB, bL]
 simp only [S2, pD, kX, af, bj, zY, ae, ab, reduceCtorEq]
 cases ys with
 | nil =>
  (simp only [List.map_nil, List.length_nil, ae, zY, ae, ab, reduceCtorEq]) <;> (first | exact ⟨rfl, rfl⟩ | exact trivial | rfl)
 | cons x r =>
  have i1 : (((((x :: r).map D.str).length : Nat) : Int) == 0) = false := by simp; omega
  simp only [i1, uB, CK, zY, ae, ab, reduceCtorEq]
  refine ⟨mR _ (by rw [ay]; omega), ?_⟩
  refine cE (it := ⟨(x :: r).map D.str, always⟩) (x :: r) D.str D.str rfl trivial (fun y hy => ?_) ?_
  ·simp only [bV, aAV, zY, ae, ab, reduceCtorEq]
  ·rw [jN h]
   first | exact ⟨rfl, rfl⟩ | exact ⟨by rw [if_neg (List.cons_ne_nil x r)], rfl⟩
theorem rW {a b : Str} (h : a.length + b.length ≤ 16777216) : T (bH (.str a) (.str b) w) P = P (.str (a ++ b)) w := by
 have : bH (.str a) (.str b) w = .ok (.str (a ++ b)) w := by
  simp only [bH, if_pos (show a.length + b.length ≤ sizeLine by rw [sizeLine_eq]; omega)]
 rw [this, b0]
theorem J9 {z : Str} {rest : List D} {f : D → Str} (hz : z.length ≤ 4) (h : ∀ x ∈ rest, (f x).length + 1 ≤ 4 * (kG x + 1)) : ((z :: rest.map f).map fun p => p.length + (" " : Str).length).sum ≤ 4 * wtDs rest + 5 := by
 have l1 : (" " : Str).length = 1 := cL (congrArg List.length v5)
 have := qU (c := 1) h
 rw [l1, List.map_cons, List.sum_cons]
 omega
theorem fN : ∀ {xs : List D}, xs.length ≤ wtDs xs
 | [] => Nat.zero_le _
 | x :: xs => by
  have := fN (xs := xs)
  rw [wtDs, List.length_cons]
  omega
theorem jI : ∀ {xs : List D} {x : D}, x ∈ xs → kG x + 1 ≤ wtDs xs
 | y :: xs, x, h => by
  rw [wtDs]
  rcases au.mp h with rfl | h
  ·omega
  ·have := jI h
   omega
theorem kW {f : D → Str} {xs : List D} : xs.map (fun x => D.str (f x)) = (xs.map f).map D.str := by rw [List.map_map]; rfl
theorem j0 (h : gD d = true) (hl : kG d ≤ 100000) : gP k [d] w = .ok (.str (pT d)) w := by
 obtain ⟨z, rest, rfl, hz, f, e, hf⟩ := lK h
 have hp := uU hf
 have hr : wtDs rest ≤ 100000 := by simp only [kG, wtDs] at hl; omega
 have lr := fN (xs := rest)
 have wl := fun x (hx : x ∈ rest) => jI hx
 rw [e]
 refine iL ?_
 unfold gP jS
 rw [cY, FF, bL]
 simp only [P9, List.take_succ_cons, List.take_zero, List.drop_succ_cons, List.drop_zero, List.cons_append, List.nil_append, zY, ae, ab, reduceCtorEq]
 refine ⟨⟨by omega, mR _ (by omega)⟩, ?_⟩
 rw [bL]
 simp only [pD, eI hz.ok vK, af, bj, zY, ae, ab, reduceCtorEq]
 have fin : ∀ PP : D → W → Prop, PP (.str (Txt.join " " (z :: rest.map f))) w → T (joinM (.str " ") [.lst (.str z :: (rest.map f).map D.str)] w) PP := fun PP hPP => by
  rw [show D.lst (.str z :: (rest.map f).map D.str) = .lst ((z :: rest.map f).map D.str) from rfl, jN (br (J9 hz.four fun x hx => (hp x hx).2) (by omega))]
  exact hPP
 rcases hf with ⟨rfl, rfl, hab⟩ | ⟨hz2, rfl, _, hn⟩
 ·simp only [ck, CK, uB, zY, ae, ab, reduceCtorEq]
  refine ⟨mR _ (by omega), ?_⟩
  have hlot : ∀ x ∈ rest, ∃ c, iU c x = true := fun x hx => by
   obtain ⟨a, b, rfl, h1, h2⟩ := hab
   simp only [au, bg, or_false] at hx
   rcases hx with rfl | rfl
   ·exact ⟨1, h1⟩
   ·exact ⟨0, h2⟩
  refine cE (it := ⟨rest, always⟩) rest (fun x => x) (fun x => .str (qE x)) (by simp) trivial (fun x hx => ?_) ?_
  ·obtain ⟨c, hc⟩ := hlot x hx
   have := wl x hx
   simp only [bV, SJ k hc (by omega), zY, ae, ab, reduceCtorEq]
  ·rw [kW]
   exact ⟨mR _ (by simp; omega), fin _ ⟨rfl, rfl⟩⟩
 ·simp only [bw hz2, CK, uB, zY, ae, ab, reduceCtorEq]
  refine ⟨mR _ (by omega), ?_⟩
  refine cE (it := ⟨rest, always⟩) rest (fun x => x) (fun x => .str (kO x)) (by simp) trivial (fun x hx => ?_) ?_
  ·simp only [bV, r6 (hn x hx), zY, ae, ab, reduceCtorEq]
  ·rw [kW]
   exact ⟨mR _ (by simp; omega), fin _ ⟨rfl, rfl⟩⟩
theorem WA {xs : List D} : zQ (.tup xs) (.tup []) w = some (decide (xs = [])) := by
 rw [wB]
 cases xs <;> simp
theorem L7 {a : List D} (h : ∀ x ∈ a, gD x = true) : ((a.map pT).map fun p => p.length + (" ; " : Str).length).sum ≤ 4 * wtDs a := by
 refine qU fun x hx => ?_
 have := Q0 (h x hx)
 rw [cL (z := (" ; " : Str)) (congrArg List.length HC)]
 simp only [List.length_cons, List.length_nil]
 omega
theorem EZ {a : List D} (h : ∀ x ∈ a, iA x = true) : ((a.map mN).map fun p => p.length + (" , " : Str).length).sum ≤ 4 * wtDs a := by
 refine qU fun x hx => ?_
 have := J4 (h x hx)
 rw [cL (z := (" , " : Str)) (congrArg List.length HE)]
 simp only [List.length_cons, List.length_nil]
 omega
theorem D5 {a : List D} (h : ∀ x ∈ a, cS x = true) : ((a.map c7).map fun p => p.length + ("\n" : Str).length).sum ≤ 4 * wtDs a := by
 refine qU fun x hx => ?_
 have := AO (h x hx)
 rw [cL (z := ("\n" : Str)) (congrArg List.length GO)]
 simp only [List.length_cons, List.length_nil]
 omega
theorem QU {x : D} {vs : List Nat} {g : MG} {e : ME} {σ : Sg} (h : iA x = true) (hl : kG x ≤ 100000) {PP : D → W → Prop} (hg : ∀ y, iW y = true → T (g y (bV σ vs) w) fun σ1 w1 => T (aT σ1 w1) fun b w2 => b = true ∧ T (e σ1 w2) fun z w3 => z = .str (kO y) ∧ w3 = w) (hP : PP (.str (mN x)) w) :
  T (iterM x w) fun it w1 => it.xs.length ≤ sizeLine ∧ T (iY it vs g aT e it.xs σ w1) fun ys w2 => T (joinM (.str " ") [.lst ys] w2) PP := by
 obtain ⟨xs, rfl, l4, hn⟩ := zJ h
 rw [gT]
 refine ⟨mR xs.length (by omega), ?_⟩
 refine GD (it := ⟨xs, always⟩) rfl trivial hn (fun y hy => hg y (hn y hy)) ?_
 have hw : wtDs xs ≤ 100000 := hl
 rw [jN (br (AE (c := (" " : Str).length) hn (by rw [cL (congrArg List.length v5)]; simp)) (by omega))]
 exact hP
theorem jZ (h : cS d = true) (hl : kG d ≤ 100000) : g6 k [d] w = .ok (.str (c7 d)) w := by
 obtain ⟨a, f, rfl, ha, hf⟩ := pE h
 simp only [kG, wtDs] at hl
 have la := fN (xs := a)
 have lf := fN (xs := f)
 have sa := L7 ha
 have sf := EZ hf
 have xa := zV ha
 have xf := wI hf
 refine iL ?_
 unfold g6 kB
 rw [cY, FW, bL]
 simp only [gT, zY, ae, ab, reduceCtorEq]
 rw [bL]
 simp only [gT, zY, ae, ab, reduceCtorEq]
 refine ⟨mR _ (by omega), ?_⟩
 refine cE (it := ⟨a, always⟩) a (fun x => x) (fun x => .str (pT x)) (by simp) trivial (fun x hx => ?_) ?_
 ·have := jI hx
  simp only [bV, j0 k (ha x hx) (by omega), zY, ae, ab, reduceCtorEq]
 have ej : (if a.map pT = [] then ("-" : Str) else Txt.join " ; " (a.map pT)) = iF a := by
  unfold iF
  cases a <;> simp
 rw [kW]
 simp only [D6 k (y := (" ; " : Str)) (ys := a.map pT) (by omega) (by rw [ay]; omega), ej, zY, ae, ab, reduceCtorEq]
 rw [bL]
 simp only [pD, WA, af, bj, zY, ae, ab, reduceCtorEq]
 by_cases cf : f = []
 ·subst cf
  (simp only [ck, c7, ae, zY, ae, ab, reduceCtorEq]) <;> (first | exact ⟨rfl, rfl⟩ | exact trivial | rfl)
 ·simp only [bw cf, CK, gT, zY, ae, ab, reduceCtorEq]
  have l3 : (" ! " : Str).length = 3 := cL (congrArg List.length v9)
  rw [rW (by omega)]
  refine ⟨mR _ (by omega), ?_⟩
  refine cE (it := ⟨f, always⟩) f (fun x => x) (fun x => .str (mN x)) (by simp) trivial (fun x hx => ?_) ?_
  ·have := jI hx
   simp only [bV, CK, zY, ae, ab, reduceCtorEq]
   refine QU (hf x hx) (by omega) (fun y hy => ?_) ?_
   ·simp only [bV, r6 hy, zY, ae, ab, reduceCtorEq]
   ·first | exact ⟨rfl, rfl⟩ | rfl
  rw [kW]
  have ne : f.map mN ≠ [] := by simpa using cf
  simp only [D6 k (y := (" , " : Str)) (ys := f.map mN) (by omega) (by rw [ay]; omega), if_neg ne, zY, ae, ab, reduceCtorEq]
  rw [rW (by rw [pF]; omega)]
  exact ⟨by simp only [c7, if_neg cf], rfl⟩
theorem dO (h : gM d = true) (hl : kG d ≤ 100000) : bO k [d] w = .ok (.str (dY d)) w := by
 obtain ⟨ts, rfl, ht⟩ := lO h
 have hl : wtDs ts ≤ 100000 := hl
 have la := fN (xs := ts)
 refine iL ?_
 unfold bO hY
 rw [cY, DU]
 simp only [CK, gT, zY, ae, ab, reduceCtorEq]
 refine ⟨mR _ (by omega), ?_⟩
 refine cE (it := ⟨ts, always⟩) ts (fun x => x) (fun x => .str (c7 x)) (by simp) trivial (fun x hx => ?_) ?_
 ·have := jI hx
  simp only [bV, jZ k (ht x hx) (by omega), zY, ae, ab, reduceCtorEq]
 rw [kW, jN (br (D5 ht) (by omega))]
 exact ⟨rfl, rfl⟩
theorem NJ (h : gD d = true) (hl : kG d ≤ 100000) : cV k [d] w = .ok (.str (pT d)) w := by
 obtain ⟨z, rest, rfl, hz, f, e, hf⟩ := lK h
 have hp := uU hf
 have hr : wtDs rest ≤ 100000 := by simp only [kG, wtDs] at hl; omega
 have lr := fN (xs := rest)
 have wl := fun x (hx : x ∈ rest) => jI hx
 rw [e]
 refine iL ?_
 unfold cV eV
 rw [cY, wM, bL]
 simp only [at0, pD, eI hz.ok vK, af, bj, zY, ae, ab, reduceCtorEq]
 have fin : ∀ PP : D → W → Prop, PP (.str (Txt.join " " (z :: rest.map f))) w → T (joinM (.str " ") [.lst (.str z :: (rest.map f).map D.str)] w) PP := fun PP hPP => by
  rw [show D.lst (.str z :: (rest.map f).map D.str) = .lst ((z :: rest.map f).map D.str) from rfl, jN (br (J9 hz.four fun x hx => (hp x hx).2) (by omega))]
  exact hPP
 have cut : m9 (.tup (.str z :: rest)) (some 1) none w = .ok (.tup rest) w := by
  have := Q3 (w := w) (xs := D.str z :: rest)
  simpa using this
 rcases hf with ⟨rfl, rfl, hab⟩ | ⟨hz2, rfl, _, hn⟩
 ·simp only [ck, cut, b0, CK, gT, zY, ae, ab, reduceCtorEq]
  refine ⟨mR _ (by omega), ?_⟩
  have hlot : ∀ x ∈ rest, ∃ c, iU c x = true := fun x hx => by
   obtain ⟨a, b, rfl, h1, h2⟩ := hab
   simp only [au, bg, or_false] at hx
   rcases hx with rfl | rfl
   ·exact ⟨1, h1⟩
   ·exact ⟨0, h2⟩
  refine cE (it := ⟨rest, always⟩) rest (fun x => x) (fun x => .str (qE x)) (by simp) trivial (fun x hx => ?_) ?_
  ·obtain ⟨c, hc⟩ := hlot x hx
   have := wl x hx
   obtain ⟨xs, rfl, _, hn, _⟩ := A6 hc
   have hw : wtDs xs ≤ 100000 := by simp only [kG] at this; omega
   have lx := fN (xs := xs)
   simp only [bV, FO, WA, af, bj, zY, ae, ab, reduceCtorEq]
   by_cases cx : xs = []
   ·subst cx
    simp only [ck, Bool.not_true, qE, ae, zY, ae, ab, reduceCtorEq]
   ·simp only [bw cx, Bool.not_false, CK, gT, zY, ae, ab, reduceCtorEq]
    refine ⟨mR _ (by omega), ?_⟩
    refine GD (it := ⟨xs, always⟩) rfl trivial hn (fun y hy => ?_) ?_
    ·simp only [bV, r6 (hn y hy), zY, ae, ab, reduceCtorEq]
    ·rw [jN (br (AE (c := ("," : Str).length) hn (by rw [cL (congrArg List.length xE)]; simp)) (by omega))]
     try simp only [qE, if_neg cx]
     first | exact ⟨rfl, rfl⟩ | exact ⟨trivial, trivial⟩ | trivial
  ·rw [kW]
   try simp only [at0, CK, zY, ae, ab, reduceCtorEq]
   exact ⟨mR _ (by simp; omega), fin _ ⟨rfl, rfl⟩⟩
 ·simp only [bw hz2, cut, b0, CK, gT, zY, ae, ab, reduceCtorEq]
  refine ⟨mR _ (by omega), ?_⟩
  refine GD (it := ⟨rest, always⟩) rfl trivial hn (fun y hy => ?_) ?_
  ·simp only [bV, r6 (hn y hy), zY, ae, ab, reduceCtorEq]
  ·simp only [at0, CK, zY, ae, ab, reduceCtorEq]
   exact ⟨mR _ (by simp; omega), fin _ ⟨rfl, rfl⟩⟩
theorem LI (h : cS d = true) (hl : kG d ≤ 100000) : dC k [d] w = .ok (.str (c7 d)) w := by
 obtain ⟨a, f, rfl, ha, hf⟩ := pE h
 simp only [kG, wtDs] at hl
 have la := fN (xs := a)
 have lf := fN (xs := f)
 have sa := L7 ha
 have sf := EZ hf
 have xa := zV ha
 have xf := wI hf
 have a1 : ∀ P : D → W → Prop, T (aZ (.tup [D.tup a, .tup f]) (.int 1) w) P = P (.tup f) w := fun P => by rw [show aZ (.tup [D.tup a, .tup f]) (.int 1) w = .ok (.tup f) w from rfl, b0]
 have aa : ∀ PP : D → W → Prop, PP (.str (iF a)) w → T (wW (aU (aD mS (aD aZ (aB 0) (eC (.int 0))) (a8 aC))) (bA "str" joinM (eC (.str (" ; " : Str))) (aA (aS (bK (aD aZ (aB 0) (eC (.int 0)))) [2] (aN 2) aT (aI (cV k) 1 aK (aA (aB 2) aC))) aC)) (eC (.str ("-" : Str))) [some (.tup [.tup a, .tup f]), none, none, none, none] w) PP := fun PP hPP => by
  simp only [at0, FO, WA, af, bj, zY, ae, ab, reduceCtorEq]
  by_cases ca : a = []
  ·subst ca
   simp only [ck, Bool.not_true, zY, ae, ab, reduceCtorEq]
   exact hPP
  ·simp only [bw ca, Bool.not_false, CK, at0, gT, zY, ae, ab, reduceCtorEq]
   refine ⟨mR _ (by omega), ?_⟩
   refine cE (it := ⟨a, always⟩) a (fun x => x) (fun x => .str (pT x)) (by simp) trivial (fun x hx => ?_) ?_
   ·have := jI hx
    simp only [bV, NJ k (ha x hx) (by omega), zY, ae, ab, reduceCtorEq]
   rw [kW, jN (by omega)]
   have : iF a = Txt.join " ; " (a.map pT) := by unfold iF; rw [if_neg ca]
   rw [← this]
   exact hPP
 refine iL ?_
 unfold dC eL
 rw [cY, vT, bL]
 rw [S7]
 refine aa _ ?_
 simp only [zY, ae, ab, reduceCtorEq]
 rw [bL]
 simp only [a1, pD, WA, af, bj, zY, ae, ab, reduceCtorEq]
 by_cases cf : f = []
 ·subst cf
  (simp only [ck, c7, ae, zY, ae, ab, reduceCtorEq]) <;> (first | exact ⟨rfl, rfl⟩ | exact trivial | rfl)
 ·simp only [bw cf, CK, a1, gT, zY, ae, ab, reduceCtorEq]
  have l3 : (" ! " : Str).length = 3 := cL (congrArg List.length v9)
  rw [rW (by omega)]
  refine ⟨_, rfl, ?_⟩
  rw [gT]
  refine ⟨mR f.length (by omega), ?_⟩
  refine cE (it := ⟨f, always⟩) f (fun x => x) (fun x => .str (mN x)) (by simp) trivial (fun x hx => ?_) ?_
  ·have := jI hx
   simp only [bV, CK, zY, ae, ab, reduceCtorEq]
   refine QU (hf x hx) (by omega) (fun y hy => ?_) ?_
   ·simp only [bV, r6 hy, zY, ae, ab, reduceCtorEq]
   ·first | exact ⟨rfl, rfl⟩ | rfl
  rw [kW, jN (by omega)]
  rw [rW (by rw [pF]; omega)]
  exact ⟨by simp only [c7, if_neg cf], rfl⟩
theorem IK (h : gM d = true) (hl : kG d ≤ 100000) : bX k [d] w = .ok (.str (dY d)) w := by
 obtain ⟨ts, rfl, ht⟩ := lO h
 have hl : wtDs ts ≤ 100000 := hl
 have la := fN (xs := ts)
 refine iL ?_
 unfold bX dP
 rw [cY, tA]
 simp only [CK, gT, zY, ae, ab, reduceCtorEq]
 refine ⟨mR _ (by omega), ?_⟩
 refine cE (it := ⟨ts, always⟩) ts (fun x => x) (fun x => .str (c7 x)) (by simp) trivial (fun x hx => ?_) ?_
 ·have := jI hx
  simp only [bV, LI k (ht x hx) (by omega), zY, ae, ab, reduceCtorEq]
 rw [kW, jN (br (D5 ht) (by omega))]
 exact ⟨rfl, rfl⟩
end
theorem zD {S : List Nat} : ∀ (l : List Nat) (k : Nat) (acc : List Nat) (p : List Nat) (c : Nat), p ∈ TL.spl S k acc l → c ∈ p → c ∈ acc ∨ c ∈ l
 | [], k, acc, p, c, hp, hc => by
  rw [TL.spl_nil, bh] at hp
  exact .inl (hp ▸ hc)
 | a :: r, k + 1, acc, p, c, hp, hc => by
  have hp : p ∈ TL.spl S k acc r := hp
  rcases zD r k acc p c hp hc with h | h
  ·exact .inl h
  ·exact .inr (av _ h)
 | a :: r, 0, acc, p, c, hp, hc => by
  by_cases h : TL.pre S (a :: r) = true
  ·rw [TL.spl_hit h] at hp
   rcases au.mp hp with rfl | hp
   ·exact .inl hc
   ·rcases zD r _ [] p c hp hc with h | h
    ·cases h
    ·exact .inr (av _ h)
  ·rw [TL.spl_miss (by simpa using h)] at hp
   rcases zD r 0 _ p c hp hc with h | h
   ·rcases bq.mp h with h | h
    ·exact .inl h
    ·rw [bh.mp h]
     exact .inr (aq ..)
   ·exact .inr (av _ h)
theorem zO {S : List Nat} : ∀ (l : List Nat) (k : Nat) (acc : List Nat), ((TL.spl S k acc l).map List.length).sum ≤ acc.length + l.length ∧ (TL.spl S k acc l).length ≤ l.length + 1 ∧ TL.spl S k acc l ≠ []
 | [], k, acc => by
  rw [TL.spl_nil]
  simp
 | a :: r, k + 1, acc => by
  have h : TL.spl S (k + 1) acc (a :: r) = TL.spl S k acc r := rfl
  obtain ⟨h1, h2, h3⟩ := zO (S := S) r k acc
  rw [h, List.length_cons]
  exact ⟨by omega, by omega, h3⟩
 | a :: r, 0, acc => by
  by_cases h : TL.pre S (a :: r) = true
  ·rw [TL.spl_hit h]
   obtain ⟨h1, h2, h3⟩ := zO (S := S) r (S.length - 1) []
   simp only [List.map_cons, List.sum_cons, List.length_cons, List.length_nil] at *
   exact ⟨by omega, by omega, by simp⟩
  ·rw [TL.spl_miss (by simpa using h)]
   obtain ⟨h1, h2, h3⟩ := zO (S := S) r 0 (acc ++ [a])
   rw [bx, List.length_singleton] at h1
   rw [List.length_cons]
   exact ⟨by omega, by omega, h3⟩
structure Sep (y : Str) : Prop where
 ne : TL.tl y ≠ []
 plain : y.cps.all (· < 256) = true
theorem Sep.some {y : Str} (h : Sep y) : (y.length == 0) = false := by
 have := List.length_pos_iff.mpr h.ne
 rw [← TL.len_tl] at this
 simp
 omega
structure Parts (x : Str) (ps : List Str) : Prop where
 mem : ∀ p ∈ ps, ∀ c ∈ p.cps.toList, c ∈ x.cps.toList
 sum : (ps.map (·.length)).sum ≤ x.length
 many : ps.length ≤ x.length + 1
 ne : ps ≠ []
theorem dW {x y : Str} (h : Sep y) : Parts x (Txt.split x y) := by
 have e := TL.split_spl x y h.ne (TL.kind_ok h.plain)
 obtain ⟨h1, h2, h3⟩ := zO (S := TL.tl y) (TL.tl x) 0 []
 rw [← e] at h1 h2 h3
 rw [List.length_nil, ← TL.len_tl] at h1
 rw [ay, ← TL.len_tl] at h2
 refine ⟨fun p hp c hc => ?_, ?_, h2, fun z => h3 (by rw [z]; rfl)⟩
 ·have hp : TL.tl p ∈ TL.spl (TL.tl y) 0 [] (TL.tl x) := by
   rw [← e]
   exact List.mem_map_of_mem hp
  rcases zD _ _ _ _ c hp hc with h | h
  ·cases h
  ·exact h
 ·have : (Txt.split x y).map (·.length) = ((Txt.split x y).map TL.tl).map List.length := by
   rw [List.map_map]
   exact List.map_congr_left fun p _ => TL.len_tl p
  rw [this]
  omega
theorem P8 : ∀ {ps : List Str} {p : Str}, p ∈ ps → p.length ≤ (ps.map (·.length)).sum
 | q :: ps, p, h => by
  rw [List.map_cons, List.sum_cons]
  rcases au.mp h with rfl | h
  ·omega
  ·have := P8 h
   omega
theorem Parts.le {x : Str} {ps : List Str} (h : Parts x ps) {p : Str} (hp : p ∈ ps) : p.length ≤ x.length := br (P8 hp) h.sum
theorem UY {x : Str} : PyData.strOk x = true ↔ ∀ c ∈ x.cps.toList, c < 0x110000 := by
 unfold PyData.strOk
 rw [Array.all_eq_true_iff_forall_mem]
 constructor
 ·intro h c hc
  have := h c (by simpa using hc)
  simpa using this
 ·intro h c hc
  have := h c (by simpa using hc)
  simpa using this
theorem z0 {x p : Str} (h : ∀ c ∈ p.cps.toList, c ∈ x.cps.toList) (hx : PyData.strOk x = true) : PyData.strOk p = true := UY.mpr fun c hc => UY.mp hx c (h c hc)
theorem Parts.ok {x : Str} {ps : List Str} (h : Parts x ps) (hx : PyData.strOk x = true) {p : Str} (hp : p ∈ ps) : PyData.strOk p = true := z0 (h.mem p hp) hx
theorem wY : Sep " " := ⟨by decide +kernel, by decide +kernel⟩
theorem aBo : Sep "\n" := ⟨by decide +kernel, by decide +kernel⟩
theorem HS : Sep "," := ⟨by decide +kernel, by decide +kernel⟩
theorem GU : Sep " ; " := ⟨by decide +kernel, by decide +kernel⟩
theorem HM : Sep " , " := ⟨by decide +kernel, by decide +kernel⟩
theorem GK : Sep " ! " := ⟨by decide +kernel, by decide +kernel⟩
theorem QX {S : List Nat} : ∀ (l : List Nat) (acc p q : List Nat), TL.par S acc l = some (p, q) → (∀ c ∈ p, c ∈ acc ∨ c ∈ l) ∧ (∀ c ∈ q, c ∈ l) ∧ p.length + q.length ≤ acc.length + l.length
 | [], acc, p, q, h => by cases h
 | a :: r, acc, p, q, h => by
  by_cases c : TL.pre S (a :: r) = true
  ·rw [TL.par_hit c] at h
   cases h
   refine ⟨fun c hc => .inl hc, fun c hc => List.mem_of_mem_drop hc, ?_⟩
   rw [List.length_drop]
   omega
  ·rw [TL.par_miss (by simpa using c)] at h
   obtain ⟨h1, h2, h3⟩ := QX r _ p q h
   refine ⟨fun c hc => ?_, fun c hc => av _ (h2 c hc), ?_⟩
   ·rcases h1 c hc with h | h
    ·rcases bq.mp h with h | h
     ·exact .inl h
     ·rw [bh.mp h]
      exact .inr (aq ..)
    ·exact .inr (av _ h)
   ·rw [bx, List.length_singleton] at h3
    rw [List.length_cons]
    omega
structure aDZ (x : Str) (p : Str × Str × Str) : Prop where
 m1 : ∀ c ∈ p.1.cps.toList, c ∈ x.cps.toList
 m3 : ∀ c ∈ p.2.2.cps.toList, c ∈ x.cps.toList
 len : p.1.length ≤ x.length ∧ p.2.2.length ≤ x.length
theorem sN {x y : Str} (h : Sep y) : aDZ x (Txt.partition x y) ∧ ((Txt.partition x y).2.1 = y ∨ (Txt.partition x y).2.1 = Str.empty) := by
 rw [TL.partition_par x y h.ne]
 split
 ·rename_i a b e
  obtain ⟨h1, h2, h3⟩ := QX _ _ _ _ e
  rw [List.length_nil, ← TL.len_tl] at h3
  refine ⟨⟨fun c hc => ?_, fun c hc => h2 c hc, ?_, ?_⟩, .inl rfl⟩
  ·rcases h1 c hc with h | h
   ·cases h
   ·exact h
  ·show (⟨a.toArray⟩ : Str).length ≤ _
   rw [TL.len_tl, TL.tl_mk]
   omega
  ·show (⟨b.toArray⟩ : Str).length ≤ _
   rw [TL.len_tl, TL.tl_mk]
   omega
 ·refine ⟨⟨fun c hc => hc, fun c hc => ?_, az _, Nat.zero_le _⟩, .inr rfl⟩
  cases hc
def iS {α : Type} : List (Option α) → Option (List α)
 | [] => some []
 | none :: _ => none
 | some a :: r => (iS r).map (a :: ·)
theorem vG {α : Type} : ∀ {xs : List α}, iS (xs.map some) = some xs
 | [] => rfl
 | x :: xs => by rw [List.map_cons, iS, vG]; rfl
theorem lY {α : Type} : ∀ {os : List (Option α)} {xs : List α}, iS os = some xs → os = xs.map some
 | [], xs, h => by cases h; rfl
 | none :: r, xs, h => by cases h
 | some a :: r, xs, h => by
  rw [iS, aj] at h
  obtain ⟨ys, e, rfl⟩ := h
  rw [lY e]
  rfl
theorem oN {α : Type} : ∀ {os : List (Option α)}, iS os = none ↔ os.any (·.isNone) = true
 | [] => by simp [iS]
 | none :: r => by simp [iS]
 | some a :: r => by
  rw [iS, Option.map_eq_none_iff, oN]
  simp
def zC : Option Int → D
 | none => .non
 | some i => .int i
def pJ : Option (List Int) → D
 | none => .non
 | some ns => .tup (ns.map D.int)
def m2 (ws : List Str) : Option (List Int) := iS (ws.map n6)
def MJ (x : Str) : Option (List Int) := if x = ("-" : Str) then some [] else m2 (Txt.split x ",")
def YY : List Str → D
 | [] => .tup []
 | z :: ws => if z = ("tear" : Str) then .tup (.str z :: ws.map fun y => pJ (MJ y)) else (match m2 ws with
  | none => .tup []
  | some ns => .tup (.str z :: ns.map D.int))
def KS (x : Str) : D := YY (Txt.split x " ")
def rB (x : Str) : List D := (Txt.split x " , ").map fun y => pJ (m2 (Txt.split y " "))
def rK (x : Str) : List D := if x = ("-" : Str) then [] else (Txt.split x " ; ").map KS
def xR (x : Str) : D := .tup [.tup (rK (Txt.partition x " ! ").1), .tup (if (Txt.partition x " ! ").2.1 = ("" : Str) then [] else rB (Txt.partition x " ! ").2.2)]
def QP (x : Str) : D := if cS (xR x) = true then xR x else .non
def B2 : Option Int → PyData
 | none => .none
 | some i => .int i
theorem MX (f : Nat → Option PyData) : ∀ os : List (Option Int), D.pysR f (os.map zC) = some (os.map B2)
 | [] => rfl
 | o :: os => by
  have := MX f os
  cases o <;> simp [D.pysR, D.eS, zC, B2, this]
theorem LX : ∀ os : List (Option Int), PyData.canLayAll0 (os.map B2) = true ∧ PyData.depthAll (os.map B2) ≤ 1
 | [] => ⟨rfl, by simp [PyData.depthAll]⟩
 | o :: os => by
  obtain ⟨h1, h2⟩ := LX os
  cases o
  ·exact ⟨by simp [PyData.canLayAll0, PyData.canLay0, B2, h1], by simp only [List.map_cons, B2, PyData.depthAll, PyData.depth]; omega⟩
  ·exact ⟨by simp [PyData.canLayAll0, PyData.canLay0, B2, h1], by simp only [List.map_cons, B2, PyData.depthAll, PyData.depth]; omega⟩
section
variable (k : Sx.a6)
variable {n l : Nat} {w w' w0 : W} {P : D → W → Prop} {PF : Fl → W → Prop} {d : D}
theorem R9 {os : List (Option Int)} : inD .non (.tup (os.map zC)) w = some (os.any (·.isNone)) := by
 show tI .non (.tup (os.map zC)) w = _
 unfold tI
 have e1 : D.py w .non = some .none := rfl
 have e2 : D.py w (.tup (os.map zC)) = some (.tuple (os.map B2)) := by
  unfold D.py D.eS
  rw [MX]
  rfl
 have l1 : SeqAt.shaped .none = true := by simp [SeqAt.shaped, PyData.canLay0, PyData.depth]
 have l2 : SeqAt.shaped (.tuple (os.map B2)) = true := by
  obtain ⟨h1, h2⟩ := LX os
  unfold SeqAt.shaped
  simp [PyData.canLay0, PyData.depth, h1]
  omega
 rw [e1, e2]
 simp only [l1, l2, and_self, ae]
 congr 1
 rw [List.any_map]
 congr 1
 funext o
 cases o <;> simp [B2, PyData.eqv]
theorem aAN {m : ME} {σ : Sg} {PI : kP → W → Prop} : T (WO m σ w) PI = T (m σ w) fun d w1 => T (WS d w1) PI := by unfold WO; rw [bC]
theorem aBl {x : Str} {PI : kP → W → Prop} : T (WS (.str x) w) PI = PI ⟨l7 x, always⟩ w := by unfold T; rfl
theorem aCM {x : Str} (h : x.length ≤ 16000000) : T (cU [.str x] w) P = P (.int x.length) w := by
 have e : BK (.str x) w = some x.length := by
  unfold BK
  simp only []
  rw [if_pos (by rw [sizeLine_eq]; omega)]
 rw [QC, e]
 simp
theorem oB {a b : Str} (hb : Sep b) (ha : a.length ≤ 16000000) : T (splitM (.str a) [.str b] w) P = P (.lst ((Txt.split a b).map D.str)) w := by
 have : splitM (.str a) [.str b] w = .ok (.lst ((Txt.split a b).map D.str)) w := by
  simp only [splitM]
  rw [if_pos ⟨hb.some, by rw [sizeLine_eq]; omega⟩]
 rw [this, b0]
theorem YN {a b : Str} (hb : Sep b) (ha : a.length ≤ 16000000) : T (BF (.str a) [.str b] w) P = P (.tup [.str (Txt.partition a b).1, .str (Txt.partition a b).2.1, .str (Txt.partition a b).2.2]) w := by
 have : BF (.str a) [.str b] w = .ok (.tup [.str (Txt.partition a b).1, .str (Txt.partition a b).2.1, .str (Txt.partition a b).2.2]) w := by
  simp only [BF]
  rw [if_pos ⟨hb.some, by rw [sizeLine_eq]; omega⟩]
 rw [this, b0]
theorem M0 {xs : List D} {PB : Bool → W → Prop} : T (eN (.tup xs) w) PB = PB (!xs.isEmpty) w := by unfold T; rfl
theorem jV {x : Str} (hx : PyData.strOk x = true) (hl : x.length ≤ 1000000) : gQ k [.str x] w = .ok (zC (n6 x)) w := by
 refine iL ?_
 unfold gQ kA
 rw [cY, IJ, bL]
 have ls : ∀ (PP : D → W → Prop) (w : W), T (cU [.str x] w) PP = PP (.int x.length) w := fun PP w => aCM (by omega)
 by_cases c1 : 1 ≤ x.length ∧ x.length ≤ 3
 case neg =>
  have en : n6 x = none := by
   unfold n6
   rw [if_neg fun h => c1 ⟨h.1, h.2.1⟩]
  rw [en]
  by_cases c2 : 1 ≤ x.length
  ·have d1 : decide ((1 : Int) ≤ (x.length : Nat)) = true := by rw [ai]; omega
   have d2 : decide ((x.length : Nat) ≤ (3 : Int)) = false := by rw [decide_eq_false_iff_not]; omega
   simp only [ls, d1, d2, Bool.not_true, Bool.not_false, zY, ae, ab, reduceCtorEq]
   (first | exact ⟨rfl, rfl⟩ | rfl | exact trivial)
  ·have d1 : decide ((1 : Int) ≤ (x.length : Nat)) = false := by rw [decide_eq_false_iff_not]; omega
   simp only [ls, d1, Bool.not_true, Bool.not_false, zY, ae, ab, reduceCtorEq]
   (first | exact ⟨rfl, rfl⟩ | rfl | exact trivial)
 have d1 : decide ((1 : Int) ≤ (x.length : Nat)) = true := by rw [ai]; omega
 have d2 : decide ((x.length : Nat) ≤ (3 : Int)) = true := by rw [ai]; omega
 have ld : x.cps.toList.length ≤ 3 := by rw [← TL.len_tl]; exact c1.2
 simp only [ls, aAN, aBl, d1, d2, Bool.not_true, zY, ae, ab, reduceCtorEq]
 refine ⟨mR _ (by rw [l7, ay]; omega), ?_⟩
 refine cE (it := ⟨l7 x, always⟩) x.cps.toList (fun c => D.str ⟨#[c]⟩) (fun c => D.bl (B1 c)) rfl trivial (fun c hc => ?_) ?_
 ·simp only [bV, aAQ, ZO, zY, ae, ab, reduceCtorEq]
 rw [tQ x.cps.toList B1]
 cases hd : x.cps.toList.all B1 with
 | false =>
  have en : n6 x = none := by
   unfold n6
   rw [if_neg fun h => by rw [hd] at h; exact absurd h.2.2 (by simp)]
  rw [en]
  simp only [Bool.not_false, zY, ae, ab, reduceCtorEq]
  (first | exact ⟨rfl, rfl⟩ | rfl | exact trivial)
 | true =>
 obtain ⟨i, ei, i0, i1⟩ := JJ c1.1 c1.2 hd
 have nk := WR i0 i1
 have en : n6 x = if p8 i = x then some i else none := by
  unfold n6
  rw [if_pos ⟨c1.1, c1.2, hd⟩, ei]
 have ti : ∀ (PP : D → W → Prop) (w : W), T (vS [.str x] w) PP = PP (.int i) w := fun PP w => by
  have : vS [.str x] w = .ok (.int i) w := by
   simp only [vS, ei, if_pos (show x.length ≤ 640 by omega)]
  rw [this, b0]
 have sk : PyData.strOk (p8 i) = true := UH fun c hc => by have := nk.NF c hc; omega
 have se : ∀ w, zQ (.str (p8 i)) (.str x) w = some (decide (p8 i = x)) := fun w => eI sk hx
 have ts : ∀ (PP : D → W → Prop) (w : W), T (mI [.int i] w) PP = PP (.str (p8 i)) w := fun PP w => U9 (by omega)
 simp only [Bool.not_true, zY, ae, ab, reduceCtorEq]
 try rw [bL]
 simp only [ti, ts, Y6 (se _), zY, ae, ab, reduceCtorEq]
 rw [en]
 by_cases c : p8 i = x
 ·simp only [decide_eq_true c, if_pos c, ti, zC, zY, ae, ab, reduceCtorEq]
 ·simp only [bw c, if_neg c, zC, zY, ae, ab, reduceCtorEq]
theorem fS {ws : List Str} (hw : ∀ x ∈ ws, PyData.strOk x = true ∧ x.length ≤ 1000000) (hl : ws.length ≤ 1000000) : bN k [.lst (ws.map D.str)] w = .ok (pJ (m2 ws)) w := by
 refine iL ?_
 unfold bN iT
 rw [cY, DS, bL]
 simp only [uB, zY, ae, ab, reduceCtorEq]
 refine ⟨mR _ (by rw [ay]; omega), ?_⟩
 refine cE (it := ⟨ws.map D.str, always⟩) ws D.str (fun x => zC (n6 x)) rfl trivial (fun x hx => ?_) ?_
 ·simp only [bV, jV k (hw x hx).1 (hw x hx).2, zY, ae, ab, reduceCtorEq]
 have em : ws.map (fun x => zC (n6 x)) = (ws.map n6).map zC := by rw [List.map_map]; rfl
 rw [em]
 simp only [D1, aDC, R9, af, bj, zY, ae, ab, reduceCtorEq]
 unfold m2
 cases h : iS (ws.map n6) with
 | none =>
  rw [oN.mp h]
  simp only [pJ, zY, ae, ab, reduceCtorEq]
 | some ns =>
  have : ((ws.map n6).any (·.isNone)) = false := by
   cases hb : (ws.map n6).any (·.isNone) with
   | false => rfl
   | true => rw [oN.mpr hb] at h; cases h
  rw [this, lY h]
  simp only [pJ, List.map_map, Function.comp_def, zC, zY, ae, ab, reduceCtorEq]
theorem sD {x y : Str} (hy : Sep y) (hx : PyData.strOk x = true) (hl : x.length ≤ 900000) : bN k [.lst ((Txt.split x y).map D.str)] w = .ok (pJ (m2 (Txt.split x y))) w := by
 have p := dW (x := x) hy
 have := p.many
 exact fS k (fun z hz => ⟨p.ok hx hz, by have := p.le hz; omega⟩) (by omega)
theorem Q6 : PyData.strOk ("-" : Str) = true := by decide +kernel
theorem NN : PyData.strOk ("" : Str) = true := by decide +kernel
theorem jY {x : Str} (hx : PyData.strOk x = true) (hl : x.length ≤ 900000) : hE k [.str x] w = .ok (pJ (MJ x)) w := by
 refine iL ?_
 unfold hE kF
 rw [cY, IG]
 simp only [pD, eI hx Q6, af, bj, zY, ae, ab, reduceCtorEq]
 unfold MJ
 by_cases c : x = ("-" : Str)
 ·simp only [decide_eq_true c, if_pos c, pJ, List.map_nil, zY, ae, ab, reduceCtorEq]
 ·simp only [bw c, if_neg c, CK, oB HS (show x.length ≤ 16000000 by omega), sD k HS hx hl, zY, ae, ab, reduceCtorEq]
theorem X6 {m : Nat} {r : IV} {xs : List D} {σ : Sg} {PS : Sg → W → Prop} (h1 : m ≤ xs.length) (h2 : xs.length ≤ 1000000) : T (wD m r (.lst xs) σ w) PS = T (r (xs.take m ++ [.lst (xs.drop m)]) σ w) PS := by
 unfold wD
 simp only []
 rw [if_pos ⟨h1, mR _ h2⟩]
theorem oH {x : Str} (hx : PyData.strOk x = true) (hl : x.length ≤ 900000) : jB k [.str x] w = .ok (KS x) w := by
 have p := dW (x := x) wY
 have pm := p.many
 refine iL ?_
 unfold jB oD
 rw [cY, N3, bL]
 simp only [CK, oB wY (show x.length ≤ 16000000 by omega), zY, ae, ab, reduceCtorEq]
 unfold KS
 obtain ⟨z, ws, e⟩ : ∃ z ws, Txt.split x " " = z :: ws := List.exists_cons_of_ne_nil p.ne
 have hz : PyData.strOk z = true := p.ok hx (by rw [e]; exact aq ..)
 have hws : ∀ y ∈ ws, PyData.strOk y = true ∧ y.length ≤ 900000 := fun y hy => by
  have m : y ∈ Txt.split x " " := by rw [e]; exact av _ hy
  exact ⟨p.ok hx m, by have := p.le m; omega⟩
 rw [e, List.length_cons] at pm
 rw [e, List.map_cons, X6 (by simp) (by rw [List.length_cons, ay]; omega)]
 simp only [List.take_succ_cons, List.take_zero, List.drop_succ_cons, List.drop_zero, List.cons_append, List.nil_append, zY, ae, ab, reduceCtorEq]
 rw [bL]
 simp only [pD, eI hz vK, af, bj, zY, ae, ab, reduceCtorEq]
 have nn : ∀ w : W, bN k [.lst (ws.map D.str)] w = .ok (pJ (m2 ws)) w := fun w => fS k (fun y hy => ⟨(hws y hy).1, by have := (hws y hy).2; omega⟩) (by omega)
 unfold YY
 by_cases c : z = ("tear" : Str)
 ·simp only [decide_eq_true c, if_pos c, uB, zY, ae, ab, reduceCtorEq]
  refine ⟨mR _ (by rw [ay]; omega), ?_⟩
  refine cE (it := ⟨ws.map D.str, always⟩) ws D.str (fun y => pJ (MJ y)) rfl trivial (fun y hy => ?_) ?_
  ·simp only [bV, jY k (hws y hy).1 (hws y hy).2, zY, ae, ab, reduceCtorEq]
  try simp only [D1, AG, zY, ae, ab, reduceCtorEq]
  exact ⟨mR _ (by rw [ay]; omega), rfl⟩
 ·simp only [bw c, if_neg c, nn, LH, zY, ae, ab, reduceCtorEq]
  cases h : m2 ws with
  | none =>
   simp only [pJ, D.isNon, Bool.not_true, zY, ae, ab, reduceCtorEq]
  | some ns =>
   have hn : ws.length = ns.length := by
    have := lY h
    have := congrArg List.length this
    rw [ay, ay] at this
    exact this
   simp only [pJ, D.isNon, Bool.not_false, nn, h, zY, ae, ab, reduceCtorEq]
   cases ns with
   | nil =>
    simp only [List.map_nil, zY, ae, ab, reduceCtorEq]
    simp [M0, AG]
   | cons i r =>
    simp only [List.map_cons, zY, ae, ab, reduceCtorEq]
    simp [M0]
    try exact mR _ (by simp only [List.length_cons] at hn; omega)
end
section
variable (k : Sx.a6)
variable {n l : Nat} {w w' w0 : W} {P : D → W → Prop} {PF : Fl → W → Prop} {d : D}
theorem P1 {o : Option (List Int)} {m : Nat} (h : ∀ ns, o = some ns → ns.length ≤ 70000 ∧ ∀ i ∈ ns, i ≤ 999) : kR (m + 2) (pJ o) = true := by
 cases o with
 | none => rfl
 | some ns =>
  have := h ns rfl
  simp only [pJ, kR, ag, ao, ai, ay]
  refine ⟨fun y hy => ?_, this.1⟩
  obtain ⟨i, hi, rfl⟩ := bt.mp hy
  have := this.2 i hi
  simp only [kR, ai]
  omega
theorem xA {ws : List Str} {ns : List Int} (h : m2 ws = some ns) : ns.length = ws.length := by
 have := congrArg List.length (lY h)
 rw [ay, ay] at this
 exact this.symm
theorem A9 {ws : List Str} {ns : List Int} (h : m2 ws = some ns) : ∀ i ∈ ns, i ≤ 999 := fun i hi => by
 have m : some i ∈ ws.map n6 := by
  rw [lY h]
  exact List.mem_map_of_mem hi
 obtain ⟨x, _, e⟩ := bt.mp m
 exact (XF e).2
theorem MU {x : Str} {ns : List Int} (h : MJ x = some ns) : ns.length ≤ x.length + 1 ∧ ∀ i ∈ ns, i ≤ 999 := by
 unfold MJ at h
 split at h
 ·cases h
  exact ⟨Nat.zero_le _, by simp⟩
 ·rw [xA h]
  exact ⟨(dW (x := x) HS).many, A9 h⟩
theorem aA2 {x : Str} (hx : PyData.strOk x = true) (hl : x.length ≤ 60000) : kR 4 (KS x) = true := by
 have p := dW (x := x) wY
 have pm := p.many
 unfold KS
 obtain ⟨z, ws, e⟩ : ∃ z ws, Txt.split x " " = z :: ws := List.exists_cons_of_ne_nil p.ne
 have hz : PyData.strOk z = true := p.ok hx (by rw [e]; exact aq ..)
 rw [e, List.length_cons] at pm
 rw [e]
 unfold YY
 simp only
 have ze : kR 3 (.str z) = true := hz
 split
 ·simp only [kR, ag, ao, ai, List.length_cons, ay]
  refine ⟨fun y hy => ?_, by omega⟩
  rcases au.mp hy with rfl | hy
  ·exact ze
  ·obtain ⟨u, hu, rfl⟩ := bt.mp hy
   have lu := p.le (p := u) (by rw [e]; exact av _ hu)
   exact P1 (m := 1) fun ns hn => ⟨by have := (MU hn).1; omega, (MU hn).2⟩
 ·split
  ·rfl
  ·rename_i ns hn
   have := xA hn
   simp only [kR, ag, ao, ai, List.length_cons, ay]
   refine ⟨fun y hy => ?_, by omega⟩
   rcases au.mp hy with rfl | hy
   ·exact ze
   ·obtain ⟨u, hu, rfl⟩ := bt.mp hy
    have := A9 hn u hu
    simp only [kR, ai]
    omega
theorem YW {x : Str} (hx : PyData.strOk x = true) (hl : x.length ≤ 60000) : kR 5 (.tup (rK x)) = true := by
 unfold rK
 split
 ·rfl
 ·have p := dW (x := x) GU
  have pm := p.many
  simp only [kR, ag, ao, ai, ay]
  refine ⟨fun y hy => ?_, by omega⟩
  obtain ⟨u, hu, rfl⟩ := bt.mp hy
  exact aA2 (p.ok hx hu) (by have := p.le hu; omega)
theorem V9 {x : Str} (hx : PyData.strOk x = true) (hl : x.length ≤ 60000) : kR 5 (.tup (rB x)) = true := by
 unfold rB
 have p := dW (x := x) HM
 have pm := p.many
 simp only [kR, ag, ao, ai, ay]
 refine ⟨fun y hy => ?_, by omega⟩
 obtain ⟨u, hu, rfl⟩ := bt.mp hy
 have := p.le hu
 exact P1 (m := 2) fun ns hn => ⟨by
  rw [xA hn]
  have := (dW (x := u) wY).many
  omega, A9 hn⟩
theorem aBy : (Str.empty : Str) = ("" : Str) := rfl
theorem aAO : (" ! " : Str) ≠ ("" : Str) := by decide +kernel
theorem exc_ok : PyData.strOk (" ! " : Str) = true := by decide +kernel
theorem YQ {x : Str} (hx : PyData.strOk x = true) (hl : x.length ≤ 60000) : kR 6 (xR x) = true := by
 obtain ⟨c, _⟩ := sN (x := x) GK
 have h1 := c.len
 have o1 := YW (z0 c.m1 hx) (by omega)
 have o2 := V9 (z0 c.m3 hx) (by omega)
 unfold xR
 simp only [kR, ag, ao, ai, List.length_cons, List.length_nil]
 refine ⟨fun y hy => ?_, by omega⟩
 simp only [au, bg, or_false] at hy
 rcases hy with rfl | rfl
 ·exact o1
 ·split
  ·rfl
  ·exact o2
theorem oF {x : Str} (hx : PyData.strOk x = true) (hl : x.length ≤ 60000) : i6 k [.str x] w = .ok (QP x) w := by
 obtain ⟨c, cm⟩ := sN (x := x) GK
 have ob : kR (2 + 4) (xR x) = true := YQ hx hl
 unfold QP
 unfold xR at ob ⊢
 obtain ⟨⟨u, v, y⟩, ep⟩ : ∃ p, p = Txt.partition x " ! " := ⟨_, rfl⟩
 rw [← ep] at c cm ob ⊢
 simp only at c cm ob ⊢
 have h1 := c.len
 simp only at h1
 have hu : PyData.strOk u = true := z0 c.m1 hx
 have hy : PyData.strOk y = true := z0 c.m3 hx
 have hv : PyData.strOk v = true := by
  rcases cm with rfl | rfl
  ·exact exc_ok
  ·exact NN
 clear c cm
 refine iL ?_
 unfold i6 nX
 rw [cY, NQ, bL]
 simp only [CK, YN GK (show x.length ≤ 16000000 by omega), ← ep, zY, ae, ab, reduceCtorEq]
 rw [bL]
 have aa : ∀ (PP : D → W → Prop) (s3 s4 s5 s6 : Option D), PP (.tup (rK u)) w → T (wW (aU (aD dD (aB 1) (eC (.str ("-" : Str))))) (a8 aC) (aL bW (aA (aS (bK (bA "str" splitM (aB 1) (aA (eC (.str (" ; " : Str))) aC))) [6] (aN 6) aT (aI (jB k) 1 aK (aA (aB 6) aC))) aC)) [some (.str x), some (.str u), some (.str v), s3, s4, s5, s6] w) PP := fun PP s3 s4 s5 s6 hPP => by
  simp only [pD, eI hu Q6, af, bj, zY, ae, ab, reduceCtorEq]
  unfold rK at hPP
  by_cases cu : u = ("-" : Str)
  ·rw [if_pos cu] at hPP
   simp only [decide_eq_true cu, zY, ae, ab, reduceCtorEq]
   exact hPP
  ·rw [if_neg cu] at hPP
   have p := dW (x := u) GU
   have pm := p.many
   simp only [bw cu, CK, oB GU (show u.length ≤ 16000000 by omega), uB, zY, ae, ab, reduceCtorEq]
   refine ⟨mR _ (by rw [ay]; omega), ?_⟩
   refine cE (it := ⟨(Txt.split u " ; ").map D.str, always⟩) (Txt.split u " ; ") D.str KS rfl trivial (fun z hz => ?_) ?_
   ·simp only [bV, oH k (p.ok hu hz) (show z.length ≤ 900000 by have := p.le hz; omega), zY, ae, ab, reduceCtorEq]
   simp only [D1]
   exact hPP
 rw [S7]
 refine aa _ _ _ _ _ ?_
 simp only [zY, ae, ab, reduceCtorEq]
 rw [bL]
 simp only [zY, ae, ab, reduceCtorEq]
 rw [bL]
 have ff : ∀ (PF : Fl → W → Prop), PF (.nx [some (.str x), some (.str u), some (.str v), some (.str y), some (.tup (rK u)), some (.tup (if v = ("" : Str) then [] else rB y)), none]) w → T (cO (aU (aD mS (aB 2) (eC (.str ("" : Str))))) (aO (aL bW (aA (aS (bK (bA "str" splitM (aB 3) (aA (eC (.str (" , " : Str))) aC))) [6] (aN 6) aT (aI (bN k) 1 aK (aA (bA "str" splitM (aB 6) (aA (eC (.str (" " : Str))) aC)) aC))) aC)) (aN 5)) aV [some (.str x), some (.str u), some (.str v), some (.str y), some (.tup (rK u)), some (.tup []), none] w) PF := fun PF hPF => by
  simp only [FO, eI hv NN, af, bj, zY, ae, ab, reduceCtorEq]
  by_cases cv : v = ("" : Str)
  ·rw [if_pos cv] at hPF
   simp only [decide_eq_true cv, Bool.not_true, zY, ae, ab, reduceCtorEq]
   exact hPF
  ·rw [if_neg cv] at hPF
   have p := dW (x := y) HM
   have pm := p.many
   simp only [bw cv, Bool.not_false, CK, oB HM (show y.length ≤ 16000000 by omega), uB, zY, ae, ab, reduceCtorEq]
   refine ⟨mR _ (by rw [ay]; omega), ?_⟩
   refine cE (it := ⟨(Txt.split y " , ").map D.str, always⟩) (Txt.split y " , ") D.str (fun z => pJ (m2 (Txt.split z " "))) rfl trivial (fun z hz => ?_) ?_
   ·have lz := p.le hz
    simp only [bV, CK, oB wY (show z.length ≤ 16000000 by omega), sD k wY (p.ok hy hz) (show z.length ≤ 900000 by omega), zY, ae, ab, reduceCtorEq]
   simp only [D1, zY, ae, ab, reduceCtorEq]
   exact hPF
 refine ff _ ?_
 have et := fun w : W => S4 k (w := w) ob
 simp only [et, zY, ae, ab, reduceCtorEq]
 by_cases c : cS (.tup [.tup (rK u), .tup (if v = ("" : Str) then [] else rB y)]) = true
 ·rw [if_pos c, c]
  (try simp only [zY, ae, ab, reduceCtorEq]) <;> (first | exact ⟨rfl, rfl⟩ | rfl | exact trivial)
 ·have c' : cS (.tup [.tup (rK u), .tup (if v = ("" : Str) then [] else rB y)]) = false := by simpa using c
  rw [if_neg c, c']
  (try simp only [zY, ae, ab, reduceCtorEq]) <;> (first | exact ⟨rfl, rfl⟩ | rfl | exact trivial)
theorem wH : ∀ {xs : List D}, (∀ x ∈ xs, iW x = true) → m2 (xs.map kO) = some (intsOf xs) ∧ (intsOf xs).map D.int = xs := fun {xs} h => by
 have e : (xs.map kO).map n6 = (intsOf xs).map some := by
  induction xs with
  | nil => rfl
  | cons x xs ih =>
   obtain ⟨i, rfl, h0, h1⟩ := A3 (h x (aq ..))
   have := ih fun z hz => h z (av _ hz)
   simp only [List.map_cons, intsOf, this, kO, TU h0 h1]
 unfold m2
 rw [e, vG]
 exact ⟨rfl, (wU (by simpa using h)).symm⟩
theorem XN : TL.tl ("," : Str) = 44 :: [] := xE
theorem LC {c0 : Nat} (h : iU c0 d = true) : pJ (MJ (qE d)) = d := by
 obtain ⟨xs, rfl, _, hn, _⟩ := A6 h
 obtain ⟨b1, b2⟩ := wH hn
 unfold qE
 simp only
 split
 ·rename_i e
  subst e
  rfl
 ·rename_i ne
  have ch : ∀ c ∈ (Txt.join "," (xs.map kO)).cps.toList, c = 44 ∨ 48 ≤ c ∧ c ≤ 57 := fun c hc => by
   rcases lV hc with hc | ⟨p, hp, hc⟩
   ·rw [xE] at hc
    exact .inl (bh.mp hc)
   ·obtain ⟨x, hx, rfl⟩ := bt.mp hp
    exact .inr (xB (hn x hx) c hc)
  have nd : Txt.join "," (xs.map kO) ≠ ("-" : Str) := fun e => by
   have := ch 45 (by rw [e, oY]; simp)
   omega
  unfold MJ
  rw [if_neg nd, TL.split_join XN (by decide +kernel) (by simpa using ne) fun p hp hc => ?_, b1, pJ, b2]
  obtain ⟨x, hx, rfl⟩ := bt.mp hp
  have := xB (hn x hx) 44 hc
  omega
theorem TJ (h : gD d = true) : KS (pT d) = d := by
 obtain ⟨z, rest, rfl, hz, f, e, hf⟩ := lK h
 have hp := uU hf
 have sp : Txt.split (Txt.join " " (z :: rest.map f)) " " = z :: rest.map f := TL.split_join ZZ (by decide +kernel) (by simp) fun p hp' hc => by
  rcases au.mp hp' with rfl | hp'
  ·have := hz.ch 32 hc
   omega
  ·obtain ⟨x, hx, rfl⟩ := bt.mp hp'
   have := (hp x hx).1 32 hc
   omega
 unfold KS
 rw [e, sp]
 unfold YY
 simp only
 rcases hf with ⟨rfl, rfl, hab⟩ | ⟨hz2, rfl, _, hn⟩
 ·rw [if_pos rfl]
  obtain ⟨a, b, rfl, h1, h2⟩ := hab
  simp only [List.map_cons, List.map_nil, LC h1, LC h2]
 ·obtain ⟨b1, b2⟩ := wH hn
  rw [if_neg hz2, b1]
  simp only [b2]
theorem RU (h : iA d = true) : pJ (m2 (Txt.split (mN d) " ")) = d := by
 obtain ⟨xs, rfl, l4, hn⟩ := zJ h
 obtain ⟨b1, b2⟩ := wH hn
 have ne : xs ≠ [] := fun e => by rw [e] at l4; cases l4
 unfold mN
 simp only
 rw [TL.split_join ZZ (by decide +kernel) (by simpa using ne) fun p hp hc => ?_, b1, pJ, b2]
 obtain ⟨x, hx, rfl⟩ := bt.mp hp
 have := xB (hn x hx) 32 hc
 omega
theorem P0 {s : Nat} {p q : List Nat} (h : s ∉ p) (hs : s ≠ 32) (hq : q = [] ∨ ∃ r, q = 32 :: r) : ∀ i, i < p.length → TL.pre [32, s, 32] ((p ++ q).drop i) = false := fun i hi => by
 cases e : TL.pre [32, s, 32] ((p ++ q).drop i) with
 | false => rfl
 | true =>
  have e : (((p ++ q).drop i).take 3 == [32, s, 32]) = true := e
  have e := eq_of_beq e
  have g : (p ++ q)[i + 1]? = some s := by
   have a := congrArg (fun l => l[1]?) e
   simp only [List.getElem?_take, List.getElem?_drop] at a
   simpa using a
  by_cases c : i + 1 < p.length
  ·rw [aw c] at g
   exact absurd (cc g) h
  ·rw [bp (by omega)] at g
   have z : i + 1 - p.length = 0 := by omega
   rw [z] at g
   rcases hq with rfl | ⟨r, rfl⟩
   ·cases g
   ·cases g
    exact absurd rfl hs
theorem EC {s : Nat} (hs : s ≠ 32) : ∀ {parts : List (List Nat)}, parts ≠ [] → (∀ p ∈ parts, s ∉ p) → TL.spl [32, s, 32] 0 [] (TL.joinL [32, s, 32] parts) = parts
 | [], h, _ => absurd rfl h
 | [p], _, hp => by
  show TL.spl [32, s, 32] 0 [] p = [p]
  have f := P0 (q := []) (hp p (bh.mpr rfl)) hs (.inl rfl)
  rw [List.append_nil] at f
  rw [TL.spl_last f, List.nil_append]
 | p :: q :: r, _, hp => by
  show TL.spl [32, s, 32] 0 [] (p ++ ([32, s, 32] ++ TL.joinL [32, s, 32] (q :: r))) = p :: q :: r
  rw [TL.spl_part (by simp) (P0 (hp p (aq ..)) hs (.inr ⟨_, rfl⟩)), List.nil_append, EC hs (by simp) fun z hz => hp z (av _ hz)]
theorem xV {y : Str} {s : Nat} (ey : TL.tl y = [32, s, 32]) (hs : s ≠ 32) (hk : y.cps.all (· < 256) = true) {parts : List Str} (hne : parts ≠ []) (hp : ∀ p ∈ parts, s ∉ TL.tl p) : Txt.split (Txt.join y parts) y = parts := by
 refine TL.map_tl_inj ?_
 rw [TL.split_spl _ y (by rw [ey]; simp) (TL.kind_ok hk), TL.join_eq, TL.tl_join, ey]
 refine EC hs (fun e => hne (List.map_eq_nil_iff.mp e)) fun p h => ?_
 obtain ⟨z, hz, rfl⟩ := bt.mp h
 exact hp z hz
theorem part3 {y : Str} {s : Nat} (ey : TL.tl y = [32, s, 32]) (hs : s ≠ 32) {a b : Str} (h : s ∉ TL.tl a) : Txt.partition (a ++ y ++ b) y = (a, y, b) := by
 rw [TL.partition_par _ y (by rw [ey]; simp), TL.tl_append, TL.tl_append, bo, ey, TL.par_part (by simp) (P0 h hs (.inr ⟨_, rfl⟩))]
 show ((⟨([] ++ TL.tl a).toArray⟩ : Str), y, (⟨(TL.tl b).toArray⟩ : Str)) = _
 rw [List.nil_append, TL.mk_tl, TL.mk_tl]
theorem UU {y : Str} {s : Nat} (ey : TL.tl y = [32, s, 32]) (hs : s ≠ 32) {a : Str} (h : s ∉ TL.tl a) : Txt.partition a y = (a, Str.empty, Str.empty) := by
 have f := P0 (q := []) h hs (.inl rfl)
 rw [List.append_nil] at f
 rw [TL.partition_par _ y (by rw [ey]; simp), ey, TL.par_none f]
theorem ET {S p : List Nat} {c : Nat} : ∀ {ps : List (List Nat)}, p ∈ ps → c ∈ p → c ∈ TL.joinL S ps
 | [q], h, hc => by rw [bh.mp h] at hc; exact hc
 | q :: r :: t, h, hc => by
  show c ∈ q ++ (S ++ TL.joinL S (r :: t))
  rcases au.mp h with rfl | h
  ·exact bq.mpr (.inl hc)
  ·exact bq.mpr (.inr (bq.mpr (.inr (ET h hc))))
theorem uK {y p : Str} {c : Nat} {ps : List Str} (h : p ∈ ps) (hc : c ∈ p.cps.toList) : c ∈ (Txt.join y ps).cps.toList := by
 show c ∈ TL.tl (Txt.join y ps)
 rw [oJ]
 exact ET (List.mem_map_of_mem h) hc
theorem PZ (h : gD d = true) : ∃ c ∈ (pT d).cps.toList, 97 ≤ c := by
 obtain ⟨z, rest, rfl, hz, f, e, hf⟩ := lK h
 have : z.cps.toList ≠ [] := fun e => by
  have h1 := hz.one
  have : z.length = 0 := cL (by rw [e]; rfl)
  omega
 obtain ⟨c, r, ec⟩ := List.exists_cons_of_ne_nil this
 have hc : c ∈ z.cps.toList := by rw [ec]; exact aq ..
 rw [e]
 exact ⟨c, uK (aq ..) hc, (hz.ch c hc).1⟩
theorem EN {a : List D} (h : ∀ x ∈ a, gD x = true) : rK (iF a) = a := by
 by_cases ca : a = []
 ·subst ca
  rfl
 ·have ea : iF a = Txt.join " ; " (a.map pT) := by unfold iF; rw [if_neg ca]
  obtain ⟨x, r, rfl⟩ := List.exists_cons_of_ne_nil ca
  obtain ⟨c, hc, c97⟩ := PZ (h x (aq ..))
  have nd : iF (x :: r) ≠ ("-" : Str) := fun e => by
   rw [ea] at e
   have := uK (y := (" ; " : Str)) (ps := (x :: r).map pT) (aq ..) hc
   rw [e, oY] at this
   have := bh.mp this
   omega
  unfold rK
  rw [if_neg nd, ea, xV (s := 59) HC (by omega) (by decide +kernel) (by simp) fun p hp hc => ?_, List.map_map]
  ·exact (List.map_congr_left fun y hy => TJ (h y hy)).trans (List.map_id' _)
  ·obtain ⟨y, hy, rfl⟩ := bt.mp hp
   have := VU (h y hy) 59 hc
   omega
theorem NI {f : List D} (h : ∀ x ∈ f, iA x = true) (ne : f ≠ []) : rB (Txt.join " , " (f.map mN)) = f := by
 unfold rB
 rw [xV (s := 44) HE (by omega) (by decide +kernel) (by simpa using ne) fun p hp hc => ?_, List.map_map]
 ·exact (List.map_congr_left fun y hy => RU (h y hy)).trans (List.map_id' _)
 ·obtain ⟨y, hy, rfl⟩ := bt.mp hp
  have := QD (h y hy) 44 hc
  omega
theorem R3 (h : cS d = true) : QP (c7 d) = d := by
 obtain ⟨a, f, rfl, ha, hf⟩ := pE h
 have na : 33 ∉ TL.tl (iF a) := fun hc => by
  have := IU ha 33 hc
  omega
 have eb : xR (c7 (.tup [.tup a, .tup f])) = .tup [.tup a, .tup f] := by
  unfold xR c7
  by_cases cf : f = []
  ·subst cf
   simp only [ae]
   rw [UU (s := 33) v9 (by omega) na]
   simp only [aBy, ae, EN ha]
  ·simp only [if_neg cf]
   rw [part3 (s := 33) v9 (by omega) na]
   simp only [if_neg aAO, EN ha, NI hf cf]
 unfold QP
 rw [eb, if_pos h]
theorem L0 {ts : List D} (h : ∀ x ∈ ts, cS x = true) (ne : ts ≠ []) : Txt.split (dY (.tup ts)) "\n" = ts.map c7 :=
 TL.split_join aCa (by decide +kernel) (by simpa using ne) fun p hp hc => by
  obtain ⟨y, hy, rfl⟩ := bt.mp hp
  have := GI (h y hy) 10 hc
  omega
theorem RS (h : cS d = true) : 1 ≤ (c7 d).length := by
 obtain ⟨a, f, rfl, ha, hf⟩ := pE h
 have l1 : 1 ≤ (iF a).length := by
  by_cases ca : a = []
  ·subst ca
   show 1 ≤ (if ([] : List D) = [] then ("-" : Str) else _).length
   rw [if_pos rfl, cL (congrArg List.length oY)]
   simp
  ·obtain ⟨x, r, rfl⟩ := List.exists_cons_of_ne_nil ca
   obtain ⟨c, hc, c97⟩ := PZ (ha x (aq ..))
   have : c ∈ TL.tl (iF (x :: r)) := by
    unfold iF
    rw [if_neg ca]
    exact uK (aq ..) hc
   rw [TL.len_tl]
   exact List.length_pos_of_mem this
 unfold c7
 simp only
 split
 ·exact l1
 ·rw [pF, pF]
  omega
theorem VG {ts : List D} (h : ∀ x ∈ ts, cS x = true) (ne : ts ≠ []) : dY (.tup ts) ≠ ("" : Str) := fun e => by
 obtain ⟨x, r, rfl⟩ := List.exists_cons_of_ne_nil ne
 have l1 := RS (h x (aq ..))
 rw [TL.len_tl] at l1
 obtain ⟨c, hc⟩ := List.exists_mem_of_length_pos l1
 have := uK (y := ("\n" : Str)) (ps := (x :: r).map c7) (aq ..) hc
 have e : Txt.join "\n" ((x :: r).map c7) = ("" : Str) := e
 rw [e] at this
 cases this
end
section
variable (k : Sx.a6)
variable {n l : Nat} {w w' w0 : W} {P : D → W → Prop} {PF : Fl → W → Prop} {d : D}
def e9 (xs : List D) : List D := (List.range xs.length).zipWith (fun i x => D.tup [.int (i : Nat), x]) xs
theorem VR {xs : List D} {PI : kP → W → Prop} : T (Pc.lN [.lst xs] w) PI = PI ⟨e9 xs, always⟩ w := by unfold T; rfl
theorem pairs_len {xs : List D} : (e9 xs).length = xs.length := by simp [e9]
theorem pairs_at {xs : List D} {i : Nat} {x : D} (h : (e9 xs)[i]? = some x) : ∃ y, xs[i]? = some y ∧ x = .tup [.int (i : Nat), y] := by
 have hl := (ak.mp h).1
 rw [pairs_len] at hl
 refine ⟨xs[i], bf hl, ?_⟩
 unfold e9 at h
 rw [List.getElem?_zipWith] at h
 simp only [bf hl, List.getElem?_range hl, Option.map_some, Option.bind_some] at h
 simpa using h.symm
theorem S8 (h : cS d = true) : d.isNon = false := by
 obtain ⟨a, f, rfl, _⟩ := pE h
 rfl
theorem HZ {x : Str} (h : ∀ c ∈ x.cps.toList, c < 127) : PyData.strOk x = true := UH h
theorem YS {ts : List D} (h : ∀ x ∈ ts, cS x = true) (hl : wtDs ts ≤ 15000) {q : Nat} {x0 : D} {s2 s3 s4 : Option D} (hq : w[q]? = some (.lst []))
  (hP : ∀ s2 s3 s4, PF (.nx [some x0, some (.ref q), s2, s3, s4]) (w.set q (.lst ts))) :
  T (forL ⟨e9 ((ts.map c7).map D.str), always⟩ (bJ 2 (aH (aN 2) (aH (aN 3) bD))) (aJ (aO (aI (i6 k) 1 aK (aA (aB 3) aC)) (aN 4))
 (aJ (cO (aU (aD isM (aB 4) (eC .non))) L4 aV)
 (cF (bA "list" b8 (aB 1) (aA (aB 4) aC))))) (e9 ((ts.map c7).map D.str)) [some x0, some (.ref q), s2, s3, s4] w) PF := by
 have lt := fN (xs := ts)
 have hql := (ak.mp hq).1
 refine GQ (it := ⟨e9 ((ts.map c7).map D.str), always⟩) (fun j σ w' => w' = w.set q (.lst (ts.take j)) ∧ ∃ s2 s3 s4, σ = [some x0, some (.ref q), s2, s3, s4]) (fun _ _ _ _ => trivial)
  ⟨by rw [List.take_zero]; exact (List.ext_getElem? fun i => by
   by_cases c : i = q
   ·subst c
    rw [bu hql, hq]
   ·rw [bc (fun e => c e.symm)]), _, _, _, rfl⟩ (fun j x σ w' hx ⟨ew, s2, s3, s4, es⟩ => ?_) fun σ w' ⟨ew, s2, s3, s4, es⟩ => ?_
 case refine_2 =>
  subst es
  rw [pairs_len, ay, ay, List.take_length] at ew
  rw [ew]
  exact hP _ _ _
 subst es
 obtain ⟨y, hy, rfl⟩ := pairs_at hx
 rw [cg, cg] at hy
 obtain ⟨z, hz, rfl⟩ := aj.mp hy
 obtain ⟨t, ht, rfl⟩ := aj.mp hz
 have mt := cc ht
 have tb := h t mt
 have lw := jI mt
 have ll := AO tb
 have ok : PyData.strOk (c7 t) = true := HZ fun c hc => (GI tb c hc).2
 have hq' : w'[q]? = some (.lst (ts.take j)) := by rw [ew]; exact bu hql
 simp only [gT, zY, ae, ab, reduceCtorEq]
 rw [bL]
 simp only [oF k ok (show (c7 t).length ≤ 60000 by omega), R3 tb, zY, ae, ab, reduceCtorEq]
 rw [bL]
 simp only [ZS, S8 tb, zY, ae, ab, reduceCtorEq]
 simp only [tyL hq', KZ hq', zY, ae, ab, reduceCtorEq]
 refine ⟨mR _ (by rw [List.length_take]; omega), ?_, _, _, _, rfl⟩
 rw [ew, List.set_set, List.take_add_one, ht]
 rfl
theorem T9 (h : gM d = true) (hl : kG d ≤ 15000) (hP : ∀ w', Gr w w' → P d w') : T (dX k [.str (dY d)] w) P := by
 obtain ⟨ts, rfl, ht⟩ := lO h
 have hl : wtDs ts ≤ 15000 := hl
 have sl := vX h
 have ok : PyData.strOk (dY (.tup ts)) = true := HZ (CJ h)
 unfold dX hZ
 rw [cY, C3, bL]
 simp only [YA, Bool.not_true, zY, ae, ab, reduceCtorEq]
 rw [bL]
 simp only [zY, ae, ab, reduceCtorEq]
 rw [bL]
 have hq : (w ++ [MO.lst []])[w.length]? = some (.lst []) := OY
 have lines : ∀ (PE : D → W → Prop) (s1 : Option D), PE (.lst ((ts.map c7).map D.str)) (w ++ [MO.lst []]) → T (wW (aU (aD mS (aB 0) (eC (.str ("" : Str))))) (bA "str" splitM (aB 0) (aA (eC (.str ("\n" : Str))) aC)) (i3 aC) [some (.str (dY (.tup ts))), s1, none, none, none] (w ++ [MO.lst []])) PE := fun PE s1 hPE => by
  simp only [FO, eI ok NN, af, bj, zY, ae, ab, reduceCtorEq]
  by_cases c : ts = []
  ·subst c
   have e : dY (.tup []) = ("" : Str) := rfl
   simp only [decide_eq_true e, Bool.not_true, zY, ae, ab, reduceCtorEq]
   exact hPE
  ·simp only [bw (VG ht c), Bool.not_false, CK, oB aBo (show (dY (.tup ts)).length ≤ 16000000 by simp only [kG] at sl; omega), L0 ht c, zY, ae, ab, reduceCtorEq]
   exact hPE
 obtain ⟨q, eq⟩ : ∃ q, q = w.length := ⟨_, rfl⟩
 obtain ⟨w1, e1⟩ : ∃ w1, w1 = w ++ [MO.lst []] := ⟨_, rfl⟩
 rw [← e1] at lines hq
 rw [← eq] at hq
 rw [← e1, ← eq]
 rw [aAf, VO]
 simp only [HL, NV]
 refine lines _ _ ?_
 simp only [VR]
 refine YS k ht hl hq fun s2 s3 s4 => ?_
 have h2 : (w1.set q (.lst ts))[q]? = some (.lst ts) := bu (ak.mp hq).1
 have tl : ∀ P : D → W → Prop, T (bW [.ref q] (w1.set q (.lst ts))) P = P (.tup ts) (w1.set q (.lst ts)) := fun P => by
  have : bW [.ref q] (w1.set q (.lst ts)) = .ok (.tup ts) (w1.set q (.lst ts)) := by
   simp only [bW, sI, CC, D.items, h2]
  rw [this, b0]
 rw [uO]
 simp only [tl, zY, ae, ab, reduceCtorEq]
 refine hP _ ⟨[.lst ts], ?_⟩
 rw [e1, eq]
 simp
end
end Sx
namespace K64
open PySem PySem.Spec PyProof.Rows L2 Pc
structure Fx (S : aM) where
 k : a6
 yM : S.mg ("all" : Str) = none
 UK : S.mg ("bool" : Str) = none
 xZ : S.mg ("enumerate" : Str) = none
 LS : S.mg ("int" : Str) = none
 cC : S.mg ("isinstance" : Str) = none
 sP : S.mg ("len" : Str) = none
 VX : S.mg ("list" : Str) = none
 mU : S.mg ("range" : Str) = none
 CD : S.mg ("repr" : Str) = none
 Z0 : S.mg ("set" : Str) = none
 J7 : S.mg ("sorted" : Str) = none
 sE : S.mg ("str" : Str) = none
 Z7 : S.mg ("sum" : Str) = none
 dH : S.mg ("tuple" : Str) = none
 U1 : S.mg ("zip" : Str) = none
 i4 : SS S ("AHEAD_OF_FATES" : Str) (.str (" ! " : Str))
 kI : SS S ("BETWEEN_DEEDS" : Str) (.str (" ; " : Str))
 kM : SS S ("BETWEEN_FATES" : Str) (.str (" , " : Str))
 E7 : SS S ("FIGURES" : Str) (.str ("0123456789" : Str))
 EK : SS S ("LONGEST" : Str) (.int 3)
 sT : SS S ("MOST_NUMBER" : Str) (.int 999)
 G1 : SS S ("NONE" : Str) (.str ("-" : Str))
 xN : SS S ("OF_A_FATE" : Str) (.int 4)
 HG : SS S ("TEAR" : Str) (.str ("tear" : Str))
 IC : SS S ("FORMS" : Str) (.con k.dI)
 HB : KTab S.K S.w k.dI bQ
 kE : Addr
 m8 : FuncData
 q7 : FunD S.K ("_law_deck" : Str) ("_law_deck" : Str) (defArgs (top 34)) (defBody (top 34)) (defScope (top 34)) [] [] kE m8
 x9 : S.mg ("_law_deck" : Str) = some (.ref kE)
 vH : PySem.W.keepIn S.K (.ref kE) = true
 j7 : Addr
 m5 : FuncData
 qK : FunD S.K ("_law_draw" : Str) ("_law_draw" : Str) (defArgs (top 35)) (defBody (top 35)) (defScope (top 35)) [] [] j7 m5
 cN : S.mg ("_law_draw" : Str) = some (.ref j7)
 b9 : PySem.W.keepIn S.K (.ref j7) = true
 eT : Addr
 gK : FuncData
 kQ : FunD S.K ("_law_act_text" : Str) ("_law_act_text" : Str) (defArgs (top 42)) (defBody (top 42)) (defScope (top 42)) [] [] eT gK
 pN : S.mg ("_law_act_text" : Str) = some (.ref eT)
 n8 : PySem.W.keepIn S.K (.ref eT) = true
 eK : Addr
 fR : FuncData
 jA : FunD S.K ("_law_turn_text" : Str) ("_law_turn_text" : Str) (defArgs (top 43)) (defBody (top 43)) (defScope (top 43)) [] [] eK fR
 nR : S.mg ("_law_turn_text" : Str) = some (.ref eK)
 mV : PySem.W.keepIn S.K (.ref eK) = true
 dN : Addr
 fA : FuncData
 iH : FunD S.K ("_law_story_text" : Str) ("_law_story_text" : Str) (defArgs (top 44)) (defBody (top 44)) (defScope (top 44)) [] [] dN fA
 mY : S.mg ("_law_story_text" : Str) = some (.ref dN)
 l6 : PySem.W.keepIn S.K (.ref dN) = true
 mC : Addr
 oR : FuncData
 tN : FunD S.K ("is_whole" : Str) ("is_whole" : Str) (defArgs (top 4)) (defBody (top 4)) (defScope (top 4)) [] [] mC oR
 AL : S.mg ("is_whole" : Str) = some (.ref mC)
 yV : PySem.W.keepIn S.K (.ref mC) = true
 jU : Addr
 m6 : FuncData
 q8 : FunD S.K ("is_within" : Str) ("is_within" : Str) (defArgs (top 5)) (defBody (top 5)) (defScope (top 5)) [] [] jU m6
 yG : S.mg ("is_within" : Str) = some (.ref jU)
 uS : PySem.W.keepIn S.K (.ref jU) = true
 gF : Addr
 jM : FuncData
 nB : FunD S.K ("are_numbers" : Str) ("are_numbers" : Str) (defArgs (top 17)) (defBody (top 17)) (defScope (top 17)) [] [] gF jM
 jK : S.mg ("are_numbers" : Str) = some (.ref gF)
 iR : PySem.W.keepIn S.K (.ref gF) = true
 nZ : Addr
 rZ : FuncData
 v7 : FunD S.K ("is_fate" : Str) ("is_fate" : Str) (defArgs (top 20)) (defBody (top 20)) (defScope (top 20)) [] [] nZ rZ
 D9 : S.mg ("is_fate" : Str) = some (.ref nZ)
 BB : PySem.W.keepIn S.K (.ref nZ) = true
 jW : Addr
 mX : FuncData
 qY : FunD S.K ("is_rising" : Str) ("is_rising" : Str) (defArgs (top 18)) (defBody (top 18)) (defScope (top 18)) [] [] jW mX
 rG : S.mg ("is_rising" : Str) = some (.ref jW)
 pH : PySem.W.keepIn S.K (.ref jW) = true
 oC : Addr
 r5 : FuncData
 w7 : FunD S.K ("is_form" : Str) ("is_form" : Str) (defArgs (top 19)) (defBody (top 19)) (defScope (top 19)) [] [] oC r5
 EV : S.mg ("is_form" : Str) = some (.ref oC)
 BL : PySem.W.keepIn S.K (.ref oC) = true
 n9 : Addr
 rO : FuncData
 wC : FunD S.K ("is_turn" : Str) ("is_turn" : Str) (defArgs (top 21)) (defBody (top 21)) (defScope (top 21)) [] [] n9 rO
 wA : S.mg ("is_turn" : Str) = some (.ref n9)
 tX : PySem.W.keepIn S.K (.ref n9) = true
 l5 : Addr
 oT : FuncData
 tT : FunD S.K ("is_story" : Str) ("is_story" : Str) (defArgs (top 22)) (defBody (top 22)) (defScope (top 22)) [] [] l5 oT
 AQ : S.mg ("is_story" : Str) = some (.ref l5)
 yN : PySem.W.keepIn S.K (.ref l5) = true
 j2 : Addr
 mW : FuncData
 p7 : FunD S.K ("number_in" : Str) ("number_in" : Str) (defArgs (top 27)) (defBody (top 27)) (defScope (top 27)) [] [] j2 mW
 xP : S.mg ("number_in" : Str) = some (.ref j2)
 vA : PySem.W.keepIn S.K (.ref j2) = true
 iJ : Addr
 k9 : FuncData
 oV : FunD S.K ("numbers_in" : Str) ("numbers_in" : Str) (defArgs (top 28)) (defBody (top 28)) (defScope (top 28)) [] [] iJ k9
 hX : S.mg ("numbers_in" : Str) = some (.ref iJ)
 f7 : PySem.W.keepIn S.K (.ref iJ) = true
 j3 : Addr
 mT : FuncData
 rN : FunD S.K ("listed_in" : Str) ("listed_in" : Str) (defArgs (top 29)) (defBody (top 29)) (defScope (top 29)) [] [] j3 mT
 y5 : S.mg ("listed_in" : Str) = some (.ref j3)
 uM : PySem.W.keepIn S.K (.ref j3) = true
 n7 : Addr
 r4 : FuncData
 w8 : FunD S.K ("deed_in" : Str) ("deed_in" : Str) (defArgs (top 30)) (defBody (top 30)) (defScope (top 30)) [] [] n7 r4
 D8 : S.mg ("deed_in" : Str) = some (.ref n7)
 AD : PySem.W.keepIn S.K (.ref n7) = true
 nY : Addr
 rT : FuncData
 xG : FunD S.K ("turn_in" : Str) ("turn_in" : Str) (defArgs (top 31)) (defBody (top 31)) (defScope (top 31)) [] [] nY rT
 E6 : S.mg ("turn_in" : Str) = some (.ref nY)
 AU : PySem.W.keepIn S.K (.ref nY) = true
 h9 : Addr
 iM : FuncData
 k8 : FunD S.K ("read_story" : Str) ("read_story" : Str) (defArgs (top 32)) (defBody (top 32)) (defScope (top 32)) [] [] h9 iM
 o4 : S.mg ("read_story" : Str) = some (.ref h9)
 nH : PySem.W.keepIn S.K (.ref h9) = true
 qN : Addr
 vM : FuncData
 B0 : FunD S.K ("joined" : Str) ("joined" : Str) (defArgs (top 23)) (defBody (top 23)) (defScope (top 23)) [] [] qN vM
 uD : S.mg ("joined" : Str) = some (.ref qN)
 rV : PySem.W.keepIn S.K (.ref qN) = true
 j6 : Addr
 m7 : FuncData
 qI : FunD S.K ("show_deed" : Str) ("show_deed" : Str) (defArgs (top 24)) (defBody (top 24)) (defScope (top 24)) [] [] j6 m7
 xS : S.mg ("show_deed" : Str) = some (.ref j6)
 vU : PySem.W.keepIn S.K (.ref j6) = true
 j8 : Addr
 mO : FuncData
 qQ : FunD S.K ("show_turn" : Str) ("show_turn" : Str) (defArgs (top 25)) (defBody (top 25)) (defScope (top 25)) [] [] j8 mO
 yP : S.mg ("show_turn" : Str) = some (.ref j8)
 vF : PySem.W.keepIn S.K (.ref j8) = true
 iO : Addr
 iI : FuncData
 kZ : FunD S.K ("show_story" : Str) ("show_story" : Str) (defArgs (top 26)) (defBody (top 26)) (defScope (top 26)) [] [] iO iI
 fU : S.mg ("show_story" : Str) = some (.ref iO)
 eY : PySem.W.keepIn S.K (.ref iO) = true
 iN : Addr
 k7 : FuncData
 oM : FunD S.K ("_law_right" : Str) ("_law_right" : Str) (defArgs (top 45)) (defBody (top 45)) (defScope (top 45)) [] [] iN k7
 pA : S.mg ("_law_right" : Str) = some (.ref iN)
 nN : PySem.W.keepIn S.K (.ref iN) = true
 gA : Addr
 jG : FuncData
 nJ : FunD S.K ("_law_number" : Str) ("_law_number" : Str) (defArgs (top 37)) (defBody (top 37)) (defScope (top 37)) [] [] gA jG
 jL : S.mg ("_law_number" : Str) = some (.ref gA)
 iP : PySem.W.keepIn S.K (.ref gA) = true
 lZ : Addr
 oQ : FuncData
 tR : FunD S.K ("_law_lot" : Str) ("_law_lot" : Str) (defArgs (top 38)) (defBody (top 38)) (defScope (top 38)) [] [] lZ oQ
 tY : S.mg ("_law_lot" : Str) = some (.ref lZ)
 qH : PySem.W.keepIn S.K (.ref lZ) = true
 jX : Addr
 mM : FuncData
 qZ : FunD S.K ("_law_pick" : Str) ("_law_pick" : Str) (defArgs (top 36)) (defBody (top 36)) (defScope (top 36)) [] [] jX mM
 yA : S.mg ("_law_pick" : Str) = some (.ref jX)
 uE : PySem.W.keepIn S.K (.ref jX) = true
 lR : Addr
 pC : FuncData
 tD : FunD S.K ("_law_act" : Str) ("_law_act" : Str) (defArgs (top 39)) (defBody (top 39)) (defScope (top 39)) [] [] lR pC
 BY : S.mg ("_law_act" : Str) = some (.ref lR)
 yF : PySem.W.keepIn S.K (.ref lR) = true
 j4 : Addr
 mZ : FuncData
 rM : FunD S.K ("_law_turn" : Str) ("_law_turn" : Str) (defArgs (top 40)) (defBody (top 40)) (defScope (top 40)) [] [] j4 mZ
 yZ : S.mg ("_law_turn" : Str) = some (.ref j4)
 uN : PySem.W.keepIn S.K (.ref j4) = true
 iD : Addr
 kS : FuncData
 pI : FunD S.K ("_law_story" : Str) ("_law_story" : Str) (defArgs (top 41)) (defBody (top 41)) (defScope (top 41)) [] [] iD kS
 u3 : S.mg ("_law_story" : Str) = some (.ref iD)
 sR : PySem.W.keepIn S.K (.ref iD) = true
 EX : Addr
 Q7 : FuncData
 aAi : FunD S.K ("law" : Str) ("law" : Str) (defArgs (top 46)) (defBody (top 46)) (defScope (top 46)) [] [] EX Q7
 ZX : S.mg ("law" : Str) = some (.ref EX)
 aBN : PySem.W.keepIn S.K (.ref EX) = true
 VY : HP S.K
def q0 : List Str := [("_law_script" : Str), ("_law_cells" : Str)]
def pY : List Str := [("_law_script" : Str)]
abbrev yK : Scope := defScope (top 34)
def xY (k : a6) : MS :=
 (aJ (aO (aL AI (aA (qF m9 (aB 0) c6 (cG (eC (.int 63)))) aC)) (aN 1))
 (aQ (NU (mA (eC (.str ("cells" : Str))) (aB 1) (mA (eC (.str ("at" : Str))) (eC (.int 0)) (mA (eC (.str ("sum" : Str))) (aD bH (aD iV (aL LF (aA (aB 1) aC)) (eC (.int 2147483629))) (aD mulM (eC (.int 17)) (aL cU (aA (aB 1) aC)))) R7))))))
def qO (k : a6) : MF := a7 (xY k) q0
theorem IL : FnScope q0 pY yK := bF (by decide +kernel)
theorem H9 {S : aM} (h : Fx S) : nU (S.body 0 q0 yK) (defBody (top 34)) (xY h.k) :=
 (aR (C1 1 (bU UO rfl h.VX rfl (aE (yE yI (jv 0) oO (kY aY)) aF)))
 (aW (bG (W4 (rX bI (jv 1) (rX bI aY (rX bI (bS eJ (bS tO (bE aAM rfl h.Z7 rfl (aE (jv 1) aF)) aY) (bS xC aY (bE oX rfl h.sP rfl (aE (jv 1) aF)))) UA)))))))
theorem H6 {S : aM} (h : Fx S) : eR S.P S.w S.K S.mg S.base 1 h.kE h.m8 pY (qO h.k) := eR.of h.q7 IL (H9 h) fun _ _ _ => .f9
theorem HF {S : aM} (h : Fx S) : b5 S.K h.m8 pY 1 [] aK := bB h.q7 fun _ _ _ _ _ _ us hl => match us, hl with
 | [_], _ => rfl
def qA : List Str := [("_law_deck_here" : Str), ("_law_bound" : Str), ("_law_at" : Str), ("_law_cells" : Str), ("_law_seed" : Str), ("_law_number_here" : Str)]
def rA : List Str := [("_law_deck_here" : Str), ("_law_bound" : Str)]
abbrev y4 : Scope := defScope (top 35)
def xW (k : a6) : MS :=
 (aJ (aO (aD bH (aD aZ (aB 0) (eC (.str ("at" : Str)))) (eC (.int 1))) (c8 (aB 0) (eC (.str ("at" : Str)))))
 (aJ (aO (aD aZ (aB 0) (eC (.str ("at" : Str)))) (aN 2))
 (aJ (aO (aD aZ (aB 0) (eC (.str ("cells" : Str)))) (aN 3))
 (aJ (aO (aD bH (aD aZ (aB 0) (eC (.str ("sum" : Str)))) (aB 2)) (aN 4))
 (aJ (cO (aU (aD mS (aB 3) (i3 aC))) (aJ (aO (bA "list" xD (aB 3) (aA (eC (.int 0)) aC)) (aN 4))
 (cO (aU (aD XT (aB 4) (aD OJ (eC (.int 10)) (eC (.int 18))))) (aJ (cF (bA "list" rQ (aB 3) (aA (eC (.int 0)) (aA (aD sS (aB 4) (aB 1)) aC))))
 (aQ (aD iV (aB 4) (aB 1)))) aV)) aV)
 (aJ (aO (aD iV (aD bH (aD bH (aD mulM (aD iV (aB 4) (eC (.int 2147483647))) (eC (.int 48271))) (aD mulM (aD mulM (eC (.int 69621)) (aB 2)) (aB 2))) (eC (.int 7919))) (eC (.int 2147483629))) (aN 5))
 (aJ (aO (aD iV (aD mulM (aB 5) (aB 5)) (eC (.int 2147483587))) (aN 5))
 (aQ (aD iV (aD sS (aD iV (aD mulM (aB 5) (aD bH (aB 5) (eC (.int 39373)))) (eC (.int 2147483563))) (eC (.int 64))) (aB 1))))))))))
def cD (k : a6) : MF := a7 (xW k) qA
theorem FV : FnScope qA rA y4 := bF (by decide +kernel)
theorem HA {S : aM} (h : Fx S) : nU (S.body 0 qA y4) (defBody (top 35)) (xW h.k) :=
 (aR (tF (bS eJ (j5 (jv 0) bI) aY) (aBr (jv 0) bI))
 (aR (C1 2 (j5 (jv 0) bI))
 (aR (C1 3 (j5 (jv 0) bI))
 (aR (C1 4 (bS eJ (j5 (jv 0) bI) (jv 2)))
 (aR (gS (cA rD (jv 3) (kN aF)) (aR (C1 4 (cB PySem.F.plainAttrs_list PySem.F.slot_list_pop UL (jv 3) (aE aY aF)))
 (aW (gS (cA aCo (jv 4) (bS aBC aY aY)) (aR (G5 (cB PySem.F.plainAttrs_list PySem.F.slot_list_insert SI (jv 3) (aE aY (aE (bS Q9 (jv 4) (jv 1)) aF))))
 (aW (bG (bS tO (jv 4) (jv 1))))) c5))) c5)
 (aR (C1 5 (bS tO (bS eJ (bS eJ (bS xC (bS tO (jv 4) aY) aY) (bS xC (bS xC aY (jv 2)) (jv 2))) aY) aY))
 (aR (C1 5 (bS tO (bS xC (jv 5) (jv 5)) aY))
 (aW (bG (bS tO (bS Q9 (bS tO (bS xC (jv 5) (bS eJ (jv 5) aY)) aY) aY) (jv 1)))))))))))
theorem cM {S : aM} (h : Fx S) : eR S.P S.w S.K S.mg S.base 1 h.j7 h.m5 rA (cD h.k) := eR.of h.qK FV (HA h) fun _ _ _ => .f9
theorem cJ {S : aM} (h : Fx S) : b5 S.K h.m5 rA 2 [] aK := bB h.qK fun _ _ _ _ _ _ us hl => match us, hl with
 | [_, _], _ => rfl
def dM : List Str := [("_law_act_here" : Str), ("_law_rest" : Str), ("_law_some" : Str), ("_law_one" : Str)]
def kJ : List Str := [("_law_act_here" : Str)]
abbrev pP : Scope := defScope (top 42)
def eV (k : a6) : MS :=
 (aJ (cO (aU (aD dD (aD aZ (aB 0) (eC (.int 0))) (eC (.str ("tear" : Str))))) (aO (aS (bK (qF m9 (aB 0) (cG (eC (.int 1))) c6)) [2] (aN 2) aT (wW (aU (aD mS (aB 2) (a8 aC))) (bA "str" joinM (eC (.str ("," : Str))) (aA (aS (bK (aB 2)) [3] (aN 3) aT (aL mI (aA (aB 3) aC))) aC)) (eC (.str ("-" : Str))))) (aN 1)) (aO (aS (bK (qF m9 (aB 0) (cG (eC (.int 1))) c6)) [3] (aN 3) aT (aL mI (aA (aB 3) aC))) (aN 1)))
 (aQ (bA "str" joinM (eC (.str (" " : Str))) (aA (aD bH (i3 (aA (aD aZ (aB 0) (eC (.int 0))) aC)) (aB 1)) aC))))
def cV (k : a6) : MF := a7 (eV k) dM
theorem wO : FnScope dM kJ pP := bF (by decide +kernel)
theorem wX {S : aM} (h : Fx S) : nU (S.body 0 dM pP) (defBody (top 42)) (eV h.k) :=
 (aR (gS (cA iC (j5 (jv 0) aY) bI) (aW (jsc 1 (own := [(("_law_some" : Str), 2)]) (cW (yE yI (jv 0) (kY aY) oO)) (by kernel_rfl) (sA 2) bP (uP (cA rD (jv 2) (bZ aF)) (cB PySem.F.plainAttrs_str PySem.F.slot_str_join iK bI (aE (bT (own := [(("_law_one" : Str), 3)]) (cW (jv 2)) (by kernel_rfl) (sA 3) bP (bU t6 rfl h.sE rfl (aE (jv 3) aF))) aF)) bI))) (aW (jsc 1 (own := [(("_law_one" : Str), 3)]) (cW (yE yI (jv 0) (kY aY) oO)) (by kernel_rfl) (sA 3) bP (bU t6 rfl h.sE rfl (aE (jv 3) aF)))))
 (aW (bG (cB PySem.F.plainAttrs_str PySem.F.slot_str_join iK bI (aE (bS eJ (kN (aE (j5 (jv 0) aY) aF)) (jv 1)) aF)))))
theorem xM {S : aM} (h : Fx S) : eR S.P S.w S.K S.mg S.base 1 h.eT h.gK kJ (cV h.k) := eR.of h.kQ wO (wX h) fun _ _ _ => .f9
theorem xJ {S : aM} (h : Fx S) : b5 S.K h.gK kJ 1 [] aK := bB h.kQ fun _ _ _ _ _ _ us hl => match us, hl with
 | [_], _ => rfl
def dB : List Str := [("_law_turn_here" : Str), ("_law_text_told" : Str), ("_law_act_here" : Str), ("_law_lot_here" : Str), ("_law_one" : Str)]
def i7 : List Str := [("_law_turn_here" : Str)]
abbrev nW : Scope := defScope (top 43)
def eL (k : a6) : MS :=
 (aJ (aO (wW (aU (aD mS (aD aZ (aB 0) (eC (.int 0))) (a8 aC))) (bA "str" joinM (eC (.str (" ; " : Str))) (aA (aS (bK (aD aZ (aB 0) (eC (.int 0)))) [2] (aN 2) aT (aI (cV k) 1 aK (aA (aB 2) aC))) aC)) (eC (.str ("-" : Str)))) (aN 1))
 (aJ (cO (aU (aD dD (aD aZ (aB 0) (eC (.int 1))) (a8 aC))) (aQ (aB 1)) aV)
 (aQ (aD bH (aD bH (aB 1) (eC (.str (" ! " : Str)))) (bA "str" joinM (eC (.str (" , " : Str))) (aA (aS (bK (aD aZ (aB 0) (eC (.int 1)))) [3] (aN 3) aT (bA "str" joinM (eC (.str (" " : Str))) (aA (aS (bK (aB 3)) [4] (aN 4) aT (aL mI (aA (aB 4) aC))) aC))) aC))))))
def dC (k : a6) : MF := a7 (eL k) dB
theorem t9 : FnScope dB i7 nW := bF (by decide +kernel)
theorem uG {S : aM} (h : Fx S) : nU (S.body 1 dB nW) (defBody (top 43)) (eL h.k) :=
 (aR (C1 1 (uP (cA rD (j5 (jv 0) aY) (bZ aF)) (cB PySem.F.plainAttrs_str PySem.F.slot_str_join iK bI (aE (bT (own := [(("_law_act_here" : Str), 2)]) (cW (j5 (jv 0) aY)) (by kernel_rfl) (sA 2) bP (aX (ah rfl) (xM h) (xJ h) rfl h.pN h.n8 (aE (jv 2) aF))) aF)) bI))
 (aR (gS (cA iC (j5 (jv 0) aY) (bZ aF)) (aW (bG (jv 1))) c5)
 (aW (bG (bS eJ (bS eJ (jv 1) bI) (cB PySem.F.plainAttrs_str PySem.F.slot_str_join iK bI (aE (bT (own := [(("_law_lot_here" : Str), 3)]) (cW (j5 (jv 0) aY)) (by kernel_rfl) (sA 3) bP (cB PySem.F.plainAttrs_str PySem.F.slot_str_join iK bI (aE (bT (own := [(("_law_one" : Str), 4)]) (cW (jv 3)) (by kernel_rfl) (sA 4) bP (bU t6 rfl h.sE rfl (aE (jv 4) aF))) aF))) aF)))))))
theorem uF {S : aM} (h : Fx S) : eR S.P S.w S.K S.mg S.base 2 h.eK h.fR i7 (dC h.k) := eR.of h.jA t9 (uG h) fun _ _ _ => .f9
theorem uZ {S : aM} (h : Fx S) : b5 S.K h.fR i7 1 [] aK := bB h.jA fun _ _ _ _ _ _ us hl => match us, hl with
 | [_], _ => rfl
def cR : List Str := [("_law_told" : Str), ("_law_turn_here" : Str)]
def iG : List Str := [("_law_told" : Str)]
abbrev mL : Scope := defScope (top 44)
def dP (k : a6) : MS :=
 (aQ (bA "str" joinM (eC (.str ("\n" : Str))) (aA (aS (bK (aB 0)) [1] (aN 1) aT (aI (dC k) 1 aK (aA (aB 1) aC))) aC)))
def bX (k : a6) : MF := a7 (dP k) cR
theorem tJ : FnScope cR iG mL := bF (by decide +kernel)
theorem tH {S : aM} (h : Fx S) : nU (S.body 2 cR mL) (defBody (top 44)) (dP h.k) :=
 (aW (bG (cB PySem.F.plainAttrs_str PySem.F.slot_str_join iK bI (aE (bT (own := [(("_law_turn_here" : Str), 1)]) (cW (jv 0)) (by kernel_rfl) (sA 1) bP (aX (ah rfl) (uF h) (uZ h) rfl h.nR h.mV (aE (jv 1) aF))) aF))))
theorem tE {S : aM} (h : Fx S) : eR S.P S.w S.K S.mg S.base 3 h.dN h.fA iG (bX h.k) := eR.of h.iH tJ (tH h) fun _ _ _ => .f9
theorem tW {S : aM} (h : Fx S) : b5 S.K h.fA iG 1 [] aK := bB h.iH fun _ _ _ _ _ _ us hl => match us, hl with
 | [_], _ => rfl
def eO : List Str := [("thing" : Str)]
def tG : List Str := [("thing" : Str)]
abbrev CM : Scope := defScope (top 4)
def gL (k : a6) : MS :=
 (aQ (fK (aL (fZ gI) (aA (aB 0) (aA (eC (.ty "int")) aC))) (zN notM (aL (fZ gI) (aA (aB 0) (aA (eC (.ty "bool")) aC))))))
def eP (k : a6) : MF := a7 (gL k) eO
theorem KO : FnScope eO tG CM := bF (by decide +kernel)
theorem MV {S : aM} (h : Fx S) : nU (S.body 0 eO CM) (defBody (top 4)) (gL h.k) :=
 (aW (bG (mF (bE (nM jH) rfl h.cC rfl (aE (jv 0) (aE (nF rfl h.LS rfl) aF))) (o8 (aAr (bE (nM jH) rfl h.cC rfl (aE (jv 0) (aE (nF rfl h.UK rfl) aF))))))))
theorem I6 {S : aM} (h : Fx S) : eR S.P S.w S.K S.mg S.base 1 h.mC h.oR tG (eP h.k) := eR.of h.tN KO (MV h) fun _ _ _ => .f9
theorem K1 {S : aM} (h : Fx S) : b5 S.K h.oR tG 1 [] aK := bB h.tN fun _ _ _ _ _ _ us hl => match us, hl with
 | [_], _ => rfl
def dQ : List Str := [("thing" : Str), ("least" : Str), ("most" : Str)]
def qP : List Str := [("thing" : Str), ("least" : Str), ("most" : Str)]
abbrev yC : Scope := defScope (top 5)
def fD (k : a6) : MS :=
 (aQ (fK (aI (eP k) 1 aK (aA (aB 0) aC)) (SU M9 M9 (aB 1) (aB 0) (aB 2))))
def bM (k : a6) : MF := a7 (fD k) dQ
theorem FT : FnScope dQ qP yC := bF (by decide +kernel)
theorem HD {S : aM} (h : Fx S) : nU (S.body 1 dQ yC) (defBody (top 5)) (fD h.k) :=
 (aW (bG (mF (aX (ah rfl) (I6 h) (K1 h) rfl h.AL h.yV (aE (jv 0) aF)) (o8 (S1 QE QE (jv 1) (jv 0) (jv 2))))))
theorem H0 {S : aM} (h : Fx S) : eR S.P S.w S.K S.mg S.base 2 h.jU h.m6 qP (bM h.k) := eR.of h.q8 FT (HD h) fun _ _ _ => .f9
theorem HI {S : aM} (h : Fx S) : b5 S.K h.m6 qP 3 [] aK := bB h.q8 fun _ _ _ _ _ _ us hl => match us, hl with
 | [_, _, _], _ => rfl
def eW : List Str := [("thing" : Str), ("one" : Str)]
def nG : List Str := [("thing" : Str)]
abbrev sO : Scope := defScope (top 17)
def gB (k : a6) : MS :=
 (aQ (aL allM (aA (aS (bK (aB 0)) [1] (aN 1) aT (aI (bM k) 3 aK (aA (aB 1) (aA (eC (.int 0)) (aA (eC (.int 999)) aC))))) aC)))
def bY (k : a6) : MF := a7 (gB k) eW
theorem A0 : FnScope eW nG sO := bF (by decide +kernel)
theorem BX {S : aM} (h : Fx S) : nU (S.body 2 eW sO) (defBody (top 17)) (gB h.k) :=
 (aW (bG (bE sZ rfl h.yM rfl (aE (bT (own := [(("one" : Str), 1)]) (cW (jv 0)) (by kernel_rfl) (sA 1) bP (aX (ah rfl) (H0 h) (HI h) rfl h.yG h.uS (aE (jv 1) (aE aY (aE (iX h.sT) aF))))) aF))))
theorem mD {S : aM} (h : Fx S) : eR S.P S.w S.K S.mg S.base 3 h.gF h.jM nG (bY h.k) := eR.of h.nB A0 (BX h) fun _ _ _ => .f9
theorem lU {S : aM} (h : Fx S) : b5 S.K h.jM nG 1 [] aK := bB h.nB fun _ _ _ _ _ _ us hl => match us, hl with
 | [_], _ => rfl
def fT : List Str := [("thing" : Str)]
def v3 : List Str := [("thing" : Str)]
abbrev EJ : Scope := defScope (top 20)
def i5 (k : a6) : MS :=
 (aQ (fK (aL (fZ gI) (aA (aB 0) (aA (eC (.ty "tuple")) aC))) (fK (aD dD (aL cU (aA (aB 0) aC)) (eC (.int 4))) (aI (bY k) 1 aK (aA (aB 0) aC)))))
def g9 (k : a6) : MF := a7 (i5 k) fT
theorem N0 : FnScope fT v3 EJ := bF (by decide +kernel)
theorem O0 {S : aM} (h : Fx S) : nU (S.body 3 fT EJ) (defBody (top 20)) (i5 h.k) :=
 (aW (bG (mF (bE (nM jH) rfl h.cC rfl (aE (jv 0) (aE (nF rfl h.dH rfl) aF))) (mF (nD iC (bE oX rfl h.sP rfl (aE (jv 0) aF)) (iX h.xN)) (o8 (aX (ah rfl) (mD h) (lU h) rfl h.jK h.iR (aE (jv 0) aF)))))))
theorem OC {S : aM} (h : Fx S) : eR S.P S.w S.K S.mg S.base 4 h.nZ h.rZ v3 (g9 h.k) := eR.of h.v7 N0 (O0 h) fun _ _ _ => .f9
theorem M8 {S : aM} (h : Fx S) : b5 S.K h.rZ v3 1 [] aK := bB h.v7 fun _ _ _ _ _ _ us hl => match us, hl with
 | [_], _ => rfl
def gZ : List Str := [("thing" : Str), ("least" : Str), ("one" : Str), ("other" : Str)]
def rJ : List Str := [("thing" : Str), ("least" : Str)]
abbrev yW : Scope := defScope (top 18)
def kD (k : a6) : MS :=
 (aJ (cO (fX (cH (eA (aL (fZ gI) (aA (aB 0) (aA (eC (.ty "tuple")) aC))))) (fX (aU (aD M4 (aL cU (aA (aB 0) aC)) (aB 1))) (cH (eA (aI (bY k) 1 aK (aA (aB 0) aC)))))) (aQ (eC (.bl false))) aV)
 (aQ (aL allM (aA (aS (cK Z1 (aA (qF m9 (aB 0) c6 (cG (zN y7 (eC (.int 1))))) (aA (qF m9 (aB 0) (cG (eC (.int 1))) c6) aC))) [2, 3] (bJ 2 (aH (aN 2) (aH (aN 3) bD))) aT (aD M4 (aB 2) (aB 3))) aC))))
def c9 (k : a6) : MF := a7 (kD k) gZ
theorem HU : FnScope gZ rJ yW := bF (by decide +kernel)
theorem FY {S : aM} (h : Fx S) : nU (S.body 3 gZ yW) (defBody (top 18)) (kD h.k) :=
 (aR (gS (SR (vO (mG (fE (bE (nM jH) rfl h.cC rfl (aE (jv 0) (aE (nF rfl h.dH rfl) aF))))) (vO (cA Z8 (bE oX rfl h.sP rfl (aE (jv 0) aF)) (jv 1)) (CV (mG (fE (aX (ah rfl) (mD h) (lU h) rfl h.jK h.iR (aE (jv 0) aF)))))))) (aW (bG AV)) c5)
 (aW (bG (bE sZ rfl h.yM rfl (aE (bT (own := [(("one" : Str), 2), (("other" : Str), 3)]) (aCN rfl h.U1 (aE (yE yI (jv 0) oO (kY (aCi aBb aY))) (aE (yE yI (jv 0) (kY aY) oO) aF))) (by kernel_rfl) (aBp (n := 2) (KI (sA 2) (KI (sA 3) XW))) bP (nD Z8 (jv 2) (jv 3))) aF)))))
theorem vE {S : aM} (h : Fx S) : eR S.P S.w S.K S.mg S.base 4 h.jW h.mX rJ (c9 h.k) := eR.of h.qY HU (FY h) fun _ _ _ => .f9
theorem uI {S : aM} (h : Fx S) : b5 S.K h.mX rJ 2 [] aK := bB h.qY fun _ _ _ _ _ _ us hl => match us, hl with
 | [_, _], _ => rfl
def lI : List Str := [("thing" : Str), ("word" : Str), ("rest" : Str)]
def wZ : List Str := [("thing" : Str)]
abbrev D7 : Scope := defScope (top 19)
def oA (k : a6) : MS :=
 (aJ (cO (fX (cH (eA (aL (fZ gI) (aA (aB 0) (aA (eC (.ty "tuple")) aC))))) (fX (aU (aD dD (aB 0) (a8 aC))) (cH (eA (aL (fZ gI) (aA (aD aZ (aB 0) (eC (.int 0))) (aA (eC (.ty "str")) aC))))))) (aQ (eC (.bl false))) aV)
 (aJ (aO (aB 0) (pQ 1 (aH (aN 1) (aH (aN 2) bD))))
 (aJ (cO (aU (aD dD (aB 1) (eC (.str ("tear" : Str))))) (aQ (fK (aD dD (aL cU (aA (aB 2) aC)) (eC (.int 2))) (fK (aI (c9 k) 2 aK (aA (aD aZ (aB 2) (eC (.int 0))) (aA (eC (.int 1)) aC))) (aI (c9 k) 2 aK (aA (aD aZ (aB 2) (eC (.int 1))) (aA (eC (.int 0)) aC)))))) aV)
 (aQ (fK (aD (ML k.dI bQ) (aB 1) (eC (.con k.dI))) (fK (aD dD (aL cU (aA (aB 2) aC)) (aD (OV k.dI bQ) (eC (.con k.dI)) (aB 1))) (aI (bY k) 1 aK (aA (aB 2) aC))))))))
def lE (k : a6) : MF := a7 (oA k) lI
theorem NT : FnScope lI wZ D7 := bF (by decide +kernel)
theorem NW {S : aM} (h : Fx S) : nU (S.body 4 lI D7) (defBody (top 19)) (oA h.k) :=
 (aR (gS (SR (vO (mG (fE (bE (nM jH) rfl h.cC rfl (aE (jv 0) (aE (nF rfl h.dH rfl) aF))))) (vO (cA iC (jv 0) (bZ aF)) (CV (mG (fE (bE (nM jH) rfl h.cC rfl (aE (j5 (jv 0) aY) (aE (nF rfl h.sE rfl) aF))))))))) (aW (bG AV)) c5)
 (aR (tF (jv 0) (QO (n := 1) (dR (FG 1) (BI (FG 2)))))
 (aR (gS (cA iC (jv 1) (iX h.HG)) (aW (bG (mF (nD iC (bE oX rfl h.sP rfl (aE (jv 2) aF)) aY) (mF (aX (ah rfl) (vE h) (uI h) rfl h.rG h.pH (aE (j5 (jv 2) aY) (aE aY aF))) (o8 (aX (ah rfl) (vE h) (uI h) rfl h.rG h.pH (aE (j5 (jv 2) aY) (aE aY aF)))))))) c5)
 (aW (bG (mF (nD (aAJ h.HB) (jv 1) (iX h.IC)) (mF (nD iC (bE oX rfl h.sP rfl (aE (jv 2) aF)) (aA6 h.HB (iX h.IC) (jv 1))) (o8 (aX (ah rfl) (mD h) (lU h) rfl h.jK h.iR (aE (jv 2) aF))))))))))
theorem OB {S : aM} (h : Fx S) : eR S.P S.w S.K S.mg S.base 5 h.oC h.r5 wZ (lE h.k) := eR.of h.w7 NT (NW h) fun _ _ _ => .f9
theorem M7 {S : aM} (h : Fx S) : b5 S.K h.r5 wZ 1 [] aK := bB h.w7 fun _ _ _ _ _ _ us hl => match us, hl with
 | [_], _ => rfl
def lF : List Str := [("thing" : Str), ("deeds" : Str), ("fates" : Str), ("part" : Str), ("deed" : Str), ("fate" : Str)]
def vZ : List Str := [("thing" : Str)]
abbrev E8 : Scope := defScope (top 21)
def n5 (k : a6) : MS :=
 (aJ (cO (fX (cH (eA (aL (fZ gI) (aA (aB 0) (aA (eC (.ty "tuple")) aC))))) (fX (aU (aD mS (aL cU (aA (aB 0) aC)) (eC (.int 2)))) (cH (eA (aL allM (aA (aS (bK (aB 0)) [3] (aN 3) aT (aL (fZ gI) (aA (aB 3) (aA (eC (.ty "tuple")) aC)))) aC)))))) (aQ (eC (.bl false))) aV)
 (aJ (aO (aB 0) (bJ 2 (aH (aN 1) (aH (aN 2) bD))))
 (aQ (fK (aL allM (aA (aS (bK (aB 1)) [4] (aN 4) aT (aI (lE k) 1 aK (aA (aB 4) aC))) aC)) (aL allM (aA (aS (bK (aB 2)) [5] (aN 5) aT (aI (g9 k) 1 aK (aA (aB 5) aC))) aC))))))
def gN (k : a6) : MF := a7 (n5 k) lF
theorem NS : FnScope lF vZ E8 := bF (by decide +kernel)
theorem NP {S : aM} (h : Fx S) : nU (S.body 5 lF E8) (defBody (top 21)) (n5 h.k) :=
 (aR (gS (SR (vO (mG (fE (bE (nM jH) rfl h.cC rfl (aE (jv 0) (aE (nF rfl h.dH rfl) aF))))) (vO (cA rD (bE oX rfl h.sP rfl (aE (jv 0) aF)) aY) (CV (mG (fE (bE sZ rfl h.yM rfl (aE (bT (own := [(("part" : Str), 3)]) (cW (jv 0)) (by kernel_rfl) (sA 3) bP (bE (nM jH) rfl h.cC rfl (aE (jv 3) (aE (nF rfl h.dH rfl) aF)))) aF)))))))) (aW (bG AV)) c5)
 (aR (tF (jv 0) (BP (n := 2) (dR (FG 1) (dR (FG 2) t8))))
 (aW (bG (mF (bE sZ rfl h.yM rfl (aE (bT (own := [(("deed" : Str), 4)]) (cW (jv 1)) (by kernel_rfl) (sA 4) bP (aX (ah rfl) (OB h) (M7 h) rfl h.EV h.BL (aE (jv 4) aF))) aF)) (o8 (bE sZ rfl h.yM rfl (aE (bT (own := [(("fate" : Str), 5)]) (cW (jv 2)) (by kernel_rfl) (sA 5) bP (aX (ah rfl) (OC h) (M8 h) rfl h.D9 h.BB (aE (jv 5) aF))) aF))))))))
theorem zX {S : aM} (h : Fx S) : eR S.P S.w S.K S.mg S.base 6 h.n9 h.rO vZ (gN h.k) := eR.of h.wC NS (NP h) fun _ _ _ => .f9
theorem B3 {S : aM} (h : Fx S) : b5 S.K h.rO vZ 1 [] aK := bB h.wC fun _ _ _ _ _ _ us hl => match us, hl with
 | [_], _ => rfl
def iZ : List Str := [("thing" : Str), ("turn" : Str)]
def tZ : List Str := [("thing" : Str)]
abbrev CY : Scope := defScope (top 22)
def mE (k : a6) : MS :=
 (aQ (fK (aL (fZ gI) (aA (aB 0) (aA (eC (.ty "tuple")) aC))) (aL allM (aA (aS (bK (aB 0)) [1] (aN 1) aT (aI (gN k) 1 aK (aA (aB 1) aC))) aC))))
def fB (k : a6) : MF := a7 (mE k) iZ
theorem JL : FnScope iZ tZ CY := bF (by decide +kernel)
theorem MM {S : aM} (h : Fx S) : nU (S.body 6 iZ CY) (defBody (top 22)) (mE h.k) :=
 (aW (bG (mF (bE (nM jH) rfl h.cC rfl (aE (jv 0) (aE (nF rfl h.dH rfl) aF))) (o8 (bE sZ rfl h.yM rfl (aE (bT (own := [(("turn" : Str), 1)]) (cW (jv 0)) (by kernel_rfl) (sA 1) bP (aX (ah rfl) (zX h) (B3 h) rfl h.wA h.tX (aE (jv 1) aF))) aF))))))
theorem M3 {S : aM} (h : Fx S) : eR S.P S.w S.K S.mg S.base 7 h.l5 h.oT tZ (fB h.k) := eR.of h.tT JL (MM h) fun _ _ _ => .f9
theorem JM {S : aM} (h : Fx S) : b5 S.K h.oT tZ 1 [] aK := bB h.tT fun _ _ _ _ _ _ us hl => match us, hl with
 | [_], _ => rfl
def hV : List Str := [("word" : Str), ("sign" : Str)]
def qM : List Str := [("word" : Str)]
abbrev yD : Scope := defScope (top 27)
def kA (k : a6) : MS :=
 (aJ (cO (fX (cH (aU (SU M9 M9 (eC (.int 1)) (aL cU (aA (aB 0) aC)) (eC (.int 3))))) (cH (eA (aL allM (aA (aS (WO (aB 0)) [1] (aN 1) aT (aD WG (aB 1) (eC (.str ("0123456789" : Str))))) aC))))) (aQ (eC .non)) aV)
 (aQ (wW (aU (aD dD (aL mI (aA (aL vS (aA (aB 0) aC)) aC)) (aB 0))) (aL vS (aA (aB 0) aC)) (eC .non))))
def gQ (k : a6) : MF := a7 (kA k) hV
theorem IB : FnScope hV qM yD := bF (by decide +kernel)
theorem G3 {S : aM} (h : Fx S) : nU (S.body 0 hV yD) (defBody (top 27)) (kA h.k) :=
 (aR (gS (SR (vO (mG (UX QE QE aY (bE oX rfl h.sP rfl (aE (jv 0) aF)) (iX h.EK))) (CV (mG (fE (bE sZ rfl h.yM rfl (aE (bT (own := [(("sign" : Str), 1)]) (aBK (jv 0)) (by kernel_rfl) (sA 1) bP (nD aAw (jv 1) (iX h.E7))) aF))))))) (aW (bG sW)) c5)
 (aW (bG (uP (cA iC (bU t6 rfl h.sE rfl (aE (bU Q1 rfl h.LS rfl (aE (jv 0) aF)) aF)) (jv 0)) (bU Q1 rfl h.LS rfl (aE (jv 0) aF)) sW))))
theorem GZ {S : aM} (h : Fx S) : eR S.P S.w S.K S.mg S.base 1 h.j2 h.mW qM (gQ h.k) := eR.of h.p7 IB (G3 h) fun _ _ _ => .f9
theorem FZ {S : aM} (h : Fx S) : b5 S.K h.mW qM 1 [] aK := bB h.p7 fun _ _ _ _ _ _ us hl => match us, hl with
 | [_], _ => rfl
def fO : List Str := [("words" : Str), ("found" : Str), ("word" : Str)]
def oS : List Str := [("words" : Str)]
abbrev uH : Scope := defScope (top 28)
def iT (k : a6) : MS :=
 (aJ (aO (aL bW (aA (aS (bK (aB 0)) [2] (aN 2) aT (aI (gQ k) 1 aK (aA (aB 2) aC))) aC)) (aN 1))
 (aQ (wW (aU (aD JR (eC .non) (aB 1))) (eC .non) (aB 1))))
def bN (k : a6) : MF := a7 (iT k) fO
theorem DE : FnScope fO oS uH := bF (by decide +kernel)
theorem DT {S : aM} (h : Fx S) : nU (S.body 1 fO uH) (defBody (top 28)) (iT h.k) :=
 (aR (C1 1 (bU fF rfl h.dH rfl (aE (bT (own := [(("word" : Str), 2)]) (cW (jv 0)) (by kernel_rfl) (sA 2) bP (aX (ah rfl) (GZ h) (FZ h) rfl h.xP h.vA (aE (jv 2) aF))) aF)))
 (aW (bG (uP (cA aCw sW (jv 1)) sW (jv 1)))))
theorem jO {S : aM} (h : Fx S) : eR S.P S.w S.K S.mg S.base 2 h.iJ h.k9 oS (bN h.k) := eR.of h.oV DE (DT h) fun _ _ _ => .f9
theorem jJ {S : aM} (h : Fx S) : b5 S.K h.k9 oS 1 [] aK := bB h.oV fun _ _ _ _ _ _ us hl => match us, hl with
 | [_], _ => rfl
def gW : List Str := [("word" : Str)]
def qC : List Str := [("word" : Str)]
abbrev yR : Scope := defScope (top 29)
def kF (k : a6) : MS :=
 (aQ (wW (aU (aD dD (aB 0) (eC (.str ("-" : Str))))) (a8 aC) (aI (bN k) 1 aK (aA (bA "str" splitM (aB 0) (aA (eC (.str ("," : Str))) aC)) aC))))
def hE (k : a6) : MF := a7 (kF k) gW
theorem HX : FnScope gW qC yR := bF (by decide +kernel)
theorem ID {S : aM} (h : Fx S) : nU (S.body 2 gW yR) (defBody (top 29)) (kF h.k) :=
 (aW (bG (uP (cA iC (jv 0) (iX h.G1)) (bZ aF) (aX (ah rfl) (jO h) (jJ h) rfl h.hX h.f7 (aE (cB PySem.F.plainAttrs_str PySem.F.slot_str_split nQ (jv 0) (aE bI aF)) aF)))))
theorem IF {S : aM} (h : Fx S) : eR S.P S.w S.K S.mg S.base 3 h.j3 h.mT qC (hE h.k) := eR.of h.rN HX (ID h) fun _ _ _ => .f9
theorem GP {S : aM} (h : Fx S) : b5 S.K h.mT qC 1 [] aK := bB h.rN fun _ _ _ _ _ _ us hl => match us, hl with
 | [_], _ => rfl
def lH : List Str := [("text" : Str), ("word" : Str), ("words" : Str), ("one" : Str)]
def xI : List Str := [("text" : Str)]
abbrev E1 : Scope := defScope (top 30)
def oD (k : a6) : MS :=
 (aJ (aO (bA "str" splitM (aB 0) (aA (eC (.str (" " : Str))) aC)) (wD 1 (aH (aN 1) (aH (aN 2) bD))))
 (aJ (cO (aU (aD dD (aB 1) (eC (.str ("tear" : Str))))) (aQ (aD bH (a8 (aA (aB 1) aC)) (aL bW (aA (aS (bK (aB 2)) [3] (aN 3) aT (aI (hE k) 1 aK (aA (aB 3) aC))) aC)))) aV)
 (aQ (wW (aU (aD tP (aI (bN k) 1 aK (aA (aB 2) aC)) (eC .non))) (aD bH (a8 (aA (aB 1) aC)) (eOr (aI (bN k) 1 aK (aA (aB 2) aC)) (a8 aC))) (a8 aC)))))
def jB (k : a6) : MF := a7 (oD k) lH
theorem ND : FnScope lH xI E1 := bF (by decide +kernel)
theorem OD {S : aM} (h : Fx S) : nU (S.body 3 lH E1) (defBody (top 30)) (oD h.k) :=
 (aR (tF (cB PySem.F.plainAttrs_str PySem.F.slot_str_split nQ (jv 0) (aE bI aF)) (WL (n := 1) (dR (FG 1) (BI (FG 2)))))
 (aR (gS (cA iC (jv 1) (iX h.HG)) (aW (bG (bS eJ (bZ (aE (jv 1) aF)) (bU fF rfl h.dH rfl (aE (bT (own := [(("one" : Str), 3)]) (cW (jv 2)) (by kernel_rfl) (sA 3) bP (aX (ah rfl) (IF h) (GP h) rfl h.y5 h.uM (aE (jv 3) aF))) aF))))) c5)
 (aW (bG (uP (cA J8 (aX (ah rfl) (jO h) (jJ h) rfl h.hX h.f7 (aE (jv 2) aF)) sW) (bS eJ (bZ (aE (jv 1) aF)) (aCA (aX (ah rfl) (jO h) (jJ h) rfl h.hX h.f7 (aE (jv 2) aF)) (o8 (bZ aF)))) (bZ aF))))))
theorem N2 {S : aM} (h : Fx S) : eR S.P S.w S.K S.mg S.base 4 h.n7 h.r4 xI (jB h.k) := eR.of h.w8 ND (OD h) fun _ _ _ => .f9
theorem OT {S : aM} (h : Fx S) : b5 S.K h.r4 xI 1 [] aK := bB h.w8 fun _ _ _ _ _ _ us hl => match us, hl with
 | [_], _ => rfl
def lB : List Str := [("line" : Str), ("ahead" : Str), ("mark" : Str), ("behind" : Str), ("deeds" : Str), ("fates" : Str), ("one" : Str)]
def wV : List Str := [("line" : Str)]
abbrev EF : Scope := defScope (top 31)
def nX (k : a6) : MS :=
 (aJ (aO (bA "str" BF (aB 0) (aA (eC (.str (" ! " : Str))) aC)) (bJ 3 (aH (aN 1) (aH (aN 2) (aH (aN 3) bD)))))
 (aJ (aO (wW (aU (aD dD (aB 1) (eC (.str ("-" : Str))))) (a8 aC) (aL bW (aA (aS (bK (bA "str" splitM (aB 1) (aA (eC (.str (" ; " : Str))) aC))) [6] (aN 6) aT (aI (jB k) 1 aK (aA (aB 6) aC))) aC))) (aN 4))
 (aJ (aO (a8 aC) (aN 5))
 (aJ (cO (aU (aD mS (aB 2) (eC (.str ("" : Str))))) (aO (aL bW (aA (aS (bK (bA "str" splitM (aB 3) (aA (eC (.str (" , " : Str))) aC))) [6] (aN 6) aT (aI (bN k) 1 aK (aA (bA "str" splitM (aB 6) (aA (eC (.str (" " : Str))) aC)) aC))) aC)) (aN 5)) aV)
 (aQ (wW (eA (aI (gN k) 1 aK (aA (a8 (aA (aB 4) (aA (aB 5) aC))) aC))) (a8 (aA (aB 4) (aA (aB 5) aC))) (eC .non)))))))
def i6 (k : a6) : MF := a7 (nX k) lB
theorem OM : FnScope lB wV EF := bF (by decide +kernel)
theorem O6 {S : aM} (h : Fx S) : nU (S.body 6 lB EF) (defBody (top 31)) (nX h.k) :=
 (aR (tF (cB PySem.F.plainAttrs_str PySem.F.slot_str_partition X7 (jv 0) (aE (iX h.i4) aF)) (BP (n := 3) (dR (FG 1) (dR (FG 2) (dR (FG 3) t8)))))
 (aR (C1 4 (uP (cA iC (jv 1) (iX h.G1)) (bZ aF) (bU fF rfl h.dH rfl (aE (bT (own := [(("one" : Str), 6)]) (cW (cB PySem.F.plainAttrs_str PySem.F.slot_str_split nQ (jv 1) (aE (iX h.kI) aF))) (by kernel_rfl) (sA 6) bP (aX (ah rfl) (N2 h) (OT h) rfl h.D8 h.AD (aE (jv 6) aF))) aF))))
 (aR (C1 5 (bZ aF))
 (aR (gS (cA rD (jv 2) bI) (aW (C1 5 (bU fF rfl h.dH rfl (aE (bT (own := [(("one" : Str), 6)]) (cW (cB PySem.F.plainAttrs_str PySem.F.slot_str_split nQ (jv 3) (aE (iX h.kM) aF))) (by kernel_rfl) (sA 6) bP (aX (ah rfl) (jO h) (jJ h) rfl h.hX h.f7 (aE (cB PySem.F.plainAttrs_str PySem.F.slot_str_split nQ (jv 6) (aE bI aF)) aF))) aF)))) c5)
 (aW (bG (uP (fE (aX (ah rfl) (zX h) (B3 h) rfl h.wA h.tX (aE (bZ (aE (jv 4) (aE (jv 5) aF))) aF))) (bZ (aE (jv 4) (aE (jv 5) aF))) sW)))))))
theorem N1 {S : aM} (h : Fx S) : eR S.P S.w S.K S.mg S.base 7 h.nY h.rT wV (i6 h.k) := eR.of h.xG OM (O6 h) fun _ _ _ => .f9
theorem PN {S : aM} (h : Fx S) : b5 S.K h.rT wV 1 [] aK := bB h.xG fun _ _ _ _ _ _ us hl => match us, hl with
 | [_], _ => rfl
def fL : List Str := [("text" : Str), ("found" : Str), ("at" : Str), ("line" : Str), ("turn" : Str)]
def lA : List Str := [("text" : Str)]
abbrev vB : Scope := defScope (top 32)
def hZ (k : a6) : MS :=
 (aJ (cO (cH (eA (aL (fZ gI) (aA (aB 0) (aA (eC (.ty "str")) aC))))) L4 aV)
 (aJ (aO (eNew aC) (aN 1))
 (aJ (fY (cK lN (aA (wW (aU (aD mS (aB 0) (eC (.str ("" : Str))))) (bA "str" splitM (aB 0) (aA (eC (.str ("\n" : Str))) aC)) (i3 aC)) aC)) (bJ 2 (aH (aN 2) (aH (aN 3) bD))) (aJ (aO (aI (i6 k) 1 aK (aA (aB 3) aC)) (aN 4))
 (aJ (cO (aU (aD isM (aB 4) (eC .non))) L4 aV)
 (cF (bA "list" b8 (aB 1) (aA (aB 4) aC))))))
 (aQ (aL bW (aA (aB 1) aC))))))
def dX (k : a6) : MF := a7 (hZ k) fL
theorem DG : FnScope fL lA vB := bF (by decide +kernel)
theorem DB {S : aM} (h : Fx S) : nU (S.body 7 fL vB) (defBody (top 32)) (hZ h.k) :=
 (aR (gS (mG (fE (bE (nM jH) rfl h.cC rfl (aE (jv 0) (aE (nF rfl h.sE rfl) aF))))) (aW TZ) c5)
 (aR (C1 1 (WJ aF))
 (aR (G8 (WZ rfl h.xZ (aE (uP (cA rD (jv 0) bI) (cB PySem.F.plainAttrs_str PySem.F.slot_str_split nQ (jv 0) (aE bI aF)) (kN aF)) aF)) (BP (n := 2) (dR (FG 2) (dR (FG 3) t8))) (aR (C1 4 (aX (ah rfl) (N1 h) (PN h) rfl h.E6 h.AU (aE (jv 3) aF)))
 (aR (gS (cA aC2 (jv 4) sW) (aW TZ) c5)
 (aW (G5 (cB PySem.F.plainAttrs_list PySem.F.slot_list_append EW (jv 1) (aE (jv 4) aF)))))))
 (aW (bG (bU fF rfl h.dH rfl (aE (jv 1) aF)))))))
theorem sH {S : aM} (h : Fx S) : eR S.P S.w S.K S.mg S.base 8 h.h9 h.iM lA (dX h.k) := eR.of h.k8 DG (DB h) fun _ _ _ => .f9
theorem DK {S : aM} (h : Fx S) : b5 S.K h.iM lA 1 [] aK := bB h.k8 fun _ _ _ _ _ _ us hl => match us, hl with
 | [_], _ => rfl
abbrev eD (k : a6) : List D → List D → List D := pick [(true, 0)]
theorem qT {S : aM} (h : Fx S) : b5 S.K h.iM lA 0 [("text" : Str)] (eD h.k) := E2 h.k8 0 _ _ (fun _ _ _ _ _ _ us ws h1 h2 => match us, ws, h1, h2 with
 | [], [_], _, _ => rfl) fun xs zs h1 h2 => match xs, zs, h1, h2 with
 | [], [_], _, _ => rfl
def nS : List Str := [("some" : Str), ("between" : Str), ("one" : Str)]
def CS : List Str := [("some" : Str), ("between" : Str)]
abbrev K0 : Scope := defScope (top 23)
def nT (k : a6) : MS :=
 (aJ (cO (aU (aD dD (aL cU (aA (aB 0) aC)) (eC (.int 0)))) (aQ (eC (.str ("-" : Str)))) aV)
 (aQ (bA "str" joinM (aB 1) (aA (aS (bK (aB 0)) [2] (aN 2) aT (aL mI (aA (aB 2) aC))) aC))))
def eU (k : a6) : MF := a7 (nT k) nS
theorem R0 : FnScope nS CS K0 := bF (by decide +kernel)
theorem RF {S : aM} (h : Fx S) : nU (S.body 0 nS K0) (defBody (top 23)) (nT h.k) :=
 (aR (gS (cA iC (bE oX rfl h.sP rfl (aE (jv 0) aF)) aY) (aW (bG (iX h.G1))) c5)
 (aW (bG (cB PySem.F.plainAttrs_str PySem.F.slot_str_join iK (jv 1) (aE (bT (own := [(("one" : Str), 2)]) (cW (jv 0)) (by kernel_rfl) (sA 2) bP (bU t6 rfl h.sE rfl (aE (jv 2) aF))) aF)))))
theorem wJ {S : aM} (h : Fx S) : eR S.P S.w S.K S.mg S.base 1 h.qN h.vM CS (eU h.k) := eR.of h.B0 R0 (RF h) fun _ _ _ => .f9
theorem wG {S : aM} (h : Fx S) : b5 S.K h.vM CS 2 [] aK := bB h.B0 fun _ _ _ _ _ _ us hl => match us, hl with
 | [_, _], _ => rfl
def hU : List Str := [("deed" : Str), ("word" : Str), ("rest" : Str), ("part" : Str), ("one" : Str)]
def qX : List Str := [("deed" : Str)]
abbrev x7 : Scope := defScope (top 24)
def jS (k : a6) : MS :=
 (aJ (aO (aB 0) (pQ 1 (aH (aN 1) (aH (aN 2) bD))))
 (aJ (cO (aU (aD dD (aB 1) (eC (.str ("tear" : Str))))) (aQ (bA "str" joinM (eC (.str (" " : Str))) (aA (aD bH (i3 (aA (aB 1) aC)) (aS (bK (aB 2)) [3] (aN 3) aT (aI (eU k) 2 aK (aA (aB 3) (aA (eC (.str ("," : Str))) aC))))) aC))) aV)
 (aQ (bA "str" joinM (eC (.str (" " : Str))) (aA (aD bH (i3 (aA (aB 1) aC)) (aS (bK (aB 2)) [4] (aN 4) aT (aL mI (aA (aB 4) aC)))) aC)))))
def gP (k : a6) : MF := a7 (jS k) hU
theorem FR : FnScope hU qX x7 := bF (by decide +kernel)
theorem G0 {S : aM} (h : Fx S) : nU (S.body 1 hU x7) (defBody (top 24)) (jS h.k) :=
 (aR (tF (jv 0) (QO (n := 1) (dR (FG 1) (BI (FG 2)))))
 (aR (gS (cA iC (jv 1) (iX h.HG)) (aW (bG (cB PySem.F.plainAttrs_str PySem.F.slot_str_join iK bI (aE (bS eJ (kN (aE (jv 1) aF)) (bT (own := [(("part" : Str), 3)]) (cW (jv 2)) (by kernel_rfl) (sA 3) bP (aX (ah rfl) (wJ h) (wG h) rfl h.uD h.rV (aE (jv 3) (aE bI aF))))) aF)))) c5)
 (aW (bG (cB PySem.F.plainAttrs_str PySem.F.slot_str_join iK bI (aE (bS eJ (kN (aE (jv 1) aF)) (bT (own := [(("one" : Str), 4)]) (cW (jv 2)) (by kernel_rfl) (sA 4) bP (bU t6 rfl h.sE rfl (aE (jv 4) aF)))) aF))))))
theorem FC {S : aM} (h : Fx S) : eR S.P S.w S.K S.mg S.base 2 h.j6 h.m7 qX (gP h.k) := eR.of h.qI FR (G0 h) fun _ _ _ => .f9
theorem FL {S : aM} (h : Fx S) : b5 S.K h.m7 qX 1 [] aK := bB h.qI fun _ _ _ _ _ _ us hl => match us, hl with
 | [_], _ => rfl
def gO : List Str := [("turn" : Str), ("deeds" : Str), ("fates" : Str), ("text" : Str), ("deed" : Str), ("fate" : Str), ("one" : Str)]
def qG : List Str := [("turn" : Str)]
abbrev yT : Scope := defScope (top 25)
def kB (k : a6) : MS :=
 (aJ (aO (aB 0) (bJ 2 (aH (aN 1) (aH (aN 2) bD))))
 (aJ (aO (aI (eU k) 2 aK (aA (aS (bK (aB 1)) [4] (aN 4) aT (aI (gP k) 1 aK (aA (aB 4) aC))) (aA (eC (.str (" ; " : Str))) aC))) (aN 3))
 (aJ (cO (aU (aD dD (aB 2) (a8 aC))) (aQ (aB 3)) aV)
 (aQ (aD bH (aD bH (aB 3) (eC (.str (" ! " : Str)))) (aI (eU k) 2 aK (aA (aS (bK (aB 2)) [5] (aN 5) aT (bA "str" joinM (eC (.str (" " : Str))) (aA (aS (bK (aB 5)) [6] (aN 6) aT (aL mI (aA (aB 6) aC))) aC))) (aA (eC (.str (" , " : Str))) aC))))))))
def g6 (k : a6) : MF := a7 (kB k) gO
theorem GB : FnScope gO qG yT := bF (by decide +kernel)
theorem FD {S : aM} (h : Fx S) : nU (S.body 2 gO yT) (defBody (top 25)) (kB h.k) :=
 (aR (tF (jv 0) (BP (n := 2) (dR (FG 1) (dR (FG 2) t8))))
 (aR (C1 3 (aX (ah rfl) (wJ h) (wG h) rfl h.uD h.rV (aE (bT (own := [(("deed" : Str), 4)]) (cW (jv 1)) (by kernel_rfl) (sA 4) bP (aX (ah rfl) (FC h) (FL h) rfl h.xS h.vU (aE (jv 4) aF))) (aE (iX h.kI) aF))))
 (aR (gS (cA iC (jv 2) (bZ aF)) (aW (bG (jv 3))) c5)
 (aW (bG (bS eJ (bS eJ (jv 3) (iX h.i4)) (aX (ah rfl) (wJ h) (wG h) rfl h.uD h.rV (aE (bT (own := [(("fate" : Str), 5)]) (cW (jv 2)) (by kernel_rfl) (sA 5) bP (cB PySem.F.plainAttrs_str PySem.F.slot_str_join iK bI (aE (bT (own := [(("one" : Str), 6)]) (cW (jv 5)) (by kernel_rfl) (sA 6) bP (bU t6 rfl h.sE rfl (aE (jv 6) aF))) aF))) (aE (iX h.kM) aF)))))))))
theorem GS {S : aM} (h : Fx S) : eR S.P S.w S.K S.mg S.base 3 h.j8 h.mO qG (g6 h.k) := eR.of h.qQ GB (FD h) fun _ _ _ => .f9
theorem IA {S : aM} (h : Fx S) : b5 S.K h.mO qG 1 [] aK := bB h.qQ fun _ _ _ _ _ _ us hl => match us, hl with
 | [_], _ => rfl
def fP : List Str := [("story" : Str), ("turn" : Str)]
def k6 : List Str := [("story" : Str)]
abbrev vP : Scope := defScope (top 26)
def hY (k : a6) : MS :=
 (aQ (bA "str" joinM (eC (.str ("\n" : Str))) (aA (aS (bK (aB 0)) [1] (aN 1) aT (aI (g6 k) 1 aK (aA (aB 1) aC))) aC)))
def bO (k : a6) : MF := a7 (hY k) fP
theorem DZ : FnScope fP k6 vP := bF (by decide +kernel)
theorem DF {S : aM} (h : Fx S) : nU (S.body 3 fP vP) (defBody (top 26)) (hY h.k) :=
 (aW (bG (cB PySem.F.plainAttrs_str PySem.F.slot_str_join iK bI (aE (bT (own := [(("turn" : Str), 1)]) (cW (jv 0)) (by kernel_rfl) (sA 1) bP (aX (ah rfl) (GS h) (IA h) rfl h.yP h.vF (aE (jv 1) aF))) aF))))
theorem gH {S : aM} (h : Fx S) : eR S.P S.w S.K S.mg S.base 4 h.iO h.iI k6 (bO h.k) := eR.of h.kZ DZ (DF h) fun _ _ _ => .f9
theorem jF {S : aM} (h : Fx S) : b5 S.K h.iI k6 1 [] aK := bB h.kZ fun _ _ _ _ _ _ us hl => match us, hl with
 | [_], _ => rfl
abbrev dS (k : a6) : List D → List D → List D := pick [(true, 0)]
theorem pV {S : aM} (h : Fx S) : b5 S.K h.iI k6 0 [("story" : Str)] (dS h.k) := E2 h.kZ 0 _ _ (fun _ _ _ _ _ _ us ws h1 h2 => match us, ws, h1, h2 with
 | [], [_], _, _ => rfl) fun xs zs h1 h2 => match xs, zs, h1, h2 with
 | [], [_], _, _ => rfl
def fM : List Str := [("_law_told" : Str), ("_law_kept" : Str), ("_law_due" : Str), ("_law_found" : Str)]
def oP : List Str := [("_law_told" : Str)]
abbrev u7 : Scope := defScope (top 45)
def iE (k : a6) : MS :=
 (aJ (GY 1 2 (aA (aL sF (aA (aB 0) aC)) (aA (aI (bX k) 1 aK (aA (aB 0) aC)) aC)))
 (aJ (cO (fX (aU (aD mS (aI (bO k) 1 aK (aA (aB 0) aC)) (aB 2))) (fX (aU (aD mS (tV (bO k) 0 1 (dS k) aC (aA (aB 0) aC)) (aB 2))) (aU (aD tP (aI (fB k) 1 aK (aA (aB 0) aC)) (eC (.bl true)))))) (aQ (eC (.bl false))) aV)
 (aJ (aO (i3 (aA (aL sF (aA (aI (dX k) 1 aK (aA (aB 2) aC)) aC)) (aA (aL sF (aA (tV (dX k) 0 1 (eD k) aC (aA (aB 2) aC)) aC)) aC))) (aN 3))
 (aQ (fK (aD dD (aB 3) (i3 (aA (aB 1) (aA (aB 1) aC)))) (aD dD (aL sF (aA (aB 0) aC)) (aB 1)))))))
def fV (k : a6) : MF := a7 (iE k) fM
theorem C8 : FnScope fM oP u7 := bF (by decide +kernel)
theorem C7 {S : aM} (h : Fx S) : nU (S.body 8 fM u7) (defBody (top 45)) (iE h.k) :=
 (aR (aAy 1 2 (aE (bE (vL h.VY) rfl h.CD rfl (aE (jv 0) aF)) (aE (aX (ah rfl) (tE h) (tW h) rfl h.mY h.l6 (aE (jv 0) aF)) aF)))
 (aR (gS (SR (vO (cA rD (aX (ah rfl) (gH h) (jF h) rfl h.fU h.eY (aE (jv 0) aF)) (jv 2)) (vO (cA rD (aCv (ah rfl) (gH h) (pV h) rfl h.fU h.eY (P6 (jv 0) TH)) (jv 2)) (CV (cA J8 (aX (ah rfl) (M3 h) (JM h) rfl h.AQ h.yN (aE (jv 0) aF)) AV))))) (aW (bG AV)) c5)
 (aR (C1 3 (kN (aE (bE (vL h.VY) rfl h.CD rfl (aE (aX (ah rfl) (sH h) (DK h) rfl h.o4 h.nH (aE (jv 2) aF)) aF)) (aE (bE (vL h.VY) rfl h.CD rfl (aE (aCv (ah rfl) (sH h) (qT h) rfl h.o4 h.nH (P6 (jv 2) TH)) aF)) aF))))
 (aW (bG (mF (nD iC (jv 3) (kN (aE (jv 1) (aE (jv 1) aF)))) (o8 (nD iC (bE (vL h.VY) rfl h.CD rfl (aE (jv 0) aF)) (jv 1)))))))))
theorem sU {S : aM} (h : Fx S) : eR S.P S.w S.K S.mg S.base 9 h.iN h.k7 oP (fV h.k) := eR.of h.oM C8 (C7 h) fun _ _ _ => .f9
theorem sM {S : aM} (h : Fx S) : b5 S.K h.k7 oP 1 [] aK := bB h.oM fun _ _ _ _ _ _ us hl => match us, hl with
 | [_], _ => rfl
def eZ : List Str := [("_law_deck_here" : Str)]
def nO : List Str := [("_law_deck_here" : Str)]
abbrev sJ : Scope := defScope (top 37)
def f6 (k : a6) : MS :=
 (aQ (aD aZ (i3 (aA (eC (.int 0)) (aA (eC (.int 9)) (aA (eC (.int 10)) (aA (eC (.int 99)) (aA (eC (.int 100)) (aA (eC (.int 999)) (aA (aI (cD k) 2 aK (aA (aB 0) (aA (eC (.int 10)) aC))) (aA (aI (cD k) 2 aK (aA (aB 0) (aA (eC (.int 1000)) aC))) aC))))))))) (aI (cD k) 2 aK (aA (aB 0) (aA (eC (.int 8)) aC)))))
def b7 (k : a6) : MF := a7 (f6 k) eZ
theorem AK : FnScope eZ nO sJ := bF (by decide +kernel)
theorem CG {S : aM} (h : Fx S) : nU (S.body 1 eZ sJ) (defBody (top 37)) (f6 h.k) :=
 (aW (bG (j5 (kN (aE aY (aE aY (aE aY (aE aY (aE aY (aE aY (aE (aX (ah rfl) (cM h) (cJ h) rfl h.cN h.b9 (aE (jv 0) (aE aY aF))) (aE (aX (ah rfl) (cM h) (cJ h) rfl h.cN h.b9 (aE (jv 0) (aE aY aF))) aF))))))))) (aX (ah rfl) (cM h) (cJ h) rfl h.cN h.b9 (aE (jv 0) (aE aY aF))))))
theorem lP {S : aM} (h : Fx S) : eR S.P S.w S.K S.mg S.base 2 h.gA h.jG nO (b7 h.k) := eR.of h.nJ AK (CG h) fun _ _ _ => .f9
theorem lQ {S : aM} (h : Fx S) : b5 S.K h.jG nO 1 [] aK := bB h.nJ fun _ _ _ _ _ _ us hl => match us, hl with
 | [_], _ => rfl
def jE : List Str := [("_law_deck_here" : Str), ("_law_fewest" : Str), ("_law_many" : Str), ("_law_k" : Str)]
def tK : List Str := [("_law_deck_here" : Str), ("_law_fewest" : Str)]
abbrev B6 : Scope := defScope (top 38)
def lW (k : a6) : MS :=
 (aJ (aO (aD bH (aB 1) (aI (cD k) 2 aK (aA (aB 0) (aA (eC (.int 4)) aC)))) (aN 2))
 (aQ (aL bW (aA (zN AA (aS (cK gG (aA (aB 2) aC)) [3] (aN 3) aT (aI (b7 k) 1 aK (aA (aB 0) aC)))) aC))))
def fH (k : a6) : MF := a7 (lW k) jE
theorem L6 : FnScope jE tK B6 := bF (by decide +kernel)
theorem K4 {S : aM} (h : Fx S) : nU (S.body 2 jE B6) (defBody (top 38)) (lW h.k) :=
 (aR (C1 2 (bS eJ (jv 1) (aX (ah rfl) (cM h) (cJ h) rfl h.cN h.b9 (aE (jv 0) (aE aY aF)))))
 (aW (bG (bU fF rfl h.dH rfl (aE (ZC rfl h.J7 rfl h.Z0 (bT (own := [(("_law_k" : Str), 3)]) (i9 rfl h.mU (aE (jv 2) aF)) (by kernel_rfl) (sA 3) bP (aX (ah rfl) (lP h) (lQ h) rfl h.jL h.iP (aE (jv 0) aF)))) aF)))))
theorem x8 {S : aM} (h : Fx S) : eR S.P S.w S.K S.mg S.base 3 h.lZ h.oQ tK (fH h.k) := eR.of h.tR L6 (K4 h) fun _ _ _ => .f9
theorem yB {S : aM} (h : Fx S) : b5 S.K h.oQ tK 2 [] aK := bB h.tR fun _ _ _ _ _ _ us hl => match us, hl with
 | [_, _], _ => rfl
def qJ : List Str := [("_law_deck_here" : Str), ("_law_some" : Str)]
def rE : List Str := [("_law_deck_here" : Str), ("_law_some" : Str)]
abbrev yU : Scope := defScope (top 36)
def yS (k : a6) : MS :=
 (aQ (aD aZ (aB 1) (aI (cD k) 2 aK (aA (aB 0) (aA (aL cU (aA (aB 1) aC)) aC)))))
def xX (k : a6) : MF := a7 (yS k) qJ
theorem HY : FnScope qJ rE yU := bF (by decide +kernel)
theorem GW {S : aM} (h : Fx S) : nU (S.body 1 qJ yU) (defBody (top 36)) (yS h.k) :=
 (aW (bG (j5 (jv 1) (aX (ah rfl) (cM h) (cJ h) rfl h.cN h.b9 (aE (jv 0) (aE (bE oX rfl h.sP rfl (aE (jv 1) aF)) aF))))))
theorem HQ {S : aM} (h : Fx S) : eR S.P S.w S.K S.mg S.base 2 h.jX h.mM rE (xX h.k) := eR.of h.qZ HY (GW h) fun _ _ _ => .f9
theorem GV {S : aM} (h : Fx S) : b5 S.K h.mM rE 2 [] aK := bB h.qZ fun _ _ _ _ _ _ us hl => match us, hl with
 | [_, _], _ => rfl
def i8 : List Str := [("_law_deck_here" : Str), ("_law_word" : Str), ("_law_many" : Str), ("_law_k" : Str)]
def t5 : List Str := [("_law_deck_here" : Str)]
abbrev BO : Scope := defScope (top 39)
def l9 (k : a6) : MS :=
 (aJ (aO (aI (xX k) 2 aK (aA (aB 0) (aA (i3 (aA (eC (.str ("fall" : Str))) (aA (eC (.str ("stop" : Str))) (aA (eC (.str ("rise" : Str))) (aA (eC (.str ("down" : Str))) (aA (eC (.str ("up" : Str))) (aA (eC (.str ("rank" : Str))) (aA (eC (.str ("tear" : Str))) (aA (eC (.str ("tear" : Str))) (aA (eC (.str ("heal" : Str))) (aA (eC (.str ("ask" : Str))) aC))))))))))) aC))) (aN 1))
 (aJ (aO (bA "dict" getM (NU (mA (eC (.str ("rank" : Str))) (eC (.int 3)) (mA (eC (.str ("heal" : Str))) (eC (.int 0)) (mA (eC (.str ("ask" : Str))) (eC (.int 2)) R7)))) (aA (aB 1) (aA (eC (.int 1)) aC))) (aN 2))
 (aJ (cO (aU (aD dD (aB 1) (eC (.str ("tear" : Str))))) (aQ (a8 (aA (aB 1) (aA (aI (fH k) 2 aK (aA (aB 0) (aA (eC (.int 1)) aC))) (aA (aI (fH k) 2 aK (aA (aB 0) (aA (eC (.int 0)) aC))) aC))))) aV)
 (aQ (aD bH (a8 (aA (aB 1) aC)) (aL bW (aA (aS (cK gG (aA (aB 2) aC)) [3] (aN 3) aT (aI (b7 k) 1 aK (aA (aB 0) aC))) aC)))))))
def jD (k : a6) : MF := a7 (l9 k) i8
theorem L5 : FnScope i8 t5 BO := bF (by decide +kernel)
theorem J6 {S : aM} (h : Fx S) : nU (S.body 3 i8 BO) (defBody (top 39)) (l9 h.k) :=
 (aR (C1 1 (aX (ah rfl) (HQ h) (GV h) rfl h.yA h.uE (aE (jv 0) (aE (kN (aE bI (aE bI (aE bI (aE bI (aE bI (aE bI (aE bI (aE bI (aE bI (aE bI aF))))))))))) aF))))
 (aR (C1 2 (cB PySem.F.plainAttrs_dict PySem.F.slot_dict_get aBk (W4 (rX bI aY (rX bI aY (rX bI aY UA)))) (aE (jv 1) (aE aY aF))))
 (aR (gS (cA iC (jv 1) bI) (aW (bG (bZ (aE (jv 1) (aE (aX (ah rfl) (x8 h) (yB h) rfl h.tY h.qH (aE (jv 0) (aE aY aF))) (aE (aX (ah rfl) (x8 h) (yB h) rfl h.tY h.qH (aE (jv 0) (aE aY aF))) aF)))))) c5)
 (aW (bG (bS eJ (bZ (aE (jv 1) aF)) (bU fF rfl h.dH rfl (aE (bT (own := [(("_law_k" : Str), 3)]) (i9 rfl h.mU (aE (jv 2) aF)) (by kernel_rfl) (sA 3) bP (aX (ah rfl) (lP h) (lQ h) rfl h.jL h.iP (aE (jv 0) aF))) aF))))))))
theorem JH {S : aM} (h : Fx S) : eR S.P S.w S.K S.mg S.base 4 h.lR h.pC t5 (jD h.k) := eR.of h.tD L5 (J6 h) fun _ _ _ => .f9
theorem IZ {S : aM} (h : Fx S) : b5 S.K h.pC t5 1 [] aK := bB h.tD fun _ _ _ _ _ _ us hl => match us, hl with
 | [_], _ => rfl
def gU : List Str := [("_law_deck_here" : Str), ("_law_acts" : Str), ("_law_lots" : Str), ("_law_k" : Str), ("_law_j" : Str)]
def rL : List Str := [("_law_deck_here" : Str)]
abbrev yQ : Scope := defScope (top 40)
def jT (k : a6) : MS :=
 (aJ (aO (aL bW (aA (aS (cK gG (aA (aI (cD k) 2 aK (aA (aB 0) (aA (eC (.int 5)) aC))) aC)) [3] (aN 3) aT (aI (jD k) 1 aK (aA (aB 0) aC))) aC)) (aN 1))
 (aJ (aO (aS (cK gG (aA (aD aZ (i3 (aA (eC (.int 0)) (aA (aI (cD k) 2 aK (aA (aB 0) (aA (eC (.int 5)) aC))) aC))) (aI (cD k) 2 aK (aA (aB 0) (aA (eC (.int 2)) aC)))) aC)) [4] (aN 4) aT (aL bW (aA (aS (cK gG (aA (eC (.int 4)) aC)) [3] (aN 3) aT (aI (b7 k) 1 aK (aA (aB 0) aC))) aC))) (aN 2))
 (aQ (a8 (aA (aB 1) (aA (aL bW (aA (aB 2) aC)) aC))))))
def gR (k : a6) : MF := a7 (jT k) gU
theorem GG : FnScope gU rL yQ := bF (by decide +kernel)
theorem GH {S : aM} (h : Fx S) : nU (S.body 4 gU yQ) (defBody (top 40)) (jT h.k) :=
 (aR (C1 1 (bU fF rfl h.dH rfl (aE (bT (own := [(("_law_k" : Str), 3)]) (i9 rfl h.mU (aE (aX (ah rfl) (cM h) (cJ h) rfl h.cN h.b9 (aE (jv 0) (aE aY aF))) aF)) (by kernel_rfl) (sA 3) bP (aX (ah rfl) (JH h) (IZ h) rfl h.BY h.yF (aE (jv 0) aF))) aF)))
 (aR (jsc 2 (own := [(("_law_j" : Str), 4)]) (i9 rfl h.mU (aE (j5 (kN (aE aY (aE (aX (ah rfl) (cM h) (cJ h) rfl h.cN h.b9 (aE (jv 0) (aE aY aF))) aF))) (aX (ah rfl) (cM h) (cJ h) rfl h.cN h.b9 (aE (jv 0) (aE aY aF)))) aF)) (by kernel_rfl) (sA 4) bP (bU fF rfl h.dH rfl (aE (bT (own := [(("_law_k" : Str), 3)]) (i9 rfl h.mU (aE aY aF)) (by kernel_rfl) (sA 3) bP (aX (ah rfl) (lP h) (lQ h) rfl h.jL h.iP (aE (jv 0) aF))) aF)))
 (aW (bG (bZ (aE (jv 1) (aE (bU fF rfl h.dH rfl (aE (jv 2) aF)) aF)))))))
theorem IP {S : aM} (h : Fx S) : eR S.P S.w S.K S.mg S.base 5 h.j4 h.mZ rL (gR h.k) := eR.of h.rM GG (GH h) fun _ _ _ => .f9
theorem IE {S : aM} (h : Fx S) : b5 S.K h.mZ rL 1 [] aK := bB h.rM fun _ _ _ _ _ _ us hl => match us, hl with
 | [_], _ => rfl
def fQ : List Str := [("_law_deck_here" : Str), ("_law_many" : Str), ("_law_k" : Str)]
def pK : List Str := [("_law_deck_here" : Str), ("_law_many" : Str)]
abbrev uA : Scope := defScope (top 41)
def h8 (k : a6) : MS :=
 (aQ (aL bW (aA (aS (cK gG (aA (aB 1) aC)) [2] (aN 2) aT (aI (gR k) 1 aK (aA (aB 0) aC))) aC)))
def eQ (k : a6) : MF := a7 (h8 k) fQ
theorem DC : FnScope fQ pK uA := bF (by decide +kernel)
theorem DY {S : aM} (h : Fx S) : nU (S.body 5 fQ uA) (defBody (top 41)) (h8 h.k) :=
 (aW (bG (bU fF rfl h.dH rfl (aE (bT (own := [(("_law_k" : Str), 2)]) (i9 rfl h.mU (aE (jv 1) aF)) (by kernel_rfl) (sA 2) bP (aX (ah rfl) (IP h) (IE h) rfl h.yZ h.uN (aE (jv 0) aF))) aF))))
theorem DH {S : aM} (h : Fx S) : eR S.P S.w S.K S.mg S.base 6 h.iD h.kS pK (eQ h.k) := eR.of h.pI DC (DY h) fun _ _ _ => .f9
theorem DW {S : aM} (h : Fx S) : b5 S.K h.kS pK 2 [] aK := bB h.pI fun _ _ _ _ _ _ us hl => match us, hl with
 | [_, _], _ => rfl
def QL : List Str := [("_law_script" : Str), ("_law_deck_here" : Str), ("_law_some" : Str), ("_law_k" : Str), ("_law_told" : Str), ("_law_one" : Str), ("_law_two" : Str)]
def ZR : List Str := [("_law_script" : Str)]
abbrev aAb : Scope := defScope (top 46)
def U6 (k : a6) : MS :=
 (aJ (aO (aI (qO k) 1 aK (aA (aB 0) aC)) (aN 1))
 (aJ (aO (eNew (aA (a8 aC) (aA (a8 (aA (a8 (aA (a8 aC) (aA (a8 aC) aC))) aC)) (aA (a8 (aA (a8 (aA (a8 aC) (aA (a8 aC) aC))) (aA (a8 (aA (a8 aC) (aA (a8 aC) aC))) aC))) aC)))) (aN 2))
 (aJ (fY (cK gG (aA (eC (.int 4)) aC)) (aN 3) (cF (bA "list" b8 (aB 2) (aA (aI (eQ k) 2 aK (aA (aB 1) (aA (aD aZ (i3 (aA (aI (cD k) 2 aK (aA (aB 1) (aA (eC (.int 9)) aC))) (aA (eC (.int 100)) aC))) (aL AS (aA (aD dD (aI (cD k) 2 aK (aA (aB 1) (aA (eC (.int 8)) aC))) (eC (.int 5))) aC))) aC))) aC))))
 (aJ (fY (bK (aD RT (aB 2) (qF m9 (aB 2) (cG (eC (.int 3))) (cG (eC (.int 4)))))) (aN 4) (cO (cH (eA (aI (fV k) 1 aK (aA (aB 4) aC)))) (aQ (eC (.bl false))) aV))
 (aJ (fY (cK zlM (aA (qF m9 (aB 2) (cG (eC (.int 1))) c6) (aA (qF m9 (aB 2) (cG (eC (.int 2))) c6) aC))) (bJ 2 (aH (aN 5) (aH (aN 6) bD))) (cO (fW (aU (aD mS (aB 5) (a8 aC))) (fW (aU (aD mS (aB 6) (a8 aC))) (aU (aD mS (aI (bO k) 1 aK (aA (aD bH (aB 5) (aB 6)) aC)) (aD bH (aD bH (aI (bO k) 1 aK (aA (aB 5) aC)) (eC (.str ("\n" : Str)))) (aI (bO k) 1 aK (aA (aB 6) aC))))))) (aQ (eC (.bl false))) aV))
 (aQ (aD dD (aS (bK (aB 2)) [4] (aN 4) (cH (eA (aI (fV k) 1 aK (aA (aB 4) aC)))) (aB 4)) (i3 aC))))))))
def LO (k : a6) : MF := a7 (U6 k) QL
theorem aAk : FnScope QL ZR aAb := bF (by decide +kernel)
theorem aAI {S : aM} (h : Fx S) : nU (S.body 9 QL aAb) (defBody (top 46)) (U6 h.k) :=
 (aR (C1 1 (aX (ah rfl) (H6 h) (HF h) rfl h.x9 h.vH (aE (jv 0) aF)))
 (aR (C1 2 (WJ (aE (bZ aF) (aE (bZ (aE (bZ (aE (bZ aF) (aE (bZ aF) aF))) aF)) (aE (bZ (aE (bZ (aE (bZ aF) (aE (bZ aF) aF))) (aE (bZ (aE (bZ aF) (aE (bZ aF) aF))) aF))) aF)))))
 (aR (G8 (i9 rfl h.mU (aE aY aF)) (FG 3) (aW (G5 (cB PySem.F.plainAttrs_list PySem.F.slot_list_append EW (jv 2) (aE (aX (ah rfl) (DH h) (DW h) rfl h.u3 h.sR (aE (jv 1) (aE (j5 (kN (aE (aX (ah rfl) (cM h) (cJ h) rfl h.cN h.b9 (aE (jv 1) (aE aY aF))) (aE aY aF))) (bU aAu rfl h.LS rfl (aE (nD iC (aX (ah rfl) (cM h) (cJ h) rfl h.cN h.b9 (aE (jv 1) (aE aY aF))) aY) aF))) aF))) aF)))))
 (aR (G8 (cW (bS Y3 (jv 2) (yE yI (jv 2) (kY aY) (kY aY)))) (FG 4) (aW (gS (mG (fE (aX (ah rfl) (sU h) (sM h) rfl h.pA h.nN (aE (jv 4) aF)))) (aW (bG AV)) c5)))
 (aR (G8 (aBh rfl h.U1 (aE (yE yI (jv 2) (kY aY) oO) (aE (yE yI (jv 2) (kY aY) oO) aF))) (BP (n := 2) (dR (FG 5) (dR (FG 6) t8))) (aW (gS (SR (U7 (cA rD (jv 5) (bZ aF)) (U7 (cA rD (jv 6) (bZ aF)) (Y7 (cA rD (aX (ah rfl) (gH h) (jF h) rfl h.fU h.eY (aE (bS eJ (jv 5) (jv 6)) aF)) (bS eJ (bS eJ (aX (ah rfl) (gH h) (jF h) rfl h.fU h.eY (aE (jv 5) aF)) bI) (aX (ah rfl) (gH h) (jF h) rfl h.fU h.eY (aE (jv 6) aF)))))))) (aW (bG AV)) c5)))
 (aW (bG (nD iC (bT (own := [(("_law_told" : Str), 4)]) (cW (jv 2)) (by kernel_rfl) (sA 4) (Y0 (mG (fE (aX (ah rfl) (sU h) (sM h) rfl h.pA h.nN (aE (jv 4) aF))))) (jv 4)) (kN aF)))))))))
theorem aBt {S : aM} (h : Fx S) : eR S.P S.w S.K S.mg S.base 10 h.EX h.Q7 ZR (LO h.k) := eR.of h.aAi aAk (aAI h) fun _ _ _ => .f9
end K64
namespace K64
open PySem PySem.Spec PyProof.Rows L2 Pc Lb Lw Sx
section
variable (k : K64.a6)
abbrev sx (k : K64.a6) : Sx.a6 := ⟨k.dI, ()⟩
theorem aBf : K64.cD k = kL := rfl
theorem aA5 : K64.qO k = OP := rfl
theorem YM : K64.eQ k = Sx.eQ (sx k) := rfl
theorem aBI : K64.bX k = Sx.bX (sx k) := rfl
theorem U0 : K64.bO k = Sx.bO (sx k) := rfl
theorem aDJ : K64.fB k = Sx.fB (sx k) := rfl
theorem aBG : K64.dX k = Sx.dX (sx k) := rfl
theorem YC {a : D} : dS k [] [a] = [a] := rfl
theorem ZQ {a : D} : eD k [] [a] = [a] := rfl
theorem ber (x0 : D) : begin fM [x0] = [some x0, none, none, none] := rfl
theorem bel (x0 : D) : begin QL [x0] = [some x0, none, none, none, none, none, none] := rfl
variable {w w' w0 : W} {P : D → W → Prop} {PF : Fl → W → Prop}
structure Good (y : D) : Prop where
 st : gM y = true
 th : C0 10 90 y = true
 wt : kG y ≤ 13000
theorem aAX {z : Str} (hz : PyData.strOk z = true) : zQ (.lst [.str z, .str z]) (.lst [.str z, .str z]) w = some true := by
 unfold zQ sV
 have e : D.py w (.lst [.str z, .str z]) = some (.list [.str z, .str z]) := rfl
 have s : SeqAt.shaped (.list [.str z, .str z]) = true := by
  unfold SeqAt.shaped
  simp [PyData.canLay0, PyData.canLayAll0, PyData.depth, PyData.depthAll, hz]
 rw [e]
 simp [s, PyData.eqv, PyData.eqvAll]
theorem right {y : D} (g : Good y) (hP : ∀ w', Gr w w' → P (.bl true) w') : T (K64.fV k [y] w) P := by
 obtain ⟨z, hz, rz⟩ := UT g.th (by omega) (by omega) (by have := g.wt; omega)
 have wt := g.wt
 have ok : kR (6 + 5) y = true := FJ g.th (by omega)
 have sk : PyData.strOk (dY y) = true := HZ (CJ g.st)
 unfold K64.fV K64.iE
 rw [cY, ber, bL]
 simp only [aDe, zY, ae, ab, reduceCtorEq]
 have lt : ∀ w : W, Sx.bX (sx k) [y] w = .ok (.str (dY y)) w := fun w => IK (sx k) g.st (by omega)
 have sh : ∀ w : W, Sx.bO (sx k) [y] w = .ok (.str (dY y)) w := fun w => dO (sx k) g.st (by omega)
 have es : ∀ w : W, Sx.fB (sx k) [y] w = .ok (.bl true) w := fun w => by rw [Y5 (sx k) (n := 6) ok, g.st]
 simp only [rz, aBI, lt, zY, ae, ab, reduceCtorEq]
 rw [bL]
 simp only [U0, YC, aDJ, sh, es, FO, eI sk sk, af, bj, ck, Bool.not_true, JX, zY, ae, ab, reduceCtorEq]
 rw [bL]
 simp only [aBG, ZQ, zY, ae, ab, reduceCtorEq]
 refine T9 (sx k) g.st (by omega) fun w1 g1 => ?_
 simp only [rz, zY, ae, ab, reduceCtorEq]
 refine T9 (sx k) g.st (by omega) fun w2 g2 => ?_
 simp only [rz, pD, aAX hz, eI hz hz, af, bj, ck, zY, ae, ab, reduceCtorEq]
 exact hP w2 (g1.trans g2)
theorem EU {S : List Nat} : ∀ {a b : List (List Nat)}, a ≠ [] → b ≠ [] → TL.joinL S (a ++ b) = TL.joinL S a ++ (S ++ TL.joinL S b)
 | [], _, h, _ => absurd rfl h
 | [p], [], _, h => absurd rfl h
 | [p], q :: r, _, _ => rfl
 | p :: q :: r, b, _, h => by
  show p ++ (S ++ TL.joinL S ((q :: r) ++ b)) = (p ++ (S ++ TL.joinL S (q :: r))) ++ (S ++ TL.joinL S b)
  rw [EU (by simp) h]
  simp only [bo]
theorem RJ {a b : List D} (ha : a ≠ []) (hb : b ≠ []) : dY (.tup (a ++ b)) = dY (.tup a) ++ "\n" ++ dY (.tup b) := by
 refine TL.ext_tl ?_
 rw [TL.tl_append, TL.tl_append, bo]
 show TL.tl (Txt.join "\n" ((a ++ b).map c7)) = TL.tl (Txt.join "\n" (a.map c7)) ++ (TL.tl "\n" ++ TL.tl (Txt.join "\n" (b.map c7)))
 rw [oJ, oJ, oJ, List.map_append, List.map_append, EU (by simpa using ha) (by simpa using hb)]
theorem JB : ∀ {a b : List D}, wtDs (a ++ b) = wtDs a + wtDs b
 | [], b => by simp [wtDs]
 | x :: a, b => by
  rw [List.cons_append, wtDs, wtDs, JB]
  omega
def base : List D := [.tup [], .tup [.tup [.tup [], .tup []]], .tup [.tup [.tup [], .tup []], .tup [.tup [], .tup []]]]
theorem RH : ∀ y ∈ base, Good y := fun y hy => by
 have a : (base.all fun y => gM y && (C0 10 90 y && decide (kG y ≤ 13000))) = true := by decide +kernel
 rw [ao] at a
 have b := a y hy
 simp only [ag, ai] at b
 exact ⟨b.1, b.2.1, b.2.2⟩
theorem good (ns : List Int) (hl : ns.length ≤ 63) (hP : ∀ w', P (.bl true) w') : T (K64.LO k [.mH (ns.map D.int)] []) P := by
 unfold K64.LO K64.U6
 rw [cY, bel, bL]
 simp only [aA5, zY, ae, ab, reduceCtorEq]
 refine (XH hl).mono fun r w0 _ ⟨er, l0, d0⟩ => ?_
 subst er
 try simp only [zY, ae, ab, reduceCtorEq]
 rw [bL]
 simp only [zY, ae, ab, reduceCtorEq]
 obtain ⟨q, eq⟩ : ∃ q, q = w0.length := ⟨_, rfl⟩
 have q2 : 2 ≤ q := by rw [eq]; exact QB d0
 obtain ⟨w1, e1⟩ : ∃ w1, w1 = w0 ++ [MO.lst base] := ⟨_, rfl⟩
 have h1 : w1[q]? = some (.lst base) := by rw [e1, eq]; exact OY
 have d1 : gE w1 1 0 (2 ^ 59) := QW d0 ⟨_, e1⟩
 rw [show (w0 ++ [MO.lst [.tup [], .tup [.tup [.tup [], .tup []]], .tup [.tup [.tup [], .tup []], .tup [.tup [], .tup []]]]]) = w1 from e1.symm, ← eq]
 rw [bL]
 simp only [tL (n := 4) (by omega) (by omega), zY, ae, ab, reduceCtorEq]
 refine GQ (it := fI 0 (4 : Int).toNat) (fun j σ w' => (∃ ys, ys.length = j ∧ (∀ y ∈ ys, Good y) ∧ w'[q]? = some (.lst (base ++ ys))) ∧ gE w' 1 0 (20000 * (4 - j)) ∧ ∃ s3, σ = [some (.mH (ns.map D.int)), some (.ref 1), some (.ref q), s3, none, none, none]) (fun _ _ _ _ => trivial)
  ⟨⟨[], rfl, by simp, by rw [List.append_nil]; exact h1⟩, d1.less (by omega), _, rfl⟩ (fun j dj σ w2 hj ⟨⟨ys, ly, gy, h2⟩, d2, s3, es⟩ => ?_) fun σ w2 ⟨⟨ys, ly, gy, h2⟩, d2, s3, es⟩ => ?_
 ·subst es
  have hj4 : j < 4 := (ak.mp hj).1
  rw [aDb]
  simp only [aBf, YM, tyL h2, zY, ae, ab, reduceCtorEq]
  refine zF (b := 20000 * (4 - (j + 1)) + 19999) (d2.less (by omega)) (by omega) (by omega) fun v w3 v0 v1 d3 k3 => ?_
  try simp only [zY, ae, ab, reduceCtorEq]
  refine zF (b := 20000 * (4 - (j + 1)) + 19998) d3 (by omega) (by omega) fun u w4 u0 u1 d4 k4 => ?_
  simp only [pD, kX, af, bj, zY, ae, ab, reduceCtorEq]
  obtain ⟨m, hm, hm1⟩ : ∃ m : Nat, m ≤ 100 ∧ atI [D.int v, .int 100] (if (u == 5) = true then 1 else 0) = some (.int (m : Nat)) := by
   cases (u == 5) with
   | true => exact ⟨100, az _, rfl⟩
   | false => exact ⟨v.toNat, by omega, by show some (D.int v) = _; congr 2; omega⟩
  simp only [aDB, V7, hm1, af, bj, zY, ae, ab, reduceCtorEq]
  have hq4 : w4[q]? = some (.lst (base ++ ys)) := by
   have l2 := (ak.mp h2).1
   rw [k4.2 q (by omega) (by omega), k3.2 q (by omega) (by omega)]
   exact h2
  refine Y8 (sx k) (u0 := w4) hm ⟨(d4.less (b' := 20000 * (4 - (j + 1)) + 18000) (by omega)), .refl⟩ fun y w5 sy py d5 => ?_
  have h5 : w5[q]? = some (.lst (base ++ ys)) := by
   rw [d5.2.at_ q (ak.mp hq4).1 (by omega) (by omega)]
   exact hq4
  have gy' : Good y := ⟨sy, BS py.1.1 (by omega) (by omega), by have := py.2; omega⟩
  simp only [KZ h5, zY, ae, ab, reduceCtorEq]
  refine ⟨mR _ (by rw [bx, ly, show base.length = 3 from rfl]; omega), ⟨ys ++ [y], by rw [bx, ly]; rfl, fun z hz => ?_, ?_⟩, IY d5.1 q2, _, rfl⟩
  ·rcases bq.mp hz with hz | hz
   ·exact gy z hz
   ·rw [bh.mp hz]
    exact gy'
  ·rw [bu (ak.mp h5).1, bo]
 ·subst es
  have ly : ys.length = 4 := ly
  obtain ⟨XS, eX⟩ : ∃ XS, XS = base ++ ys := ⟨_, rfl⟩
  rw [← eX] at h2
  have gX : ∀ y ∈ XS, Good y := fun y hy => by
   rw [eX] at hy
   rcases bq.mp hy with hy | hy
   ·exact RH y hy
   ·exact gy y hy
  have lX : XS.length = 7 := by rw [eX, bx, ly]; rfl
  clear d2 d1 h1 e1 d0 gy ly eX
  rw [uO, bL]
  have keep : ∀ {w w' : W}, w[q]? = some (.lst XS) → Gr w w' → w'[q]? = some (.lst XS) := fun {w w'} h g => by
   obtain ⟨x, rfl⟩ := g
   rw [aw (ak.mp h).1]
   exact h
  have sl : ∀ {w : W} (lo hi : Option Int), w[q]? = some (.lst XS) → m9 (.ref q) lo hi w = .ok (.lst (Pc.cutD XS lo hi)) w := fun {w} lo hi h => by simp only [m9, h]
  have gC : ∀ {lo hi} {y : D}, y ∈ Pc.cutD XS lo hi → Good y := fun {lo hi y} h => gX y (ZJ h)
  have lC : ∀ {lo hi}, (Pc.cutD XS lo hi).length ≤ 7 := fun {lo hi} => by
   unfold Pc.cutD
   rw [List.length_take, List.length_drop, lX]
   omega
  simp only [sl _ _ h2, b0, zY, ae, ab, reduceCtorEq]
  have ar : ∀ (P : D → W → Prop), T (Pc.RT (.ref q) (.lst (Pc.cutD XS (some 3) (some 4))) w2) P = P (.lst (XS ++ Pc.cutD XS (some 3) (some 4))) w2 := fun P => by
   have hl2 : CC (.ref q) w2 = some XS := by simp only [CC, h2]
   have := lC (lo := some 3) (hi := some 4)
   have : Pc.RT (.ref q) (.lst (Pc.cutD XS (some 3) (some 4))) w2 = .ok (.lst (XS ++ Pc.cutD XS (some 3) (some 4))) w2 := by
    simp only [Pc.RT, hl2, show CC (.lst (Pc.cutD XS (some 3) (some 4))) w2 = some (Pc.cutD XS (some 3) (some 4)) from rfl, if_pos (show XS.length + (Pc.cutD XS (some 3) (some 4)).length ≤ sizeLine by rw [sizeLine_eq, lX]; omega)]
   rw [this, b0]
  simp only [ar, uB, zY, ae, ab, reduceCtorEq]
  refine GQ (it := ⟨XS ++ Pc.cutD XS (some 3) (some 4), always⟩) (fun _ σ w' => w'[q]? = some (.lst XS) ∧ ∃ s4, σ = [some (.mH (ns.map D.int)), some (.ref 1), some (.ref q), s3, s4, none, none]) (fun _ _ _ _ => trivial)
   ⟨h2, _, rfl⟩ (fun j y σ w3 hx ⟨h3, s4, es⟩ => ?_) fun σ w3 ⟨h3, s4, es⟩ => ?_
  ·subst es
   have gy : Good y := by
    rcases bq.mp (cc hx) with h | h
    ·exact gX y h
    ·exact gC h
   simp only [zY, ae, ab, reduceCtorEq]
   refine right k gy fun w4 g4 => ?_
   simp only [Bool.not_true, zY, ae, ab, reduceCtorEq]
   exact ⟨keep h3 g4, _, rfl⟩
  subst es
  rw [uO, bL]
  simp only [sl _ _ h3, b0, zY, ae, ab, reduceCtorEq]
  have zl : ∀ (PI : kP → W → Prop), T (zlM [.lst (Pc.cutD XS (some 1) none), .lst (Pc.cutD XS (some 2) none)] w3) PI = PI ⟨((Pc.cutD XS (some 1) none).zip (Pc.cutD XS (some 2) none)).map fun p => .tup [p.1, p.2], always⟩ w3 := fun PI => by unfold T; rfl
  rw [zl]
  refine GQ (it := ⟨((Pc.cutD XS (some 1) none).zip (Pc.cutD XS (some 2) none)).map fun p => .tup [p.1, p.2], always⟩) (fun _ σ w' => w' = w3 ∧ ∃ s5 s6, σ = [some (.mH (ns.map D.int)), some (.ref 1), some (.ref q), s3, s4, s5, s6]) (fun _ _ _ _ => trivial)
   ⟨rfl, _, _, rfl⟩ (fun j y σ w4 hx ⟨ew, s5, s6, es⟩ => ?_) fun σ w4 ⟨ew, s5, s6, es⟩ => ?_
  ·subst es ew
   obtain ⟨⟨x, z⟩, hp, rfl⟩ := bt.mp (cc hx)
   obtain ⟨mx, mz⟩ := List.of_mem_zip hp
   have gx := gC mx
   have gz := gC mz
   obtain ⟨a, rfl, ha⟩ := lO gx.st
   obtain ⟨b, rfl, hb⟩ := lO gz.st
   have wa : wtDs a ≤ 13000 := gx.wt
   have wb : wtDs b ≤ 13000 := gz.wt
   have la := fN (xs := a)
   have lb := fN (xs := b)
   simp only [gT, FO, WA, af, bj, zY, ae, ab, reduceCtorEq]
   by_cases ca : a = []
   ·simp only [decide_eq_true ca, Bool.not_true, zY, ae, ab, reduceCtorEq]
    exact ⟨rfl, _, _, rfl⟩
   by_cases cb : b = []
   ·simp only [bw ca, decide_eq_true cb, Bool.not_true, Bool.not_false, zY, ae, ab, reduceCtorEq]
    exact ⟨rfl, _, _, rfl⟩
   have sab : gM (.tup (a ++ b)) = true := by
    simp only [gM, ao]
    intro y hy
    rcases bq.mp hy with h | h
    ·exact ha y h
    ·exact hb y h
   have wab : kG (.tup (a ++ b)) ≤ 26000 := by
    simp only [kG, JB]
    omega
   have e1 : ∀ w : W, Sx.bO (sx k) [.tup (a ++ b)] w = .ok (.str (dY (.tup (a ++ b)))) w := fun w => dO (sx k) sab (by omega)
   have e2 : ∀ w : W, Sx.bO (sx k) [.tup a] w = .ok (.str (dY (.tup a))) w := fun w => dO (sx k) gx.st (by have := gx.wt; omega)
   have e3 : ∀ w : W, Sx.bO (sx k) [.tup b] w = .ok (.str (dY (.tup b))) w := fun w => dO (sx k) gz.st (by have := gz.wt; omega)
   have ok : PyData.strOk (dY (.tup (a ++ b))) = true := HZ (CJ sab)
   have l1 := vX gx.st
   have l2 := vX gz.st
   have n1 : ("\n" : Str).length = 1 := cL (congrArg List.length GO)
   have g1 := gx.wt
   have g2 := gz.wt
   simp only [bw ca, bw cb, Bool.not_false, AG, U0, e1, e2, e3, zY, ae, ab, reduceCtorEq]
   refine ⟨mR _ (by omega), ?_⟩
   rw [rW (by omega)]
   rw [rW (by rw [pF]; omega)]
   rw [← RJ ca cb]
   simp only [FO, eI ok ok, af, bj, ck, Bool.not_true, zY, ae, ab, reduceCtorEq]
   exact ⟨rfl, _, _, rfl⟩
  subst es ew
  rw [uO]
  simp only [aCJ h3, zY, ae, ab, reduceCtorEq]
  refine ⟨mR _ (by omega), ?_⟩
  refine GR (it := ⟨XS, holds q (.lst XS)⟩) (fun j acc w' => acc = [] ∧ w'[q]? = some (.lst XS)) (fun _ _ w' h => h.2) ⟨rfl, h3⟩ (fun j x acc w4 hx ⟨ea, h4⟩ => ?_) (fun acc w4 ⟨ea, h4⟩ => ?_)
  ·subst ea
   simp only [bV, zY, ae, ab, reduceCtorEq]
   refine right k (gX x (cc hx)) fun w5 g5 => ?_
   simp only [Bool.not_true, zY, ae, ab, reduceCtorEq]
   first | exact ⟨rfl, keep h4 g5⟩ | exact keep h4 g5
  ·subst ea
   simp only [pD, KQ, af, bj, List.isEmpty_nil, zY, ae, ab, reduceCtorEq]
   exact hP _
end
theorem W2 (k : K64.a6) (ns : List Int) (h : ns.length ≤ 63) : ∃ w', K64.LO k [.mH (ns.map Pc.D.int)] [] = .ok (.bl true) w' := by
 obtain ⟨a, w, e, p⟩ := (good k (P := fun d _ => d = .bl true) ns h fun _ => rfl).ex
 exact ⟨w, by rw [e, p]⟩
end K64
namespace K64H
open PySem PySem.Spec PyProof.Rows L2 Pc K64
open PySem PySem.W PySem.Calls PyProof.Rows HandSHeadRun in
open PySem PySem.W PySem.Calls PyProof.Rows in
open PySem PySem.W PySem.Calls PyProof.Rows in
open PySem PySem.W PySem.Calls PyProof.Rows in
open PySem PySem.W PySem.Calls PyProof.Rows in
abbrev St (w : World) (K : PySem.W.Frag) (mg : Str → Option Value) (base : Heap) : aM := ⟨PySem.Challenge.pw_onemaster_k64_stories_written_and_read, w, K, mg, base, 0, [], defScope (top 46), fun _ => true⟩
theorem facts {w : World} {K : PySem.W.Frag} {h : Heap} {mg : Str → Option Value} (X : K.In h) (G : h.Ns mainGlobals mg) (c : He.SaysX fa fn ts [] ex w h K) :
  ∃ (d : FuncData) (kk : a6), (FunD K ("law" : Str) ("law" : Str) (defArgs (top 46)) (defBody (top 46)) (defScope (top 46)) [] [] (He.ga K "law") d) ∧ ∀ base, ∃ x : Fx (St w K mg base), x.k = kk ∧ x.EX = He.ga K "law" ∧ x.Q7 = d := by
 obtain ⟨d0, F0⟩ := c.t.d.def_ 0 (d := p6) rfl
 obtain ⟨d1, F1⟩ := c.t.d.def_ 1 (d := qW) rfl
 obtain ⟨d2, F2⟩ := c.t.d.def_ 2 (d := kK) rfl
 obtain ⟨d3, F3⟩ := c.t.d.def_ 3 (d := jC) rfl
 obtain ⟨d4, F4⟩ := c.t.d.def_ 4 (d := iB) rfl
 obtain ⟨d5, F5⟩ := c.t.d.def_ 5 (d := sY) rfl
 obtain ⟨d6, F6⟩ := c.t.d.def_ 6 (d := qB) rfl
 obtain ⟨d7, F7⟩ := c.t.d.def_ 7 (d := nP) rfl
 obtain ⟨d8, F8⟩ := c.t.d.def_ 8 (d := wK) rfl
 obtain ⟨d9, F9⟩ := c.t.d.def_ 9 (d := qV) rfl
 obtain ⟨d10, F10⟩ := c.t.d.def_ 10 (d := v8) rfl
 obtain ⟨d11, F11⟩ := c.t.d.def_ 11 (d := vW) rfl
 obtain ⟨d12, F12⟩ := c.t.d.def_ 12 (d := t4) rfl
 obtain ⟨d13, F13⟩ := c.t.d.def_ 13 (d := jV) rfl
 obtain ⟨d14, F14⟩ := c.t.d.def_ 14 (d := fS) rfl
 obtain ⟨d15, F15⟩ := c.t.d.def_ 15 (d := jY) rfl
 obtain ⟨d16, F16⟩ := c.t.d.def_ 16 (d := oH) rfl
 obtain ⟨d17, F17⟩ := c.t.d.def_ 17 (d := oF) rfl
 obtain ⟨d18, F18⟩ := c.t.d.def_ 18 (d := pL) rfl
 obtain ⟨d19, F19⟩ := c.t.d.def_ 19 (d := CA) rfl
 obtain ⟨d20, F20⟩ := c.t.d.def_ 20 (d := j0) rfl
 obtain ⟨d21, F21⟩ := c.t.d.def_ 21 (d := jZ) rfl
 obtain ⟨d22, F22⟩ := c.t.d.def_ 22 (d := dO) rfl
 obtain ⟨d23, F23⟩ := c.t.d.def_ 23 (d := o9) rfl
 obtain ⟨d24, F24⟩ := c.t.d.def_ 24 (d := nA) rfl
 obtain ⟨d25, F25⟩ := c.t.d.def_ 25 (d := tM) rfl
 obtain ⟨d26, F26⟩ := c.t.d.def_ 26 (d := rH) rfl
 obtain ⟨d27, F27⟩ := c.t.d.def_ 27 (d := t7) rfl
 obtain ⟨d28, F28⟩ := c.t.d.def_ 28 (d := qS) rfl
 obtain ⟨d29, F29⟩ := c.t.d.def_ 29 (d := oU) rfl
 obtain ⟨d30, F30⟩ := c.t.d.def_ 30 (d := WC) rfl
 refine ⟨d30, { dI := He.ga K "FORMS" }, F30, fun base => ⟨{
  k := { dI := He.ga K "FORMS" },
  yM := He.free_ok X G (c.t.d.fact 0 (f := .free "all") rfl),
  UK := He.free_ok X G (c.t.d.fact 1 (f := .free "bool") rfl),
  xZ := He.free_ok X G (c.t.d.fact 2 (f := .free "enumerate") rfl),
  LS := He.free_ok X G (c.t.d.fact 3 (f := .free "int") rfl),
  cC := He.free_ok X G (c.t.d.fact 4 (f := .free "isinstance") rfl),
  sP := He.free_ok X G (c.t.d.fact 5 (f := .free "len") rfl),
  VX := He.free_ok X G (c.t.d.fact 6 (f := .free "list") rfl),
  mU := He.free_ok X G (c.t.d.fact 7 (f := .free "range") rfl),
  CD := He.free_ok X G (c.t.d.fact 8 (f := .free "repr") rfl),
  Z0 := He.free_ok X G (c.t.d.fact 9 (f := .free "set") rfl),
  J7 := He.free_ok X G (c.t.d.fact 10 (f := .free "sorted") rfl),
  sE := He.free_ok X G (c.t.d.fact 11 (f := .free "str") rfl),
  Z7 := He.free_ok X G (c.t.d.fact 12 (f := .free "sum") rfl),
  dH := He.free_ok X G (c.t.d.fact 13 (f := .free "tuple") rfl),
  U1 := He.free_ok X G (c.t.d.fact 14 (f := .free "zip") rfl),
  i4 := k0 X G (rC c.more 0 rfl),
  kI := k0 X G (rC c.more 1 rfl),
  kM := k0 X G (rC c.more 2 rfl),
  E7 := k0 X G (rC c.more 3 rfl),
  EK := k0 X G (rC c.more 4 rfl),
  sT := k0 X G (rC c.more 5 rfl),
  G1 := k0 X G (rC c.more 6 rfl),
  xN := k0 X G (rC c.more 7 rfl),
  HG := k0 X G (rC c.more 8 rfl),
  IC := ⟨.ref _, .ref _, He.glo_ok X G (c.t.d.fact 46 (f := .glo "FORMS") rfl), rfl, fun _ _ => by simp [aG]⟩,
  HB := UW (c.t.tab 0 rfl) (rC c.more 9 rfl),
  kE := He.fAd K p6.at_,
  m8 := d0,
  q7 := F0,
  x9 := He.glo_ok X G (c.t.d.fact 15 (f := .glo "_law_deck") rfl),
  vH := F0.kp,
  j7 := He.fAd K qW.at_,
  m5 := d1,
  qK := F1,
  cN := He.glo_ok X G (c.t.d.fact 16 (f := .glo "_law_draw") rfl),
  b9 := F1.kp,
  eT := He.fAd K kK.at_,
  gK := d2,
  kQ := F2,
  pN := He.glo_ok X G (c.t.d.fact 17 (f := .glo "_law_act_text") rfl),
  n8 := F2.kp,
  eK := He.fAd K jC.at_,
  fR := d3,
  jA := F3,
  nR := He.glo_ok X G (c.t.d.fact 18 (f := .glo "_law_turn_text") rfl),
  mV := F3.kp,
  dN := He.fAd K iB.at_,
  fA := d4,
  iH := F4,
  mY := He.glo_ok X G (c.t.d.fact 19 (f := .glo "_law_story_text") rfl),
  l6 := F4.kp,
  mC := He.fAd K sY.at_,
  oR := d5,
  tN := F5,
  AL := He.glo_ok X G (c.t.d.fact 20 (f := .glo "is_whole") rfl),
  yV := F5.kp,
  jU := He.fAd K qB.at_,
  m6 := d6,
  q8 := F6,
  yG := He.glo_ok X G (c.t.d.fact 21 (f := .glo "is_within") rfl),
  uS := F6.kp,
  gF := He.fAd K nP.at_,
  jM := d7,
  nB := F7,
  jK := He.glo_ok X G (c.t.d.fact 22 (f := .glo "are_numbers") rfl),
  iR := F7.kp,
  nZ := He.fAd K wK.at_,
  rZ := d8,
  v7 := F8,
  D9 := He.glo_ok X G (c.t.d.fact 23 (f := .glo "is_fate") rfl),
  BB := F8.kp,
  jW := He.fAd K qV.at_,
  mX := d9,
  qY := F9,
  rG := He.glo_ok X G (c.t.d.fact 24 (f := .glo "is_rising") rfl),
  pH := F9.kp,
  oC := He.fAd K v8.at_,
  r5 := d10,
  w7 := F10,
  EV := He.glo_ok X G (c.t.d.fact 25 (f := .glo "is_form") rfl),
  BL := F10.kp,
  n9 := He.fAd K vW.at_,
  rO := d11,
  wC := F11,
  wA := He.glo_ok X G (c.t.d.fact 26 (f := .glo "is_turn") rfl),
  tX := F11.kp,
  l5 := He.fAd K t4.at_,
  oT := d12,
  tT := F12,
  AQ := He.glo_ok X G (c.t.d.fact 27 (f := .glo "is_story") rfl),
  yN := F12.kp,
  j2 := He.fAd K jV.at_,
  mW := d13,
  p7 := F13,
  xP := He.glo_ok X G (c.t.d.fact 28 (f := .glo "number_in") rfl),
  vA := F13.kp,
  iJ := He.fAd K fS.at_,
  k9 := d14,
  oV := F14,
  hX := He.glo_ok X G (c.t.d.fact 29 (f := .glo "numbers_in") rfl),
  f7 := F14.kp,
  j3 := He.fAd K jY.at_,
  mT := d15,
  rN := F15,
  y5 := He.glo_ok X G (c.t.d.fact 30 (f := .glo "listed_in") rfl),
  uM := F15.kp,
  n7 := He.fAd K oH.at_,
  r4 := d16,
  w8 := F16,
  D8 := He.glo_ok X G (c.t.d.fact 31 (f := .glo "deed_in") rfl),
  AD := F16.kp,
  nY := He.fAd K oF.at_,
  rT := d17,
  xG := F17,
  E6 := He.glo_ok X G (c.t.d.fact 32 (f := .glo "turn_in") rfl),
  AU := F17.kp,
  h9 := He.fAd K pL.at_,
  iM := d18,
  k8 := F18,
  o4 := He.glo_ok X G (c.t.d.fact 33 (f := .glo "read_story") rfl),
  nH := F18.kp,
  qN := He.fAd K CA.at_,
  vM := d19,
  B0 := F19,
  uD := He.glo_ok X G (c.t.d.fact 34 (f := .glo "joined") rfl),
  rV := F19.kp,
  j6 := He.fAd K j0.at_,
  m7 := d20,
  qI := F20,
  xS := He.glo_ok X G (c.t.d.fact 35 (f := .glo "show_deed") rfl),
  vU := F20.kp,
  j8 := He.fAd K jZ.at_,
  mO := d21,
  qQ := F21,
  yP := He.glo_ok X G (c.t.d.fact 36 (f := .glo "show_turn") rfl),
  vF := F21.kp,
  iO := He.fAd K dO.at_,
  iI := d22,
  kZ := F22,
  fU := He.glo_ok X G (c.t.d.fact 37 (f := .glo "show_story") rfl),
  eY := F22.kp,
  iN := He.fAd K o9.at_,
  k7 := d23,
  oM := F23,
  pA := He.glo_ok X G (c.t.d.fact 38 (f := .glo "_law_right") rfl),
  nN := F23.kp,
  gA := He.fAd K nA.at_,
  jG := d24,
  nJ := F24,
  jL := He.glo_ok X G (c.t.d.fact 39 (f := .glo "_law_number") rfl),
  iP := F24.kp,
  lZ := He.fAd K tM.at_,
  oQ := d25,
  tR := F25,
  tY := He.glo_ok X G (c.t.d.fact 40 (f := .glo "_law_lot") rfl),
  qH := F25.kp,
  jX := He.fAd K rH.at_,
  mM := d26,
  qZ := F26,
  yA := He.glo_ok X G (c.t.d.fact 41 (f := .glo "_law_pick") rfl),
  uE := F26.kp,
  lR := He.fAd K t7.at_,
  pC := d27,
  tD := F27,
  BY := He.glo_ok X G (c.t.d.fact 42 (f := .glo "_law_act") rfl),
  yF := F27.kp,
  j4 := He.fAd K qS.at_,
  mZ := d28,
  rM := F28,
  yZ := He.glo_ok X G (c.t.d.fact 43 (f := .glo "_law_turn") rfl),
  uN := F28.kp,
  iD := He.fAd K oU.at_,
  kS := d29,
  pI := F29,
  u3 := He.glo_ok X G (c.t.d.fact 44 (f := .glo "_law_story") rfl),
  sR := F29.kp,
  EX := He.fAd K WC.at_,
  Q7 := d30,
  aAi := F30,
  ZX := He.glo_ok X G (c.t.d.fact 45 (f := .glo "law") rfl),
  aBN := F30.kp,
  VY := X5 (rC c.more 10 rfl) }, rfl, rfl, rfl⟩⟩
end K64H
set_option maxHeartbeats 0
open PySem PySem.W PySem.Calls PyProof.Rows
theorem PySem.Challenge.cw_onemaster_k64_stories_written_and_read_holds : PySem.Challenge.rw_onemaster_k64_stories_written_and_read.Holds := by
 refine K64H.early.2 ?_
 ·refine Pc.TX (l := PySem.Challenge.rw_onemaster_k64_stories_written_and_read) (n := 63) (k := 10) (x := "_law_script") rfl (by decide) (by kernel_rfl) ⟨rfl, by decide, by decide⟩ ?F
  intro w mg fa h Y G hmg0
  obtain ⟨K, KX, c⟩ := Y
  have hmg : mg ("law" : PySem.Str) = some (.ref fa) := by
   have e : (HandSHeadRun.topDef (OpenLaw.row PySem.Challenge.rw_onemaster_k64_stories_written_and_read).prog 46).name = ("law" : PySem.Str) := by kernel_rfl
   rw [← e]
   exact hmg0
  obtain ⟨d, kk, F, fx⟩ := K64H.facts KX G c
  have hx : fa = He.ga K "law" := by
   obtain ⟨x0, _, e1, _⟩ := fx {}
   have z := x0.ZX
   rw [e1] at z
   have z2 := hmg.symm.trans z
   cases z2
   rfl
  have bd := L2.FunD.bindsA (ps := ["_law_script"]) F fun _ _ _ _ _ _ us hl => match us, hl with | [_], _ => rfl
  refine ⟨K, d, K64.LO kk, KX, fun s v => bd s [v] rfl, fun ns hl => K64.W2 kk ns hl, fun base _ _ => ?_⟩
  obtain ⟨x, e0, e1, e2⟩ := fx base
  have z := K64.aBt x
  rw [e0, e1, e2] at z
  rw [hx]
  exact z
end
