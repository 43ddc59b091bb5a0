import PyProof.Rows.All
import Wide.All
import OpenK.AllK
import Wide.FinOn
import HandS.ForMost
import HandS.ForExc
import HandS.TupAny
import HandS.Style
import HandS.Flow
import HandS.Deep
import HandS.Defaults
import HandS.WordsDict
import HandS.IsInst
import HandS.Conv
import KE.SortKeyHeap
import HandS.MakeKwOnly
import HandS.More
import HandS.ListItems
import HandS.Zip
import KE.GoesEnumKw
import HandS.Head0
import HandS.Head1
import HandS.Head2
import HandS.HeadEnd
import HandS.HeadHook1
import HandS.HeadHook2
import HandS.HeadHook3
import HandS.HeadHook4
import HandS.NamedTupGet
import PyProof.FactsLen
import HandS.TupMul
import KE.GoesEnum
import HandS.Zip0
import HandS.SetFor
import HandS.Strs
import KE.DataAny
import KE.KDictPairs
import HandS.DictComp
import HandS.NoneIn
import KE.KEqDict
import HandS.TupLe
import KE.KAssignIn
import HandS.Finally
import HandS.SlotsOwn
import PyProof.InstNe
import HandS.Dict
import HandS.Iter
import KE.KDictCopyH
import KE.DataMinMax
import KE.SortData
import PyProof.Rows.RowBridgeK
import HandS.Exc
import HandS.ExcInit
import HandS.ExcField
import HandS.ClsMeth
import HandS.Text
import HandS.TryMany
import HandS.ExcIs
import HandS.RaiseMore
import HandS.DictTup
import PyProof.ExcBaseAll.IndexError
import HandS.ExcBuiltin
import KE.KExcInit
import KE.SortUse
import HandS.SortKw
import HandS.Ends
import PySem.Challenge.RW_onemaster_k09_who_is_ahead
import KE.KStateDown
noncomputable section
set_option linter.all false
def aa := @Option.some.injEq
def ab := @Option.map_eq_some_iff
def ae := @List.getElem?_eq_some_iff
def af := @Bool.and_eq_true
def ag := @Nat.le_of_ble_eq_true
def ah := @if_true
def ai := @if_false
def aj := @List.getElem?_set_ne
def ak := @decide_eq_true_eq
def ao := @List.mem_cons_self
def aq := @List.getElem?_append_left
def ar := @List.getElem?_eq_getElem
def au := @List.mem_cons_of_mem
def av := @List.append_assoc
def aw := @List.getElem?_set_self
def ax := @List.length_map
def ay := @List.getElem?_append_right
def az := @Nat.le_refl
def bb := @List.getElem?_map
def bc := @List.mem_of_getElem?
set_option Elab.async false
set_option linter.all false
set_option maxRecDepth 100000
set_option maxHeartbeats 4000000
set_option autoImplicit false
namespace Pc
open PySem PySem.Spec PyProof.Rows L2
inductive D where
 | non | bl (b : Bool) | int (i : Int) | str (x : Str) | ty (n : String) | con (a : Addr)
 | tup (xs : List D) | lst (xs : List D) | fM (xs : List D) | i4 (xs : List D) | uA (ks vs : List D) | ref (i : Nat)
inductive MO where
 | lst (xs : List D) | dK (kvs : List (Key × D)) | dT (kvs : List (List Key × D)) | dF (kvs : List (Key × D)) | dG (kvs : List (List Key × D)) | ins (C : Addr) (fs : List (Str × D))
def MO.fz : MO → Bool
 | .dF _ => true
 | .dG _ => true
 | _ => false
abbrev W := List MO
structure XD where
 cls : Value
 fs : Option (List (Str × D))
inductive Res (α : Type) where
 | ok (a : α) (w : W)
 | pM (x : XD) (w : W)
 | bad
def Res.bind {α β : Type} (r : Res α) (f : α → W → Res β) : Res β := match r with
 | .ok a w => f a w
 | .pM x w => .pM x w
 | .bad => .bad
@[simp] theorem Res.tN {α β : Type} (a : α) (w : W) (f : α → W → Res β) : (Res.ok a w).bind f = f a w := rfl
theorem Res.bind_assoc {α β γ : Type} (r : Res α) (f : α → W → Res β) (g : β → W → Res γ) : (r.bind f).bind g = r.bind fun a w => (f a w).bind g := by
 cases r <;> rfl
mutual
def aF (K : PySem.W.Frag) (I : List Addr) (F : Hp) : D → V → Prop
 | .non, v => v = .non
 | .bl b, v => v = .bl b
 | .int i, v => v = .int i
 | .str x, v => v = .str x
 | .ty n, v => v = .ty n
 | .con a, v => v = .ref a
 | .tup xs, v => ∃ a vs, v = .ref a ∧ F a = some (.tup vs) ∧ RepL K I F xs vs
 | .lst xs, v => ∃ a vs, v = .ref a ∧ F a = some (.lst vs) ∧ RepL K I F xs vs
 | .fM xs, v => ∃ a vs, v = .ref a ∧ SqL K F a vs ∧ RepL K I F xs vs
 | .i4 xs, v => ∃ a vs, v = .ref a ∧ SqT K F a vs ∧ RepL K I F xs vs
 | .uA ks xs, v => ∃ a kvs, v = .ref a ∧ Rd F a (.dK kvs) ∧ RepL K I F ks (kvs.map fun p => kV p.1) ∧ RepL K I F xs (kvs.map fun p => p.2)
 | .ref i, v => ∃ a, v = .ref a ∧ I[i]? = some a
def RepL (K : PySem.W.Frag) (I : List Addr) (F : Hp) : List D → List V → Prop
 | [], vs => vs = []
 | d :: ds, vs => ∃ v r, vs = v :: r ∧ aF K I F d v ∧ RepL K I F ds r
end
def aJ {κ : Type} (K : PySem.W.Frag) (I : List Addr) (F : Hp) : List (κ × D) → List (κ × V) → Prop
 | [], vs => vs = []
 | (k, d) :: ds, vs => ∃ v r, vs = (k, v) :: r ∧ aF K I F d v ∧ aJ K I F ds r
def gD (K : PySem.W.Frag) (I : List Addr) (F : Hp) : MO → HO → Prop
 | .lst xs, u => ∃ vs, u = .lst vs ∧ RepL K I F xs vs
 | .dK kvs, u => ∃ r, u = .dK r ∧ aJ K I F kvs r
 | .dT kvs, u => ∃ r, u = .dT r ∧ aJ K I F kvs r
 | .dF kvs, u => ∃ o r, u = .frz o (.dK r) ∧ aJ K I F kvs r
 | .dG kvs, u => ∃ o r, u = .frz o (.dT r) ∧ aJ K I F kvs r
 | .ins C fs, u => ∃ dx r, u = .ins C dx r ∧ aJ K I F fs r
structure Rel (K : PySem.W.Frag) (I : List Addr) (F : Hp) (G : Hp) (w : W) (H : Hp) : Prop where
 len : I.length = w.length
 nd : I.Nodup
 ob : ∀ (i : Nat) (a : Addr) (o : MO), I[i]? = some a → w[i]? = some o → ∃ u, H a = some u ∧ gD K I F o u
 fz : ∀ a u, F a = some u → H a = some u
 ap : ∀ (i : Nat) (a : Addr) (o : MO), I[i]? = some a → w[i]? = some o → o.fz = false → F a = none
 gz : ∀ a u, G a = some u → H a = some u
 gf : ∀ a u, G a = some u → F a = none ∧ a ∉ I
 gt : ∀ a xs, ¬ G a = some (.tup xs)
structure Ext (I : List Addr) (F : Hp) (I' : List Addr) (F' : Hp) : Prop where
 i : I <+: I'
 f : ∀ a u, F a = some u → F' a = some u
theorem Ext.refl {I : List Addr} {F : Hp} : Ext I F I F := ⟨List.prefix_refl _, fun _ _ h => h⟩
theorem Ext.trans {I I1 I2 : List Addr} {F F1 F2 : Hp} (a : Ext I F I1 F1) (b : Ext I1 F1 I2 F2) : Ext I F I2 F2 := ⟨a.i.trans b.i, fun x u h => b.f x u (a.f x u h)⟩
theorem Ext.get {I I1 : List Addr} {F F1 : Hp} (e : Ext I F I1 F1) {i : Nat} {a : Addr} (h : I[i]? = some a) : I1[i]? = some a := by
 obtain ⟨t, rfl⟩ := e.i
 have hi : i < I.length := (ae.mp h).1
 rw [aq hi]; exact h
section
variable {K : PySem.W.Frag} {I I1 I2 : List Addr} {F F1 F2 : Hp}
theorem rZ (e : Ext I F I1 F1) {a : Addr} {u : HO} (h : Rd F a u) : Rd F1 a u := by
 rcases h with h | ⟨o, h⟩
 ·exact .inl (e.f _ _ h)
 ·exact .inr ⟨o, e.f _ _ h⟩
theorem tK (e : Ext I F I1 F1) {a : Addr} {vs : List V} (h : SqT K F a vs) : SqT K F1 a vs := by
 rcases h with h | h
 ·exact .inl (rZ e h)
 ·exact .inr h
theorem tT (e : Ext I F I1 F1) {a : Addr} {vs : List V} (h : SqL K F a vs) : SqL K F1 a vs := by
 rcases h with h | h
 ·exact .inl (rZ e h)
 ·exact .inr h
mutual
theorem aF.ext (e : Ext I F I1 F1) : ∀ (d : D) (v : V), aF K I F d v → aF K I1 F1 d v
 | .non, _, h => h
 | .bl _, _, h => h
 | .int _, _, h => h
 | .str _, _, h => h
 | .ty _, _, h => h
 | .con _, _, h => h
 | .tup xs, v, h => by
  simp only [aF] at h ⊢
  obtain ⟨a, vs, h1, h2, h3⟩ := h
  exact ⟨a, vs, h1, e.f _ _ h2, RepL.ext e xs vs h3⟩
 | .i4 xs, v, h => by
  simp only [aF] at h ⊢
  obtain ⟨a, vs, h1, h2, h3⟩ := h
  exact ⟨a, vs, h1, tK e h2, RepL.ext e xs vs h3⟩
 | .lst xs, v, h => by
  simp only [aF] at h ⊢
  obtain ⟨a, vs, h1, h2, h3⟩ := h
  exact ⟨a, vs, h1, e.f _ _ h2, RepL.ext e xs vs h3⟩
 | .fM xs, v, h => by
  simp only [aF] at h ⊢
  obtain ⟨a, vs, h1, h2, h3⟩ := h
  exact ⟨a, vs, h1, tT e h2, RepL.ext e xs vs h3⟩
 | .uA ks xs, v, h => by
  simp only [aF] at h ⊢
  obtain ⟨a, kvs, h1, h2, h3, h4⟩ := h
  exact ⟨a, kvs, h1, rZ e h2, RepL.ext e ks _ h3, RepL.ext e xs _ h4⟩
 | .ref i, v, h => by
  simp only [aF] at h ⊢
  obtain ⟨a, h1, h2⟩ := h
  exact ⟨a, h1, e.get h2⟩
theorem RepL.ext (e : Ext I F I1 F1) : ∀ (ds : List D) (vs : List V), RepL K I F ds vs → RepL K I1 F1 ds vs
 | [], _, h => h
 | d :: ds, vs, h => by
  simp only [RepL] at h ⊢
  obtain ⟨v, r, h1, h2, h3⟩ := h
  exact ⟨v, r, h1, aF.ext e d v h2, RepL.ext e ds r h3⟩
end
theorem aJ.ext {κ : Type} (e : Ext I F I1 F1) : ∀ (ds : List (κ × D)) (vs : List (κ × V)), aJ K I F ds vs → aJ K I1 F1 ds vs
 | [], _, h => h
 | (k, d) :: ds, vs, h => by
  simp only [aJ] at h ⊢
  obtain ⟨v, r, h1, h2, h3⟩ := h
  exact ⟨v, r, h1, aF.ext e d v h2, aJ.ext e ds r h3⟩
theorem gD.ext (e : Ext I F I1 F1) {o : MO} {u : HO} (h : gD K I F o u) : gD K I1 F1 o u := by
 cases o with
 | lst xs => obtain ⟨vs, h1, h2⟩ := h; exact ⟨vs, h1, RepL.ext e _ _ h2⟩
 | dK xs => obtain ⟨vs, h1, h2⟩ := h; exact ⟨vs, h1, aJ.ext e _ _ h2⟩
 | dT xs => obtain ⟨vs, h1, h2⟩ := h; exact ⟨vs, h1, aJ.ext e _ _ h2⟩
 | dF xs => obtain ⟨o, vs, h1, h2⟩ := h; exact ⟨o, vs, h1, aJ.ext e _ _ h2⟩
 | dG xs => obtain ⟨o, vs, h1, h2⟩ := h; exact ⟨o, vs, h1, aJ.ext e _ _ h2⟩
 | ins C xs => obtain ⟨dx, vs, h1, h2⟩ := h; exact ⟨dx, vs, h1, aJ.ext e _ _ h2⟩
theorem RepL.length : ∀ {ds : List D} {vs : List V}, RepL K I F ds vs → ds.length = vs.length
 | [], vs, h => by simp only [RepL] at h; subst h; rfl
 | d :: ds, vs, h => by
  simp only [RepL] at h
  obtain ⟨v, r, rfl, _, h3⟩ := h
  simp [RepL.length h3]
theorem RepL.cons {d : D} {ds : List D} {v : V} {vs : List V} (h : aF K I F d v) (t : RepL K I F ds vs) : RepL K I F (d :: ds) (v :: vs) := by
 simp only [RepL]; exact ⟨v, vs, rfl, h, t⟩
theorem RepL.append : ∀ {ds es : List D} {vs us : List V}, RepL K I F ds vs → RepL K I F es us → RepL K I F (ds ++ es) (vs ++ us)
 | [], _, _, _, h, t => by simp only [RepL] at h; subst h; exact t
 | d :: ds, es, vs, us, h, t => by
  simp only [RepL] at h
  obtain ⟨v, r, rfl, h2, h3⟩ := h
  exact RepL.cons h2 (RepL.append h3 t)
theorem RepL.get : ∀ {ds : List D} {vs : List V} {i : Nat} {d : D}, RepL K I F ds vs → ds[i]? = some d → ∃ v, vs[i]? = some v ∧ aF K I F d v
 | [], _, _, _, _, e => by simp at e
 | d :: ds, vs, 0, x, h, e => by
  simp only [RepL] at h
  obtain ⟨v, r, rfl, h2, _⟩ := h
  simp at e; subst e
  exact ⟨v, rfl, h2⟩
 | d :: ds, vs, i + 1, x, h, e => by
  simp only [RepL] at h
  obtain ⟨v, r, rfl, _, h3⟩ := h
  obtain ⟨u, h4, h5⟩ := RepL.get (i := i) h3 (by simpa using e)
  exact ⟨u, by simpa using h4, h5⟩
theorem RepL.set : ∀ {ds : List D} {vs : List V} (i : Nat) {d : D} {v : V}, RepL K I F ds vs → aF K I F d v → RepL K I F (ds.set i d) (vs.set i v)
 | [], vs, _, _, _, h, _ => by simp only [RepL] at h; subst h; simp [RepL]
 | d :: ds, vs, 0, x, u, h, hv => by
  simp only [RepL] at h
  obtain ⟨v, r, rfl, _, h3⟩ := h
  exact RepL.cons hv h3
 | d :: ds, vs, i + 1, x, u, h, hv => by
  simp only [RepL] at h
  obtain ⟨v, r, rfl, h2, h3⟩ := h
  exact RepL.cons h2 (RepL.set i h3 hv)
theorem RepL.take : ∀ {ds : List D} {vs : List V} (n : Nat), RepL K I F ds vs → RepL K I F (ds.take n) (vs.take n)
 | _, _, 0, _ => by simp [RepL]
 | [], vs, n + 1, h => by simp only [RepL] at h; subst h; simp [RepL]
 | d :: ds, vs, n + 1, h => by
  simp only [RepL] at h
  obtain ⟨v, r, rfl, h2, h3⟩ := h
  exact RepL.cons h2 (RepL.take n h3)
theorem RepL.drop : ∀ {ds : List D} {vs : List V} (n : Nat), RepL K I F ds vs → RepL K I F (ds.drop n) (vs.drop n)
 | _, _, 0, h => h
 | [], vs, n + 1, h => by simp only [RepL] at h; subst h; simp [RepL]
 | d :: ds, vs, n + 1, h => by
  simp only [RepL] at h
  obtain ⟨v, r, rfl, h2, h3⟩ := h
  exact RepL.drop n h3
theorem RepL.ints (ns : List Int) : RepL K I F (ns.map D.int) (ns.map V.int) := by
 induction ns with
 | nil => simp [RepL]
 | cons n ns ih => exact RepL.cons (by simp [aF]) ih
end
abbrev Sg := List (Option D)
def cI (K : PySem.W.Frag) (I : List Addr) (F : Hp) (ds : Sg) (s : L2.St) : Prop := ds.length = s.length ∧ ∀ (i : Nat) (d : D), ds[i]? = some (some d) → ∃ v, s[i]? = some (some v) ∧ aF K I F d v
theorem cI.ext {K : PySem.W.Frag} {I I1 : List Addr} {F F1 : Hp} {ds : Sg} {s : L2.St} (h : cI K I F ds s) (e : Ext I F I1 F1) : cI K I1 F1 ds s :=
 ⟨h.1, fun i d q => let ⟨v, h1, h2⟩ := h.2 i d q; ⟨v, h1, aF.ext e d v h2⟩⟩
theorem cI.set {K : PySem.W.Frag} {I : List Addr} {F : Hp} {ds : Sg} {s : L2.St} (h : cI K I F ds s) (i : Nat) {d : D} {v : V} (hv : aF K I F d v) : cI K I F (ds.set i (some d)) (s.set i (some v)) := by
 refine ⟨by simp [h.1], fun j e q => ?_⟩
 by_cases hj : i = j
 ·subst hj
  by_cases hl : i < ds.length
  ·rw [aw hl] at q
   cases q
   exact ⟨v, aw (by rw [← h.1]; exact hl), hv⟩
  ·rw [List.getElem?_eq_none (by simpa using hl)] at q; cases q
 ·rw [aj hj] at q
  rw [aj hj]
  exact h.2 j e q
theorem cI.unset {K : PySem.W.Frag} {I : List Addr} {F : Hp} {ds : Sg} {s : L2.St} (h : cI K I F ds s) (i : Nat) (x : Option V) : cI K I F (ds.set i none) (s.set i x) := by
 refine ⟨by simp [h.1], fun j e q => ?_⟩
 by_cases hj : i = j
 ·subst hj
  by_cases hl : i < ds.length
  ·rw [aw hl] at q; cases q
  ·rw [List.getElem?_eq_none (by simpa using hl)] at q; cases q
 ·rw [aj hj] at q
  rw [aj hj]
  exact h.2 j e q
def kO (K : PySem.W.Frag) (I : List Addr) (F H : Hp) (x : XD) (c : Value) (d : Option Addr) : Prop :=
 c = x.cls ∧ match x.fs with
  | none => d = none
  | some fs => ∃ a r, d = some a ∧ H a = some (.xd r) ∧ aJ K I F fs r
def aS {α : Type} (K : PySem.W.Frag) (I : List Addr) (F G : Hp) (E : XK) (R : List Addr → Hp → Hp → α → W → Prop) : Res α → Prop
 | .ok a w => ∀ I' F' H', Ext I F I' F' → Rel K I' F' G w H' → R I' F' H' a w
 | .pM x w => ∀ I' F' H' c d, Ext I F I' F' → Rel K I' F' G w H' → kO K I' F' H' x c d → E c d H'
 | .bad => False
section
variable {α β : Type} {K : PySem.W.Frag} {I I1 : List Addr} {F F1 G : Hp} {E : XK} {R R' : List Addr → Hp → Hp → α → W → Prop} {r : Res α}
theorem aS.ext (h : aS K I F G E R r) (e : Ext I F I1 F1) : aS K I1 F1 G E R r := by
 cases r with
 | ok a w => exact fun I' F' H' e' q => h I' F' H' (e.trans e') q
 | pM x w => exact fun I' F' H' c d e' q y => h I' F' H' c d (e.trans e') q y
 | bad => exact h
theorem aS.mono (h : aS K I F G E R r) (k : ∀ I' F' H' a w, r = .ok a w → Ext I F I' F' → Rel K I' F' G w H' → R I' F' H' a w → R' I' F' H' a w) : aS K I F G E R' r := by
 cases r with
 | ok a w => exact fun I' F' H' e' q => k I' F' H' a w rfl e' q (h I' F' H' e' q)
 | pM x w => exact h
 | bad => exact h
theorem aS.bind {f : α → W → Res β} {R2 : List Addr → Hp → Hp → β → W → Prop} (h : aS K I F G E R2 (r.bind f)) : aS K I F G E (fun I' F' _ a w => aS K I' F' G E R2 (f a w)) r := by
 cases r with
 | ok a w => exact fun I' F' H' e' q => aS.ext (K := K) (R := R2) h e'
 | pM x w => exact h
 | bad => exact h
end
def RV (K : PySem.W.Frag) (Q : VK) : List Addr → Hp → Hp → D → W → Prop := fun I' F' H' d _ => ∀ v, aF K I' F' d v → Q v H'
structure aV where
 P : Program
 w : World
 K : PySem.W.Frag
 mg : Str → Option Value
 base : Heap
 k : Nat
 N : List Str
 sc : Scope
 fn : Str → Bool
structure Ctx (S : aV) (X : Cx) : Prop where
 P : X.prog = S.P
 w : X.w = S.w
 K : X.K = S.K
 mg : X.mg = S.mg
 base : X.base = S.base
 N : X.N = S.N
 sc : X.env.scope = S.sc
 fn : ∀ x, S.fn x = true → X.fn x = true
 calm : X.calm = true
 room : Room S.k X.A
 F9 : X.A.guards = some []
 nd : X.N.Nodup
structure hH (X : Cx) (E : XK) : Prop where
 tk : Takes X (fun cls d _ H => E cls d H)
 own : PassesOwn (model X.prog X.w) X.A X.env X.xe
abbrev ME := Sg → W → Res D
abbrev MT := Sg → W → Res Bool
abbrev MA := Sg → W → Res (List D)
inductive Fl where
 | nx (s : Sg) | rt (d : D) | bk (s : Sg) | ct (s : Sg)
abbrev MS := Sg → W → Res Fl
def RL (K : PySem.W.Frag) (Q : List V → Hp → Prop) : List Addr → Hp → Hp → List D → W → Prop := fun I' F' H' ds _ => ∀ vs, RepL K I' F' ds vs → Q vs H'
def RB (Q : Bool → Hp → Prop) : List Addr → Hp → Hp → Bool → W → Prop := fun _ _ H' b _ => Q b H'
def HD (K : PySem.W.Frag) (Z : Ends) : List Addr → Hp → Hp → Fl → W → Prop := fun I' F' H' f _ => match f with
 | .nx s => ∀ s', cI K I' F' s s' → Z.nx s' H'
 | .rt d => ∀ v, aF K I' F' d v → Z.rt v H'
 | .bk s => ∀ s', cI K I' F' s s' → Z.bk s' H'
 | .ct s => ∀ s', cI K I' F' s s' → Z.ct s' H'
def mO (K : PySem.W.Frag) (E : XK) (m : ME) : TE := fun σ H Q => ∃ I F G ds w, Rel K I F G w H ∧ cI K I F ds σ ∧ aS K I F G E (RV K Q) (m ds w)
def wZ (K : PySem.W.Frag) (E : XK) (m : MT) : TT := fun σ H Q => ∃ I F G ds w, Rel K I F G w H ∧ cI K I F ds σ ∧ aS K I F G E (RB Q) (m ds w)
def zE (K : PySem.W.Frag) (E : XK) (m : MA) : TA := fun σ H Q => ∃ I F G ds w, Rel K I F G w H ∧ cI K I F ds σ ∧ aS K I F G E (RL K Q) (m ds w)
def q8 (K : PySem.W.Frag) (E : XK) (m : MS) : TS := fun Z σ H => ∃ I F G ds w, Rel K I F G w H ∧ cI K I F ds σ ∧ aS K I F G E (HD K Z) (m ds w)
def JE (S : aV) (e : Expr) (m : ME) : Prop := ∀ X E, Ctx S X → hH X E → PE X e (mO X.K E m)
def JT (S : aV) (e : Expr) (m : MT) : Prop := ∀ X E, Ctx S X → hH X E → PT X e (wZ X.K E m)
def JW (S : aV) (e : Expr) (m : MT) : Prop := ∀ X E, Ctx S X → hH X E → PW X e (wZ X.K E m)
def JA (S : aV) (es : List Expr) (m : MA) : Prop := ∀ X E, Ctx S X → hH X E → PA X es (zE X.K E m)
def JS (S : aV) (st : Stmt) (m : MS) : Prop := ∀ X E, Ctx S X → hH X E → PS X st (q8 X.K E m)
def oW (S : aV) (st : List Stmt) (m : MS) : Prop := ∀ X E, Ctx S X → hH X E → PSs X st (q8 X.K E m)
section
variable {X : Cx} {e : Expr} {es : List Expr} {st : Stmt} {sts : List Stmt}
theorem bP {t t' : TE} (h : PE X e t) (k : ∀ σ H Q, t' σ H Q → t σ H Q) : PE X e t' := ⟨fun pins s σ H Q I q => h.run pins s σ H Q I (k σ H Q q)⟩
theorem n6 {t t' : TT} (h : PT X e t) (k : ∀ σ H Q, t' σ H Q → t σ H Q) : PT X e t' := ⟨fun pins s σ H Q I q => h.run pins s σ H Q I (k σ H Q q)⟩
theorem z4 {t t' : TT} (h : PW X e t) (k : ∀ σ H Q, t' σ H Q → t σ H Q) : PW X e t' := ⟨fun wh pins s σ H Q I q => h.run wh pins s σ H Q I (k σ H Q q)⟩
theorem tO {t t' : TA} (h : PA X es t) (k : ∀ σ H Q, t' σ H Q → t σ H Q) : PA X es t' := ⟨fun pos pins s σ H Q I q => h.run pos pins s σ H Q I (k σ H Q q)⟩
theorem fT {t t' : TS} (h : PS X st t) (k : ∀ D σ H, t' D σ H → t D σ H) : PS X st t' := ⟨fun pins s σ H D I q => h.run pins s σ H D I (k D σ H q)⟩
theorem rA {t t' : TS} (h : PSs X sts t) (k : ∀ D σ H, t' D σ H → t D σ H) : PSs X sts t' := ⟨fun pins s σ H D I q => h.run pins s σ H D I (k D σ H q)⟩
end
def aB (i : Nat) : ME := fun σ w => match σ[i]? with
 | some (some d) => .ok d w
 | _ => .bad
def eC (d : D) : ME := fun _ w => .ok d w
section
variable {S : aV} {pos : Pos}
theorem CF (i : Nat) {x : Str} (hN : S.N[i]? = some x) (hv : Vis S.sc x) (hd : (x == ("__debug__" : Str)) = false := by decide) (hcd : (x == ("__classdict__" : Str)) = false := by decide) : JE S (.Name x pos) (aB i) := by
 intro X E c xo
 refine bP (pe_var (i := i) (by rw [c.N]; exact hN) (by rw [c.sc]; exact hv) hd hcd) fun σ H Q h => ?_
 obtain ⟨I, F, G, ds, w, rel, rs, p⟩ := h
 unfold aB at p
 split at p
 ·rename_i d hi
  obtain ⟨v, hv, hr⟩ := rs.2 i d hi
  exact ⟨v, hv, p I F H .refl rel v hr⟩
 ·exact p.elim
theorem ER {e : Expr} {d : D} {v : V} (h : ∀ X, PE X e (tC v)) (hr : ∀ K I F, aF K I F d v) : JE S e (eC d) := by
 intro X E c xo
 refine bP (h X) fun σ H Q h => ?_
 obtain ⟨I, F, G, ds, w, rel, rs, p⟩ := h
 exact p I F H .refl rel v (hr _ _ _)
theorem aQ {i : Int} {j : Nat} : JE S (.Constant (.int i) j pos) (eC (.int i)) := ER (fun _ => pe_int) fun _ _ _ => by simp [aF]
theorem h9 {b : Bool} {j : Nat} : JE S (.Constant (.bool b) j pos) (eC (.bl b)) := ER (fun _ => pe_bl) fun _ _ _ => by simp [aF]
end
def aC (f : D → D → W → Res D) (a b : ME) : ME := fun σ w => (a σ w).bind fun x w1 => (b σ w1).bind fun y w2 => f x y w2
def m9 (f : D → W → Res D) (a : ME) : ME := fun σ w => (a σ w).bind fun x w1 => f x w1
def BM (K : PySem.W.Frag) (E : XK) (f : D → D → W → Res D) : R2 := fun x y H Q => ∃ I F G d e w, Rel K I F G w H ∧ aF K I F d x ∧ aF K I F e y ∧ aS K I F G E (RV K Q) (f d e w)
def O2 (S : aV) (o : Value → Value → Sem Value) (f : D → D → W → Res D) : Prop := ∀ X E, Ctx S X → hH X E → OpR X o (BM X.K E f)
section
variable {S : aV} {pos : Pos} {a b : Expr} {ma mb : ME}
theorem kN {K : PySem.W.Frag} {E : XK} {f : D → D → W → Res D} {σ : L2.St} {H : Hp} {Q : VK} (h : mO K E (aC f ma mb) σ H Q) : tOp (BM K E f) (mO K E ma) (mO K E mb) σ H Q := by
 obtain ⟨I, F, G, ds, w, rel, rs, p⟩ := h
 refine ⟨I, F, G, ds, w, rel, rs, (aS.bind p).mono fun I1 F1 H1 x w1 _ e1 rel1 p1 v rv => ?_⟩
 refine ⟨I1, F1, G, ds, w1, rel1, rs.ext e1, (aS.bind p1).mono fun I2 F2 H2 y w2 _ e2 rel2 p2 u ru => ?_⟩
 exact ⟨I2, F2, G, x, y, w2, rel2, aF.ext e2 _ _ rv, ru, p2⟩
theorem bC {op : Operator} {f : D → D → W → Res D} (ho : O2 S (binaryOp op) f) (ha : JE S a ma) (hb : JE S b mb) : JE S (.BinOp a op b pos) (aC f ma mb) := fun X E c xo =>
 bP (pe_op (ho X E c xo) (ha X E c xo) (hb X E c xo)) fun _ _ _ h => kN h
theorem eA {op : CmpOp} {f : D → D → W → Res D} (ho : O2 S (compareOp op) f) (ha : JE S a ma) (hb : JE S b mb) (hm : behindInMarks op b = false := by first | exact nobehind _ (by decide) (by decide) | rfl) : JE S (.Compare a [op] [b] pos) (aC f ma mb) := fun X E c xo =>
 bP (pe_cmpR (ho X E c xo) (ha X E c xo) (hb X E c xo) hm) fun _ _ _ h => kN h
def EB (d : D) (w : W) : Res Bool := match d with
 | .bl b => .ok b w
 | _ => .bad
def aR (m : ME) : MT := fun σ w => (m σ w).bind EB
theorem iA {op : CmpOp} {f : D → D → W → Res D} (ho : O2 S (compareOp op) f) (ha : JE S a ma) (hb : JE S b mb) (hm : behindInMarks op b = false := by first | exact nobehind _ (by decide) (by decide) | rfl) : JT S (.Compare a [op] [b] pos) (aR (aC f ma mb)) := fun X E c xo =>
 n6 (pt_cmpR (ho X E c xo) (ha X E c xo) (hb X E c xo) hm) fun σ H Q h => by
  obtain ⟨I, F, G, ds, w, rel, rs, p⟩ := h
  show tOp _ _ _ σ H fun x H' => ∃ k, x = .bl k ∧ Q k H'
  refine kN ⟨I, F, G, ds, w, rel, rs, (aS.bind p).mono fun I1 F1 H1 x w1 _ e1 rel1 p1 v rv => ?_⟩
  cases x <;> first | exact p1.elim | skip
  simp only [aF] at rv
  exact ⟨_, rv, p1 I1 F1 H1 .refl rel1⟩
end
mutual
def D.cW (f : Nat → Option PyData) : D → Option PyData
 | .non => some .none
 | .bl b => some (.bool b)
 | .int i => some (.int i)
 | .str x => some (.str x)
 | .ty _ => none
 | .con _ => none
 | .tup xs => (D.pysR f xs).map .tuple
 | .lst xs => (D.pysR f xs).map .list
 | .fM xs => (D.pysR f xs).map .list
 | .i4 xs => (D.pysR f xs).map .tuple
 | .uA _ _ => none
 | .ref i => f i
def D.pysR (f : Nat → Option PyData) : List D → Option (List PyData)
 | [] => some []
 | d :: ds => match D.cW f d, D.pysR f ds with
  | some p, some ps => some (p :: ps)
  | _, _ => none
end
def pZ : Nat → W → Nat → Option PyData
 | 0, _, _ => none
 | n + 1, w, i => match w[i]? with
  | some (.lst xs) => (D.pysR (pZ n w) xs).map .list
  | _ => none
def D.py (w : W) (d : D) : Option PyData := d.cW (pZ 8 w)
section
variable {K : PySem.W.Frag} {I : List Addr} {F G H : Hp} {w : W}
theorem Rel.yL (rel : Rel K I F G w H) {a : Addr} {vs : List V} (h : SqL K F a vs) : SqL K H a vs := by
 rcases h with (h | ⟨o, h⟩) | h
 ·exact .inl (.inl (rel.fz _ _ h))
 ·exact .inl (.inr ⟨o, rel.fz _ _ h⟩)
 ·exact .inr h
theorem Rel.y5 (rel : Rel K I F G w H) {a : Addr} {vs : List V} (h : SqT K F a vs) : SqT K H a vs := by
 rcases h with (h | ⟨o, h⟩) | h
 ·exact .inl (.inl (rel.fz _ _ h))
 ·exact .inl (.inr ⟨o, rel.fz _ _ h⟩)
 ·exact .inr h
mutual
theorem wW (rel : Rel K I F G w H) {f : Nat → Option PyData} (hf : ∀ i a p, I[i]? = some a → f i = some p → Dp K H (.ref a) p) : ∀ (d : D) (v : V) (p : PyData), aF K I F d v → d.cW f = some p → Dp K H v p
 | .non, v, p, h, e => by simp only [aF] at h; simp only [D.cW, aa] at e; subst h; subst e; exact .non
 | .bl b, v, p, h, e => by simp only [aF] at h; simp only [D.cW, aa] at e; subst h; subst e; exact .bl b
 | .int i, v, p, h, e => by simp only [aF] at h; simp only [D.cW, aa] at e; subst h; subst e; exact .int i
 | .str x, v, p, h, e => by simp only [aF] at h; simp only [D.cW, aa] at e; subst h; subst e; exact .str x
 | .ty _, v, p, h, e => by simp [D.cW] at e
 | .con _, v, p, h, e => by simp [D.cW] at e
 | .uA _ _, v, p, h, e => by simp [D.cW] at e
 | .tup xs, v, p, h, e => by
  simp only [aF] at h
  obtain ⟨a, vs, rfl, h2, h3⟩ := h
  simp only [D.cW, ab] at e
  obtain ⟨ps, e1, rfl⟩ := e
  exact .tup (.of (rel.fz _ _ h2)) (dp_pysR rel hf xs vs ps h3 e1)
 | .i4 xs, v, p, h, e => by
  simp only [aF] at h
  obtain ⟨a, vs, rfl, h2, h3⟩ := h
  simp only [D.cW, ab] at e
  obtain ⟨ps, e1, rfl⟩ := e
  exact .tup (rel.y5 h2) (dp_pysR rel hf xs vs ps h3 e1)
 | .lst xs, v, p, h, e => by
  simp only [aF] at h
  obtain ⟨a, vs, rfl, h2, h3⟩ := h
  simp only [D.cW, ab] at e
  obtain ⟨ps, e1, rfl⟩ := e
  exact .lst (.of (rel.fz _ _ h2)) (dp_pysR rel hf xs vs ps h3 e1)
 | .fM xs, v, p, h, e => by
  simp only [aF] at h
  obtain ⟨a, vs, rfl, h2, h3⟩ := h
  simp only [D.cW, ab] at e
  obtain ⟨ps, e1, rfl⟩ := e
  exact .lst (rel.yL h2) (dp_pysR rel hf xs vs ps h3 e1)
 | .ref i, v, p, h, e => by
  simp only [aF] at h
  obtain ⟨a, rfl, h2⟩ := h
  simp only [D.cW] at e
  exact hf i a p h2 e
theorem dp_pysR (rel : Rel K I F G w H) {f : Nat → Option PyData} (hf : ∀ i a p, I[i]? = some a → f i = some p → Dp K H (.ref a) p) : ∀ (ds : List D) (vs : List V) (ps : List PyData), RepL K I F ds vs → D.pysR f ds = some ps → DpAll K H vs ps
 | [], vs, ps, h, e => by simp only [RepL] at h; simp only [D.pysR, aa] at e; subst h; subst e; exact .nil
 | d :: ds, vs, ps, h, e => by
  simp only [RepL] at h
  obtain ⟨v, r, rfl, h2, h3⟩ := h
  simp only [D.pysR] at e
  split at e
  ·rename_i p ps' e1 e2
   cases e
   exact .cons (wW rel hf d v p h2 e1) (dp_pysR rel hf ds r ps' h3 e2)
  ·cases e
end
theorem AX (rel : Rel K I F G w H) : ∀ (n : Nat) (i : Nat) (a : Addr) (p : PyData), I[i]? = some a → pZ n w i = some p → Dp K H (.ref a) p
 | 0, i, a, p, _, e => by simp [pZ] at e
 | n + 1, i, a, p, h, e => by
  simp only [pZ] at e
  split at e
  ·rename_i xs hw
   simp only [ab] at e
   obtain ⟨ps, e1, rfl⟩ := e
   obtain ⟨u, hu, ho⟩ := rel.ob i a _ h hw
   obtain ⟨vs, rfl, h3⟩ := ho
   exact .lst (.of hu) (dp_pysR rel (fun i a p => AX rel n i a p) xs vs ps h3 e1)
  ·cases e
theorem q9 (rel : Rel K I F G w H) {d : D} {v : V} {p : PyData} (h : aF K I F d v) (e : d.py w = some p) : Dp K H v p :=
 wW rel (fun i a p => AX rel 8 i a p) d v p h e
end
def a8 (x y : D) (w : W) : Res D := match x, y with
 | .int a, .int b => .ok (.int (a + b)) w
 | .str a, .str b => if a.length + b.length ≤ sizeLine then .ok (.str (a ++ b)) w else .bad
 | .tup a, .tup b => if a.length + b.length ≤ sizeLine then .ok (.tup (a ++ b)) w else .bad
 | .lst a, .lst b => if a.length + b.length ≤ sizeLine then .ok (.lst (a ++ b)) w else .bad
 | _, _ => .bad
def eH (x y : D) (w : W) : Res D := match x, y with
 | .int a, .int b => .ok (.int (a - b)) w
 | _, _ => .bad
def fA (a b : Int) : Bool := (decide (-(2 ^ 64) < a) && decide (a < 2 ^ 64)) || (decide (-(2 ^ 64) < b) && decide (b < 2 ^ 64))
def mulM (x y : D) (w : W) : Res D := match x, y with
 | .int a, .int b => if fA a b then .ok (.int (a * b)) w else .bad
 | .lst a, .int k => if -(2 ^ 63) ≤ k ∧ k < 2 ^ 63 ∧ a.length * k.toNat ≤ sizeLine then .ok (.lst (List.replicate k.toNat a).flatten) w else .bad
 | _, _ => .bad
def dZ (x y : D) (w : W) : Res D := match x, y with
 | .int a, .int b => if 0 < b ∧ b < 1073741824 then .ok (.int (a / b)) w else .bad
 | _, _ => .bad
def dE (x y : D) (w : W) : Res D := match x, y with
 | .int a, .int b => if 0 < b then .ok (.int (a % b)) w else .bad
 | _, _ => .bad
def wO (x y : D) (w : W) : Res D := match x, y with
 | .int a, .int b => if 0 ≤ b ∧ b ≤ 1000000 ∧ a.natAbs < 2 ^ 64 then .ok (.int (a ^ b.toNat)) w else .bad
 | _, _ => .bad
def oT (x : D) (w : W) : Res D := match x with
 | .int a => .ok (.int (-a)) w
 | _ => .bad
def mK (x y : D) (w : W) : Option Bool := match x.py w, y.py w with
 | some p, some q => if SeqAt.shaped p = true ∧ SeqAt.shaped q = true then some (PyData.eqv p q) else none
 | _, _ => none
def cX (x y : D) (w : W) : Res D := match mK x y w with
 | some b => .ok (.bl b) w
 | none => .bad
def f7 (x y : D) (w : W) : Res D := match mK x y w with
 | some b => .ok (.bl (!b)) w
 | none => .bad
def DZ (x y : D) (w : W) : Res D := match x, y with
 | .int a, .int b => .ok (.bl (decide (a ≤ b))) w
 | _, _ => .bad
def oX (x y : D) (w : W) : Res D := match x, y with
 | .int a, .int b => .ok (.bl (decide (b < a))) w
 | _, _ => .bad
def yK (x y : D) (w : W) : Res D := match x, y with
 | .int a, .int b => .ok (.bl (decide (b ≤ a))) w
 | _, _ => .bad
def D.isNon : D → Bool
 | .non => true
 | _ => false
def DR (x y : D) (w : W) : Res D := match x, y with
 | x, .non => .ok (.bl x.isNon) w
 | .bl a, .bl b => .ok (.bl (decide (a = b))) w
 | _, _ => .bad
def lU (x y : D) (w : W) : Res D := match x, y with
 | x, .non => .ok (.bl (!x.isNon)) w
 | .bl a, .bl b => .ok (.bl (!decide (a = b))) w
 | _, _ => .bad
def D.items (w : W) : D → Option (List D)
 | .tup xs => some xs
 | .lst xs => some xs
 | .fM xs => some xs
 | .i4 xs => some xs
 | .ref i => match w[i]? with
  | some (.lst xs) => some xs
  | _ => none
 | _ => none
section
variable {S : aV}
theorem eY {o : Value → Value → Sem Value} {f : D → D → W → Res D}
  (h : ∀ (X : Cx) (E : XK), Ctx S X → hH X E → ∀ (I : List Addr) (F G : Hp) (d e : D) (w : W) (H : Hp) (x y : V) (Q : VK), Rel X.K I F G w H → aF X.K I F d x → aF X.K I F e y → aS X.K I F G E (RV X.K Q) (f d e w) →
   ∃ r : R2, OpR X o r ∧ r x y H Q) : O2 S o f := fun X E c xo pins s σ H x y v u Q I rx ry ⟨J, F, G, d, e, w, rel, rd, re, p⟩ => by
 obtain ⟨r, ho, hr⟩ := h X E c xo J F G d e w H x y Q rel rd re p
 exact ho pins s σ H x y v u Q I rx ry hr
theorem jH {o : Value → Value → Sem Value} {f : D → D → W → Res D} {C : Int → Int → Prop} {g : Int → Int → V} {gd : Int → Int → D} (ho : ∀ X : Cx, OpR X o (rI C g))
  (hg : ∀ K I F a b, aF K I F (gd a b) (g a b)) (hf : ∀ d e w r, f d e w = r → r = .bad ∨ ∃ a b, d = .int a ∧ e = .int b ∧ C a b ∧ r = .ok (gd a b) w) : O2 S o f :=
 eY fun X E c xo I F G d e w H x y Q rel rd re p => by
  rcases hf d e w _ rfl with h | ⟨a, b, rfl, rfl, hc, h⟩
  ·rw [h] at p; exact p.elim
  ·rw [h] at p
   simp only [aF] at rd re
   exact ⟨_, ho X, a, b, rd, re, hc, p I F H .refl rel _ (hg _ _ _ _ _)⟩
theorem x3 {o : Value → Value → Sem Value} {X : Cx} {g : Int → Int → V} (h : OpR X o (rI0 g)) : OpR X o (rI (fun _ _ => True) g) := fun pins s σ H x y v u Q I rx ry ⟨i, j, e1, e2, _, q⟩ => h pins s σ H x y v u Q I rx ry ⟨i, j, e1, e2, q⟩
theorem xH : O2 S (binaryOp .Sub) eH := jH (gd := fun a b => .int (a - b)) (fun _ => x3 op_sub) (fun _ _ _ _ _ => by simp [aF]) fun d e w r h => by
 subst h; cases d <;> cases e <;> simp [eH]
theorem BA : O2 S (compareOp .Gt) oX := jH (gd := fun a b => .bl (decide (b < a))) (fun _ => x3 op_gt) (fun _ _ _ _ _ => by simp [aF]) fun d e w r h => by
 subst h; cases d <;> cases e <;> simp [oX]
theorem E8 : O2 S (compareOp .GtE) yK := jH (gd := fun a b => .bl (decide (b ≤ a))) (fun _ => x3 op_ge) (fun _ _ _ _ _ => by simp [aF]) fun d e w r h => by
 subst h; cases d <;> cases e <;> simp [yK]
theorem n8 : O2 S (binaryOp .FloorDiv) dZ := jH (gd := fun a b => .int (a / b)) (fun _ => op_fdiv) (fun _ _ _ _ _ => by simp [aF]) fun d e w r h => by
 subst h; cases d <;> cases e <;> simp only [dZ, true_or, reduceCtorEq, false_and, and_false, exists_const, or_false]
 rename_i a b
 by_cases hc : 0 < b ∧ b < 1073741824
 ·rw [if_pos hc]; exact .inr ⟨a, b, rfl, rfl, hc, rfl⟩
 ·rw [if_neg hc]; exact .inl rfl
theorem iB : O2 S (binaryOp .Mod) dE := jH (gd := fun a b => .int (a % b)) (fun _ => op_mod) (fun _ _ _ _ _ => by simp [aF]) fun d e w r h => by
 subst h; cases d <;> cases e <;> simp only [dE, true_or, reduceCtorEq, false_and, and_false, exists_const, or_false]
 rename_i a b
 by_cases hc : 0 < b
 ·rw [if_pos hc]; exact .inr ⟨a, b, rfl, rfl, hc, rfl⟩
 ·rw [if_neg hc]; exact .inl rfl
theorem C7 : O2 S (binaryOp .Pow) wO := jH (gd := fun a b => .int (a ^ b.toNat)) (fun _ => op_pow) (fun _ _ _ _ _ => by simp [aF]) fun d e w r h => by
 subst h; cases d <;> cases e <;> simp only [wO, true_or, reduceCtorEq, false_and, and_false, exists_const, or_false]
 rename_i a b
 by_cases hc : 0 ≤ b ∧ b ≤ 1000000 ∧ a.natAbs < 2 ^ 64
 ·rw [if_pos hc]; exact .inr ⟨a, b, rfl, rfl, hc, rfl⟩
 ·rw [if_neg hc]; exact .inl rfl
theorem fB {K : PySem.W.Frag} {I : List Addr} {F G H : Hp} {E : XK} {w : W} {ds : List D} {vs : List V} {Q : VK} (rel : Rel K I F G w H) (r : RepL K I F ds vs) (p : aS K I F G E (RV K Q) (.ok (.lst ds) w)) : ∀ q, H q = none → Q (.ref q) (upd H q (.lst vs)) := fun q hq => by
 have hF : F q = none := by
  cases h : F q with
  | none => rfl
  | some u => rw [rel.fz _ _ h] at hq; cases hq
 have e : Ext I F I (upd F q (.lst vs)) := ⟨List.prefix_refl _, fun a u h => by rw [upd_ne (ne_of_none h hF)]; exact h⟩
 refine p I (upd F q (.lst vs)) (upd H q (.lst vs)) e ⟨rel.len, rel.nd, fun i a o h1 h2 => ?_, fun a u h => ?_, fun i a o h h0 hf => ?_, fun a u h => ?_, fun a u h => ?_, rel.gt⟩ _ ?_
 ·obtain ⟨u, h3, h4⟩ := rel.ob i a o h1 h2
  exact ⟨u, by rw [upd_ne (ne_of_none h3 hq)]; exact h3, gD.ext e h4⟩
 ·by_cases ha : a = q
  ·subst ha; rw [upd_same] at h ⊢; exact h
  ·rw [upd_ne ha] at h ⊢; exact rel.fz a u h
 ·obtain ⟨u, h3, _⟩ := rel.ob i a o h h0
  rw [upd_ne (ne_of_none h3 hq)]; exact rel.ap i a o h h0 hf
 ·rw [upd_ne (ne_of_none (rel.gz a u h) hq)]; exact rel.gz a u h
 ·rw [upd_ne (ne_of_none (rel.gz a u h) hq)]; exact rel.gf a u h
 ·simp only [aF]
  exact ⟨q, vs, rfl, upd_same, RepL.ext e _ _ r⟩
theorem oI {K : PySem.W.Frag} {I : List Addr} {F G H : Hp} {E : XK} {w : W} {ds : List D} {vs : List V} {Q : VK} (rel : Rel K I F G w H) (r : RepL K I F ds vs) (p : aS K I F G E (RV K Q) (.ok (.tup ds) w)) : ∀ q, H q = none → Q (.ref q) (upd H q (.tup vs)) := fun q hq => by
 have hF : F q = none := by
  cases h : F q with
  | none => rfl
  | some u => rw [rel.fz _ _ h] at hq; cases hq
 have e : Ext I F I (upd F q (.tup vs)) := ⟨List.prefix_refl _, fun a u h => by rw [upd_ne (ne_of_none h hF)]; exact h⟩
 refine p I (upd F q (.tup vs)) (upd H q (.tup vs)) e ⟨rel.len, rel.nd, fun i a o h1 h2 => ?_, fun a u h => ?_, fun i a o h h0 hf => ?_, fun a u h => ?_, fun a u h => ?_, rel.gt⟩ _ ?_
 ·obtain ⟨u, h3, h4⟩ := rel.ob i a o h1 h2
  exact ⟨u, by rw [upd_ne (ne_of_none h3 hq)]; exact h3, gD.ext e h4⟩
 ·by_cases ha : a = q
  ·subst ha; rw [upd_same] at h ⊢; exact h
  ·rw [upd_ne ha] at h ⊢; exact rel.fz a u h
 ·obtain ⟨u, h3, _⟩ := rel.ob i a o h h0
  rw [upd_ne (ne_of_none h3 hq)]; exact rel.ap i a o h h0 hf
 ·rw [upd_ne (ne_of_none (rel.gz a u h) hq)]; exact rel.gz a u h
 ·rw [upd_ne (ne_of_none (rel.gz a u h) hq)]; exact rel.gf a u h
 ·simp only [aF]
  exact ⟨q, vs, rfl, upd_same, RepL.ext e _ _ r⟩
theorem RepL.eq_nil {K : PySem.W.Frag} {I : List Addr} {F : Hp} {ds : List D} (r : RepL K I F ds []) : ds = [] := by
 have := r.length
 exact List.eq_nil_of_length_eq_zero (by simpa using this)
theorem fH : O2 S (binaryOp .Add) a8 := eY fun X E c xo I F G d e w H x y Q rel rd re p => by
 cases d <;> cases e <;> first | exact p.elim | skip
 ·simp only [aF] at rd re
  exact ⟨_, op_add, _, _, rd, re, p I F H .refl rel _ (by simp [aF])⟩
 ·rename_i a b
  simp only [aF] at rd re
  simp only [a8] at p
  split at p
  ·rename_i hl
   exact ⟨_, op_add_str, _, _, rd, re, hl, p I F H .refl rel _ (by simp [aF])⟩
  ·exact p.elim
 ·rename_i a b
  simp only [aF] at rd re
  obtain ⟨q, vs, rfl, h1, h2⟩ := rd
  obtain ⟨q', vs', rfl, h1', h2'⟩ := re
  simp only [a8] at p
  split at p
  ·rename_i hl
   refine ⟨_, op_catA, q, q', vs, vs', rfl, rfl, .of (rel.fz _ _ h1), .of (rel.fz _ _ h1'), by rw [← h2.length, ← h2'.length]; exact hl, fun hn => ?_, fun _ hn => ?_, fun _ _ => ?_⟩
   ·subst hn
    obtain rfl := h2.eq_nil
    exact p I F H .refl rel _ (by simp only [aF, List.nil_append]; exact ⟨_, _, rfl, h1', h2'⟩)
   ·subst hn
    obtain rfl := h2'.eq_nil
    exact p I F H .refl rel _ (by simp only [aF, List.append_nil]; exact ⟨_, _, rfl, h1, h2⟩)
   ·exact oI rel (h2.append h2') p
  ·exact p.elim
 ·rename_i a b
  simp only [aF] at rd re
  obtain ⟨q, vs, rfl, h1, h2⟩ := rd
  obtain ⟨q', vs', rfl, h1', h2'⟩ := re
  simp only [a8] at p
  split at p
  ·rename_i hl
   exact ⟨_, op_cat, q, q', vs, vs', rfl, rfl, rel.fz _ _ h1, rel.fz _ _ h1', by rw [← h2.length, ← h2'.length]; exact hl, fB rel (h2.append h2') p⟩
  ·exact p.elim
theorem RepL.rep {K : PySem.W.Frag} {I : List Addr} {F : Hp} {ds : List D} {vs : List V} (r : RepL K I F ds vs) : ∀ n : Nat, RepL K I F (List.replicate n ds).flatten (List.replicate n vs).flatten
 | 0 => by simp [RepL]
 | n + 1 => by
  rw [List.replicate_succ, List.replicate_succ, List.flatten_cons, List.flatten_cons]
  exact r.append (r.rep n)
theorem iI : O2 S (binaryOp .Mult) mulM := eY fun X E c xo I F G d e w H x y Q rel rd re p => by
 cases d <;> cases e <;> first | exact p.elim | skip
 ·rename_i a b
  simp only [aF] at rd re
  simp only [mulM] at p
  split at p
  ·rename_i hl
   refine ⟨_, op_mul, _, _, rd, re, ?_, p I F H .refl rel _ (by simp [aF])⟩
   simpa [fA, CMul] using hl
  ·exact p.elim
 ·rename_i a b
  simp only [aF] at rd re
  obtain ⟨q, vs, rfl, h1, h2⟩ := rd
  simp only [mulM] at p
  split at p
  ·rename_i hl
   exact ⟨_, op_rep, q, b, vs, rfl, re, rel.fz _ _ h1, hl.1, hl.2.1, by rw [← h2.length]; exact hl.2.2, fB rel (h2.rep _) p⟩
  ·exact p.elim
theorem q7 : O2 S (compareOp .Eq) cX := eY fun X E c xo I F G d e w H x y Q rel rd re p => by
 unfold cX mK at p
 split at p
 ·rename_i b hb
  split at hb
  ·rename_i p1 q1 e1 e2
   split at hb
   ·rename_i hs
    cases hb
    exact ⟨_, op_eqD c.room.units, p1, q1, q9 rel rd e1, q9 rel re e2, hs.1, hs.2, p I F H .refl rel _ (by simp [aF])⟩
   ·cases hb
  ·cases hb
 ·exact p.elim
theorem lF : O2 S (compareOp .NotEq) f7 := eY fun X E c xo I F G d e w H x y Q rel rd re p => by
 unfold f7 mK at p
 split at p
 ·rename_i b hb
  split at hb
  ·rename_i p1 q1 e1 e2
   split at hb
   ·rename_i hs
    cases hb
    exact ⟨_, op_neD c.room.units, p1, q1, q9 rel rd e1, q9 rel re e2, hs.1, hs.2, p I F H .refl rel _ (by simp [aF])⟩
   ·cases hb
  ·cases hb
 ·exact p.elim
theorem mV {K : PySem.W.Frag} {I : List Addr} {F : Hp} {d : D} {v : V} (h : aF K I F d v) : decide (v = .non) = d.isNon := by
 cases d <;> simp only [aF] at h
 case non => subst h; rfl
 case bl => subst h; rfl
 case int => subst h; rfl
 case str => subst h; rfl
 case ty => subst h; rfl
 case con => subst h; rfl
 case tup => obtain ⟨a, vs, rfl, _⟩ := h; rfl
 case lst => obtain ⟨a, vs, rfl, _⟩ := h; rfl
 case fM => obtain ⟨a, vs, rfl, _⟩ := h; rfl
 case i4 => obtain ⟨a, vs, rfl, _⟩ := h; rfl
 case uA => obtain ⟨a, vs, rfl, _⟩ := h; rfl
 case ref => obtain ⟨a, rfl, _⟩ := h; rfl
theorem yT {x : D} {w : W} : DR x .non w = .ok (.bl x.isNon) w := by cases x <;> rfl
theorem sX {x : D} {w : W} : lU x .non w = .ok (.bl (!x.isNon)) w := by cases x <;> rfl
theorem EG : O2 S (compareOp .Is) DR := eY fun X E c xo I F G d e w H x y Q rel rd re p => by
 cases e
 case non =>
  simp only [yT] at p
  simp only [aF] at re
  exact ⟨_, op_isN, re, p I F H .refl rel _ (by simp [aF, mV rd])⟩
 case bl b =>
  cases d <;> first | exact p.elim | skip
  simp only [aF] at rd re
  exact ⟨_, op_isBl, _, _, rd, re, p I F H .refl rel _ (by simp [aF])⟩
 all_goals (cases d <;> exact p.elim)
theorem w7 : O2 S (compareOp .IsNot) lU := eY fun X E c xo I F G d e w H x y Q rel rd re p => by
 cases e
 case non =>
  simp only [sX] at p
  simp only [aF] at re
  exact ⟨_, op_notN, re, p I F H .refl rel _ (by simp [aF, mV rd])⟩
 case bl b =>
  cases d <;> first | exact p.elim | skip
  simp only [aF] at rd re
  exact ⟨_, op_notBl, _, _, rd, re, p I F H .refl rel _ (by simp [aF])⟩
 all_goals (cases d <;> exact p.elim)
end
def eS (d : D) (w : W) : Option Bool := match d with
 | .non => some false
 | .bl b => some b
 | .int i => some (i != 0)
 | .str x => if x.length ≤ sizeLine then some ((x.length : Int) != 0) else none
 | .tup xs => some (!xs.isEmpty)
 | .lst xs => some (!xs.isEmpty)
 | .fM xs => some (!xs.isEmpty)
 | .i4 xs => some (!xs.isEmpty)
 | .ref i => (match w[i]? with
  | some (.lst xs) => some (!xs.isEmpty)
  | some (.dK kvs) => some (!kvs.isEmpty)
  | _ => none)
 | _ => none
theorem RepL.isEmpty {K : PySem.W.Frag} {I : List Addr} {F : Hp} {ds : List D} {vs : List V} (r : RepL K I F ds vs) : vs.isEmpty = ds.isEmpty := by
 cases ds with
 | nil => simp only [RepL] at r; subst r; rfl
 | cons d ds => simp only [RepL] at r; obtain ⟨v, t, rfl, _⟩ := r; rfl
theorem aJ.isEmpty {κ : Type} {K : PySem.W.Frag} {I : List Addr} {F : Hp} {ds : List (κ × D)} {vs : List (κ × V)} (r : aJ K I F ds vs) : vs.isEmpty = ds.isEmpty := by
 cases ds with
 | nil => simp only [aJ] at r; subst r; rfl
 | cons d ds => obtain ⟨k, d⟩ := d; simp only [aJ] at r; obtain ⟨v, t, rfl, _⟩ := r; rfl
theorem y4 {K : PySem.W.Frag} {I : List Addr} {F G H : Hp} {w : W} (rel : Rel K I F G w H) {d : D} {v : V} (h : aF K I F d v) {b : Bool} (e : eS d w = some b) : TruV K v H b := by
 cases d <;> simp only [aF] at h
 case non => subst h; simp only [eS, aa] at e; exact e.symm
 case bl => subst h; simp only [eS, aa] at e; exact e.symm
 case int => subst h; simp only [eS, aa] at e; exact e.symm
 case str x =>
  subst h
  simp only [eS] at e
  split at e
  ·rename_i hl
   cases e; exact ⟨hl, rfl⟩
  ·cases e
 case ty => cases e
 case con => cases e
 case uA => cases e
 case tup xs =>
  obtain ⟨a, vs, rfl, h1, h2⟩ := h
  simp only [eS, aa] at e
  exact .inr (.inl ⟨vs, .of (rel.fz _ _ h1), by rw [h2.isEmpty]; exact e.symm⟩)
 case i4 xs =>
  obtain ⟨a, vs, rfl, h1, h2⟩ := h
  simp only [eS, aa] at e
  exact .inr (.inl ⟨vs, rel.y5 h1, by rw [h2.isEmpty]; exact e.symm⟩)
 case lst xs =>
  obtain ⟨a, vs, rfl, h1, h2⟩ := h
  simp only [eS, aa] at e
  exact .inl ⟨vs, .of (rel.fz _ _ h1), by rw [h2.isEmpty]; exact e.symm⟩
 case fM xs =>
  obtain ⟨a, vs, rfl, h1, h2⟩ := h
  simp only [eS, aa] at e
  exact .inl ⟨vs, rel.yL h1, by rw [h2.isEmpty]; exact e.symm⟩
 case ref i =>
  obtain ⟨a, rfl, h1⟩ := h
  simp only [eS] at e
  split at e
  ·rename_i xs hw
   cases e
   obtain ⟨u, hu, vs, rfl, h2⟩ := rel.ob i a _ h1 hw
   exact .inl ⟨vs, .of hu, by rw [h2.isEmpty]⟩
  ·rename_i kvs hw
   cases e
   obtain ⟨u, hu, vs, rfl, h2⟩ := rel.ob i a _ h1 hw
   exact .inr (.inr ⟨vs, hu, by rw [h2.isEmpty]⟩)
  ·cases e
def bR (d : D) (w : W) : Res Bool := match eS d w with
 | some b => .ok b w
 | none => .bad
def dD (m : ME) : MT := fun σ w => (m σ w).bind bR
def cZ (a b : MT) : MT := fun σ w => (a σ w).bind fun c w1 => if c = true then b σ w1 else .ok false w1
def hO (a b : MT) : MT := fun σ w => (a σ w).bind fun c w1 => if c = true then .ok true w1 else b σ w1
def c6 (a : MT) : MT := fun σ w => (a σ w).bind fun c w1 => .ok (!c) w1
def gE (a b : ME) : ME := fun σ w => (a σ w).bind fun x w1 => (bR x w1).bind fun c _ => if c = true then b σ w1 else .ok x w1
def AM (a b : ME) : ME := fun σ w => (a σ w).bind fun x w1 => (bR x w1).bind fun c _ => if c = true then .ok x w1 else b σ w1
def notM (x : D) (w : W) : Res D := (bR x w).bind fun c _ => .ok (.bl (!c)) w
def FX (t : MT) (a b : ME) : ME := fun σ w => (t σ w).bind fun c w1 => if c = true then a σ w1 else b σ w1
section
variable {S : aV} {pos : Pos} {a b c : Expr} {ma mb : ME} {ta tb : MT} {rest : List Expr}
theorem a7 {α : Type} {K : PySem.W.Frag} {E : XK} {m : ME} {f : Sg → D → W → Res α} {I : List Addr} {F G H : Hp} {ds : Sg} {w : W} {σ : L2.St} {R : List Addr → Hp → Hp → α → W → Prop} (rel : Rel K I F G w H) (rs : cI K I F ds σ)
  (p : aS K I F G E R ((m ds w).bind (f ds))) {Q : VK} (k : ∀ I1 F1 H1 x w1 v, Ext I F I1 F1 → Rel K I1 F1 G w1 H1 → cI K I1 F1 ds σ → aF K I1 F1 x v → aS K I1 F1 G E R (f ds x w1) → Q v H1) : mO K E m σ H Q :=
 ⟨I, F, G, ds, w, rel, rs, (aS.bind p).mono fun I1 F1 H1 x w1 _ e1 rel1 p1 v rv => k I1 F1 H1 x w1 v e1 rel1 (rs.ext e1) rv p1⟩
theorem jM {α : Type} {K : PySem.W.Frag} {E : XK} {m : MT} {f : Sg → Bool → W → Res α} {I : List Addr} {F G H : Hp} {ds : Sg} {w : W} {σ : L2.St} {R : List Addr → Hp → Hp → α → W → Prop} (rel : Rel K I F G w H) (rs : cI K I F ds σ)
  (p : aS K I F G E R ((m ds w).bind (f ds))) {Q : Bool → Hp → Prop} (k : ∀ I1 F1 H1 c w1, Ext I F I1 F1 → Rel K I1 F1 G w1 H1 → cI K I1 F1 ds σ → aS K I1 F1 G E R (f ds c w1) → Q c H1) : wZ K E m σ H Q :=
 ⟨I, F, G, ds, w, rel, rs, (aS.bind p).mono fun I1 F1 H1 x w1 _ e1 rel1 p1 => k I1 F1 H1 x w1 e1 rel1 (rs.ext e1) p1⟩
theorem b5 {α : Type} {K : PySem.W.Frag} {E : XK} {m : MA} {f : Sg → List D → W → Res α} {I : List Addr} {F G H : Hp} {ds : Sg} {w : W} {σ : L2.St} {R : List Addr → Hp → Hp → α → W → Prop} (rel : Rel K I F G w H) (rs : cI K I F ds σ)
  (p : aS K I F G E R ((m ds w).bind (f ds))) {Q : List V → Hp → Prop} (k : ∀ I1 F1 H1 xs w1 vs, Ext I F I1 F1 → Rel K I1 F1 G w1 H1 → cI K I1 F1 ds σ → RepL K I1 F1 xs vs → aS K I1 F1 G E R (f ds xs w1) → Q vs H1) : zE K E m σ H Q :=
 ⟨I, F, G, ds, w, rel, rs, (aS.bind p).mono fun I1 F1 H1 x w1 _ e1 rel1 p1 v rv => k I1 F1 H1 x w1 v e1 rel1 (rs.ext e1) rv p1⟩
theorem aS.nR {K : PySem.W.Frag} {I : List Addr} {F G H : Hp} {E : XK} {Q : VK} {d : D} {w : W} (p : aS K I F G E (RV K Q) (.ok d w)) (rel : Rel K I F G w H) {v : V} (h : aF K I F d v) : Q v H := p I F H .refl rel v h
theorem aS.GR {K : PySem.W.Frag} {I : List Addr} {F G H : Hp} {E : XK} {Q : Bool → Hp → Prop} {b : Bool} {w : W} (p : aS K I F G E (RB Q) (.ok b w)) (rel : Rel K I F G w H) : Q b H := p I F H .refl rel
theorem aS.truth {α : Type} {K : PySem.W.Frag} {I : List Addr} {F G H : Hp} {E : XK} {R : List Addr → Hp → Hp → α → W → Prop} {d : D} {w : W} {v : V} {f : Bool → W → Res α} (p : aS K I F G E R ((bR d w).bind f)) (rel : Rel K I F G w H) (h : aF K I F d v) :
  ∃ b, TruV K v H b ∧ aS K I F G E R (f b w) := by
 unfold bR at p
 split at p
 ·rename_i b e
  exact ⟨b, y4 rel h e, p⟩
 ·exact p.elim
theorem fP (ha : JE S a ma) (he : ∀ (env : Env) (whole : Sem Value), isTrue a env whole = (do let v ← whole; standAt a.pos; holding [v] (truthy v)) := by intro _ _; rfl) : JT S a (dD ma) := fun X E cx xo =>
 n6 (pt_truth (ha X E cx xo) (he X.env)) fun σ H Q ⟨I, F, G, ds, w, rel, rs, p⟩ => a7 (f := fun _ => bR) rel rs p fun I1 F1 H1 x w1 v e1 rel1 rs1 rv p1 => by
  have p2 : aS X.K I1 F1 G E (RB Q) ((bR x w1).bind fun b w => .ok b w) := by
   cases h : bR x w1 <;> rw [h] at p1 <;> exact p1
  obtain ⟨b, hb, p3⟩ := p2.truth rel1 rv
  exact ⟨b, hb, p3.GR rel1⟩
theorem GP (h : JW S a ta) : JT S a ta := fun X E cx xo => (h X E cx xo).pt
theorem zR (ha : JT S a ta) : JW S (.BoolOp .And [a] pos) ta := fun X E cx xo => pw_and1 (ha X E cx xo)
theorem BY (ha : JT S a ta) (hb : JW S (.BoolOp .And (b :: rest) pos) tb) : JW S (.BoolOp .And (a :: b :: rest) pos) (cZ ta tb) := fun X E cx xo =>
 z4 (pw_and (ha X E cx xo) (hb X E cx xo)) fun σ H Q ⟨I, F, G, ds, w, rel, rs, p⟩ => jM (f := fun ds c w1 => if c = true then tb ds w1 else .ok false w1) rel rs p fun I1 F1 H1 c w1 e1 rel1 rs1 p1 => by
  cases c with
  | true => exact ⟨I1, F1, G, ds, w1, rel1, rs1, p1⟩
  | false => exact p1.GR rel1
theorem sF (ha : JT S a ta) : JT S (.UnaryOp .Not a pos) (c6 ta) := fun X E cx xo =>
 n6 (pt_not (ha X E cx xo)) fun σ H Q ⟨I, F, G, ds, w, rel, rs, p⟩ => jM (f := fun _ c w1 => .ok (!c) w1) rel rs p fun I1 F1 H1 c w1 e1 rel1 rs1 p1 => p1.GR rel1
theorem iM {op : BoolOp} (h : JE S a ma) : JE S (.BoolOp op [a] pos) ma := fun X E cx xo => pe_one (h X E cx xo)
theorem nK (ha : JE S a ma) (hb : JE S (.BoolOp .And (b :: rest) pos) mb) : JE S (.BoolOp .And (a :: b :: rest) pos) (gE ma mb) := fun X E cx xo =>
 bP (pe_andT (ha X E cx xo) (hb X E cx xo)) fun σ H Q ⟨I, F, G, ds, w, rel, rs, p⟩ => a7 (f := fun ds x w1 => (bR x w1).bind fun c _ => if c = true then mb ds w1 else .ok x w1) rel rs p fun I1 F1 H1 x w1 v e1 rel1 rs1 rv p1 => by
  obtain ⟨k, hk, p2⟩ := p1.truth rel1 rv
  refine ⟨k, hk, ?_⟩
  cases k with
  | true => exact ⟨I1, F1, G, ds, w1, rel1, rs1, p2⟩
  | false => exact p2.nR rel1 rv
theorem xV (ha : JE S a ma) (hb : JE S (.BoolOp .Or (b :: rest) pos) mb) : JE S (.BoolOp .Or (a :: b :: rest) pos) (AM ma mb) := fun X E cx xo =>
 bP (pe_orT (ha X E cx xo) (hb X E cx xo)) fun σ H Q ⟨I, F, G, ds, w, rel, rs, p⟩ => a7 (f := fun ds x w1 => (bR x w1).bind fun c _ => if c = true then .ok x w1 else mb ds w1) rel rs p fun I1 F1 H1 x w1 v e1 rel1 rs1 rv p1 => by
  obtain ⟨k, hk, p2⟩ := p1.truth rel1 rv
  refine ⟨k, hk, ?_⟩
  cases k with
  | true => exact p2.nR rel1 rv
  | false => exact ⟨I1, F1, G, ds, w1, rel1, rs1, p2⟩
end
def aD : MA := fun _ w => .ok [] w
def aA (a : ME) (r : MA) : MA := fun σ w => (a σ w).bind fun x w1 => (r σ w1).bind fun xs w2 => .ok (x :: xs) w2
def a6 (a : MA) : ME := fun σ w => (a σ w).bind fun xs w1 => if xs.length ≤ sizeLine then .ok (.tup xs) w1 else .bad
def iF (a : MA) : ME := fun σ w => (a σ w).bind fun xs w1 => if xs.length ≤ sizeLine then .ok (.lst xs) w1 else .bad
def eNew (a : MA) : ME := fun σ w => (a σ w).bind fun xs w1 => if xs.length ≤ sizeLine then .ok (.ref w1.length) (w1 ++ [.lst xs]) else .bad
theorem t4 {K : PySem.W.Frag} {I : List Addr} {F G H : Hp} {E : XK} {w : W} {o : MO} {u : HO} {Q : VK} (rel : Rel K I F G w H) (r : gD K I F o u) (p : aS K I F G E (RV K Q) (.ok (.ref w.length) (w ++ [o]))) : ∀ q, H q = none → Q (.ref q) (upd H q u) := fun q hq => by
 have hF : F q = none := by
  cases h : F q with
  | none => rfl
  | some u => rw [rel.fz _ _ h] at hq; cases hq
 have hI : q ∉ I := fun z => by
  obtain ⟨i, hi⟩ := List.mem_iff_getElem?.mp z
  have hl : i < w.length := by rw [← rel.len]; exact (ae.mp hi).1
  obtain ⟨u, h3, _⟩ := rel.ob i q _ hi (ar hl)
  rw [h3] at hq; cases hq
 have e : Ext I F (I ++ [q]) F := ⟨List.prefix_append _ _, fun _ _ h => h⟩
 refine p (I ++ [q]) F (upd H q u) e ⟨by simp [rel.len], ?_, fun i a o' h1 h2 => ?_, fun a u' h => ?_, fun i a o' h h0 hf => ?_, fun a u' h => ?_, fun a u' h => ?_, rel.gt⟩ _ ?_
 ·rw [List.nodup_append]
  exact ⟨rel.nd, by simp, fun a ha b hb => by simp at hb; subst hb; exact fun z => hI (z ▸ ha)⟩
 ·by_cases hi : i < I.length
  ·rw [aq hi] at h1
   rw [aq (by rw [← rel.len]; exact hi)] at h2
   obtain ⟨u', h3, h4⟩ := rel.ob i a o' h1 h2
   exact ⟨u', by rw [upd_ne (ne_of_none h3 hq)]; exact h3, gD.ext e h4⟩
  ·have hi2 : i = I.length := by
    have := (ae.mp h1).1
    simp at this; omega
   subst hi2
   rw [ay (az _)] at h1
   simp at h1
   rw [rel.len, ay (az _)] at h2
   simp at h2
   subst h1 h2
   exact ⟨u, upd_same, gD.ext e r⟩
 ·rw [upd_ne (ne_of_none h hF)]; exact rel.fz a u' h
 ·by_cases hi : i < I.length
  ·rw [aq hi] at h
   rw [aq (by rw [← rel.len]; exact hi)] at h0
   exact rel.ap i a o' h h0 hf
  ·have hi2 : i = I.length := by
    have := (ae.mp h).1
    simp at this; omega
   subst hi2
   rw [ay (az _)] at h
   simp at h
   subst h; exact hF
 ·rw [upd_ne (ne_of_none (rel.gz a u' h) hq)]; exact rel.gz a u' h
 ·refine ⟨(rel.gf a u' h).1, fun z => ?_⟩
  rcases List.mem_append.mp z with z | z
  ·exact (rel.gf a u' h).2 z
  ·simp at z; subst z; rw [rel.gz a u' h] at hq; cases hq
 ·simp only [aF]
  refine ⟨q, rfl, ?_⟩
  rw [← rel.len, ay (az _)]
  simp
section
variable {S : aV} {pos : Pos} {e : Expr} {es : List Expr} {m : ME} {ma : MA}
theorem aW : JA S [] aD := fun X E cx xo => tO pa_nil fun σ H Q ⟨I, F, G, ds, w, rel, rs, p⟩ => p I F H .refl rel [] (by simp [RepL])
theorem aI (he : JE S e m) (hr : JA S es ma) (hs : ∀ env : Env, starEach (e :: es) env = (false, eval e env) :: starEach es env := by intro _; rfl) : JA S (e :: es) (aA m ma) := fun X E cx xo =>
 tO (pa_cons (he X E cx xo) (hr X E cx xo) (hs X.env)) fun σ H Q ⟨I, F, G, ds, w, rel, rs, p⟩ =>
  a7 (f := fun ds x w1 => (ma ds w1).bind fun xs w2 => .ok (x :: xs) w2) rel rs p fun I1 F1 H1 x w1 v e1 rel1 rs1 rv p1 =>
   b5 (f := fun _ xs w2 => .ok (x :: xs) w2) rel1 rs1 p1 fun I2 F2 H2 xs w2 vs e2 rel2 rs2 rvs p2 => p2 I2 F2 H2 .refl rel2 _ (RepL.cons (aF.ext e2 _ _ rv) rvs)
theorem sM {k : Nat} (h : JA S es ma) : JE S (.Tuple es k pos) (a6 ma) := fun X E cx xo =>
 bP (pe_tup (h X E cx xo)) fun σ H Q ⟨I, F, G, ds, w, rel, rs, p⟩ =>
  b5 (f := fun _ xs w1 => if xs.length ≤ sizeLine then Res.ok (D.tup xs) w1 else .bad) rel rs p fun I1 F1 H1 xs w1 vs e1 rel1 rs1 rvs p1 => by
   split at p1
   ·rename_i hl
    exact ⟨by rw [← rvs.length]; exact hl, oI rel1 rvs p1⟩
   ·exact p1.elim
theorem jI (h : JA S es ma) : JE S (.List es pos) (iF ma) := fun X E cx xo =>
 bP (pe_lst (h X E cx xo)) fun σ H Q ⟨I, F, G, ds, w, rel, rs, p⟩ =>
  b5 (f := fun _ xs w1 => if xs.length ≤ sizeLine then Res.ok (D.lst xs) w1 else .bad) rel rs p fun I1 F1 H1 xs w1 vs e1 rel1 rs1 rvs p1 => by
   split at p1
   ·rename_i hl
    exact ⟨by rw [← rvs.length]; exact hl, fB rel1 rvs p1⟩
   ·exact p1.elim
theorem CM (h : JA S es ma) : JE S (.List es pos) (eNew ma) := fun X E cx xo =>
 bP (pe_lst (h X E cx xo)) fun σ H Q ⟨I, F, G, ds, w, rel, rs, p⟩ =>
  b5 (f := fun _ xs w1 => if xs.length ≤ sizeLine then Res.ok (D.ref w1.length) (w1 ++ [.lst xs]) else .bad) rel rs p fun I1 F1 H1 xs w1 vs e1 rel1 rs1 rvs p1 => by
   split at p1
   ·rename_i hl
    exact ⟨by rw [← rvs.length]; exact hl, t4 (o := .lst xs) rel1 ⟨vs, rfl, rvs⟩ p1⟩
   ·exact p1.elim
end
def aP : MS := fun σ w => .ok (.nx σ) w
def aG (a b : MS) : MS := fun σ w => (a σ w).bind fun f w1 => match f with
 | .nx σ1 => b σ1 w1
 | f => .ok f w1
def aT (e : ME) : MS := fun σ w => (e σ w).bind fun d w1 => .ok (.rt d) w1
def bH (e : ME) : MS := fun σ w => (e σ w).bind fun _ w1 => .ok (.nx σ) w1
def b6 (t : MT) (a b : MS) : MS := fun σ w => (t σ w).bind fun c w1 => if c = true then a σ w1 else b σ w1
abbrev MG := D → Sg → W → Res Sg
def aN (i : Nat) : MG := fun d σ w => .ok (σ.set i (some d)) w
def aK (e : ME) (g : MG) : MS := fun σ w => (e σ w).bind fun d w1 => (g d σ w1).bind fun σ2 w2 => .ok (.nx σ2) w2
def DQ : MS := fun _ _ => .bad
def HH (K : PySem.W.Frag) (Q : L2.St → Hp → Prop) : List Addr → Hp → Hp → Sg → W → Prop := fun I' F' H' s _ => ∀ s', cI K I' F' s s' → Q s' H'
def lowG (K : PySem.W.Frag) (E : XK) (g : MG) : TG := fun v σ H Q => ∃ I F G d ds w, Rel K I F G w H ∧ cI K I F ds σ ∧ aF K I F d v ∧ aS K I F G E (HH K Q) (g d ds w)
def JG (S : aV) (t : Expr) (g : MG) : Prop := ∀ X E, Ctx S X → hH X E → PG X t (lowG X.K E g)
theorem kH {X : Cx} {e : Expr} {t t' : TG} (h : PG X e t) (k : ∀ v σ H Q, t' v σ H Q → t v σ H Q) : PG X e t' := ⟨fun pins s σ H v u Q I r q => h.run pins s σ H v u Q I r (k v σ H Q q)⟩
section
variable {S : aV} {pos pos' : Pos} {e : Expr} {st : Stmt} {sts : List Stmt} {m : ME} {a b : MS} {g : MG} {t : MT}
theorem eX : oW S [] aP := fun X E cx xo => rA pss_nil fun Z σ H ⟨I, F, G, ds, w, rel, rs, p⟩ => p I F H .refl rel _ rs
theorem wC {K : PySem.W.Frag} {E : XK} {Z : Ends} {σ : L2.St} {H : Hp} (h : q8 K E (aG a b) Z σ H) : q8 K E a { Z with nx := q8 K E b Z } σ H := by
 obtain ⟨I, F, G, ds, w, rel, rs, p⟩ := h
 refine ⟨I, F, G, ds, w, rel, rs, (aS.bind p).mono fun I1 F1 H1 f w1 _ e1 rel1 p1 => ?_⟩
 cases f with
 | nx s => exact fun s' rs' => ⟨I1, F1, G, s, w1, rel1, rs', p1⟩
 | rt d => exact fun v rv => p1 I1 F1 H1 .refl rel1 v rv
 | bk s => exact fun s' rs' => p1 I1 F1 H1 .refl rel1 s' rs'
 | ct s => exact fun s' rs' => p1 I1 F1 H1 .refl rel1 s' rs'
theorem aY (h1 : JS S st a) (h2 : oW S sts b) : oW S (st :: sts) (aG a b) := fun X E cx xo =>
 rA (pss_cons (h1 X E cx xo) (h2 X E cx xo)) fun Z σ H h => wC h
theorem bI (h1 : JS S st a) : oW S [st] a := fun X E cx xo => pss_one (h1 X E cx xo)
theorem c0 (he : JE S e m) : JS S (.Return (some e) pos) (aT m) := fun X E cx xo =>
 fT (ps_ret (he X E cx xo)) fun Z σ H ⟨I, F, G, ds, w, rel, rs, p⟩ => a7 (f := fun _ d w1 => Res.ok (Fl.rt d) w1) rel rs p fun I1 F1 H1 x w1 v e1 rel1 rs1 rv p1 => p1 I1 F1 H1 .refl rel1 v rv
theorem z3 (he : JE S e m) (hs : ∀ env : Env, swapsWith e none pos.line env = pure false := by intro _; rfl) : JS S (.Expr e pos) (bH m) := fun X E cx xo =>
 fT (ps_expr (he X E cx xo) (hs X.env)) fun Z σ H ⟨I, F, G, ds, w, rel, rs, p⟩ => a7 (f := fun ds _ w1 => Res.ok (Fl.nx ds) w1) rel rs p fun I1 F1 H1 x w1 v e1 rel1 rs1 rv p1 => p1 I1 F1 H1 .refl rel1 σ rs1
theorem j1 {x : Expr} {sa sb : List Stmt} (ht : JT S x t) (ha : oW S sa a) (hb : oW S sb b) : JS S (.If x sa sb pos) (b6 t a b) := fun X E cx xo =>
 fT (ps_if (ht X E cx xo) (ha X E cx xo) (hb X E cx xo)) fun Z σ H ⟨I, F, G, ds, w, rel, rs, p⟩ => jM (f := fun ds c w1 => if c = true then a ds w1 else b ds w1) rel rs p fun I1 F1 H1 c w1 e1 rel1 rs1 p1 => by
  cases c with
  | true => exact ⟨I1, F1, G, ds, w1, rel1, rs1, p1⟩
  | false => exact ⟨I1, F1, G, ds, w1, rel1, rs1, p1⟩
def GJ (S : aV) (x : Str) : Prop := Loc S.sc x ∧ (S.fn x = true ∨ S.sc.names.lookup x = some .local)
theorem yP {i : Nat} {x : Str} (hi : S.N[i]? = some x) (hx : GJ S x) : JG S (.Name x pos) (aN i) := fun X E cx xo =>
 kH (pg_name (i := i) (x := x) cx.nd (by rw [cx.N]; exact hi) (by rw [cx.sc]; exact hx.1) (by rw [cx.sc]; exact hx.2.imp (cx.fn x) id)) fun v σ H Q ⟨I, F, G, d, ds, w, rel, rs, rv, p⟩ => p I F H .refl rel _ (rs.set i rv)
theorem zM {K : PySem.W.Frag} {E : XK} {Z : Ends} {σ : L2.St} {H : Hp} (h : q8 K E (aK m g) Z σ H) : mO K E m σ H fun v H1 => lowG K E g v σ H1 Z.nx := by
 obtain ⟨I, F, G, ds, w, rel, rs, p⟩ := h
 exact a7 (f := fun ds d w1 => (g d ds w1).bind fun σ2 w2 => Res.ok (Fl.nx σ2) w2) rel rs p fun I1 F1 H1 x w1 v e1 rel1 rs1 rv p1 =>
  ⟨I1, F1, G, x, ds, w1, rel1, rs1, rv, (aS.bind p1).mono fun I2 F2 H2 s w2 _ e2 rel2 p2 s' rs2 => p2 I2 F2 H2 .refl rel2 s' rs2⟩
theorem BQ {i : Nat} {x : Str} (hi : S.N[i]? = some x) (hx : GJ S x) (he : JE S e m) (hs : ∀ env : Env, swapsWith e (some (.Name x pos')) pos.line env = pure false := by intro _; rfl) : JS S (.Assign [.Name x pos'] e pos) (aK m (aN i)) := fun X E cx xo =>
 fT (ps_set (i := i) (x := x) cx.nd (by rw [cx.N]; exact hi) (by rw [cx.sc]; exact hx.1) (he X E cx xo) (hs X.env) (by rw [cx.sc]; exact hx.2.imp (cx.fn x) id)) fun Z σ H ⟨I, F, G, ds, w, rel, rs, p⟩ =>
  a7 (f := fun ds d w1 => (aN i d ds w1).bind fun σ2 w2 => Res.ok (Fl.nx σ2) w2) rel rs p fun I1 F1 H1 x w1 v e1 rel1 rs1 rv p1 => p1 I1 F1 H1 .refl rel1 _ (rs1.set i rv)
theorem r8 {tg : Expr} (he : JE S e m) (hg : JG S tg g) (hs : ∀ env : Env, swapsWithSole [tg] e pos.line env = pure false := by intro _; rfl) (hw : ∀ env : Env, swappedStores [tg] e env = pure none := by intro _; rfl)
  (h1 : ∀ env : Env, (assignEach [tg] env).map (·.2) = [assign tg env] := by intro _; rfl) : JS S (.Assign [tg] e pos) (aK m g) := fun X E cx xo =>
 fT (ps_asg (he X E cx xo) (hg X E cx xo) (hs X.env) (hw X.env) (h1 X.env)) fun Z σ H h => zM h
end
abbrev vZ := List D → Sg → W → Res Sg
def a5 : vZ := fun ds σ w => match ds with
 | [] => .ok σ w
 | _ => .bad
def aE (g : MG) (r : vZ) : vZ := fun ds σ w => match ds with
 | d :: ds => (g d σ w).bind fun σ1 w1 => r ds σ1 w1
 | [] => .bad
def a9 (n : Nat) (r : vZ) : MG := fun d σ w => match d with
 | .tup xs => if xs.length = n then r xs σ w else .bad
 | .i4 xs => if xs.length = n then r xs σ w else .bad
 | _ => .bad
def EN (K : PySem.W.Frag) (E : XK) (g : vZ) : TGs := fun vs σ H Q => ∃ I F G xs ds w, Rel K I F G w H ∧ cI K I F ds σ ∧ RepL K I F xs vs ∧ aS K I F G E (HH K Q) (g xs ds w)
def FY (S : aV) (ts : List Expr) (g : vZ) : Prop := ∀ X E, Ctx S X → hH X E → PGs X ts (EN X.K E g)
theorem pR {X : Cx} {e : List Expr} {t t' : TGs} (h : PGs X e t) (k : ∀ v σ H Q, t' v σ H Q → t v σ H Q) : PGs X e t' := ⟨fun pins s σ H v u Q I r q => h.run pins s σ H v u Q I r (k v σ H Q q)⟩
section
variable {S : aV} {pos pos' : Pos} {e : Expr} {es : List Expr} {g : MG} {r : vZ}
theorem tJ : FY S [] a5 := fun X E cx xo => pR pgs_nil fun vs σ H Q ⟨I, F, G, xs, ds, w, rel, rs, rv, p⟩ => by
 cases xs with
 | nil =>
  simp only [RepL] at rv
  exact ⟨rv, p I F H .refl rel _ rs⟩
 | cons => exact p.elim
theorem jC (h1 : JG S e g) (h2 : FY S es r) (hs : ∀ env : Env, (assignEach (e :: es) env).map (·.2) = assign e env :: (assignEach es env).map (·.2) := by intro _; rfl) : FY S (e :: es) (aE g r) := fun X E cx xo =>
 pR (pgs_cons (h1 X E cx xo) (h2 X E cx xo) (hs X.env)) fun vs σ H Q ⟨I, F, G, xs, ds, w, rel, rs, rv, p⟩ => by
  cases xs with
  | nil => exact p.elim
  | cons x xs =>
   simp only [RepL] at rv
   obtain ⟨v, t, rfl, rv1, rvs⟩ := rv
   exact ⟨v, t, rfl, I, F, G, x, ds, w, rel, rs, rv1, (aS.bind p).mono fun I1 F1 H1 s w1 _ e1 rel1 p1 s' rs1 => ⟨I1, F1, G, xs, s, w1, rel1, rs1, RepL.ext e1 _ _ rvs, p1⟩⟩
theorem vP {k n : Nat} (h : FY S es r) (hn : ∀ env : Env, (assignEach es env).length = n := by intro _; rfl) (hst : ∀ env : Env, (assignEach es env).findIdx? (·.1) = none := by intro _; rfl) : JG S (.Tuple es k pos) (a9 n r) := fun X E cx xo =>
 kH (pg_tup cx.calm (h X E cx xo) (hn X.env) (hst X.env)) fun v σ H Q ⟨I, F, G, d, ds, w, rel, rs, rv, p⟩ => by
  cases d <;> first | exact p.elim | skip
  all_goals
   rename_i xs
   simp only [aF] at rv
   obtain ⟨a, vs, rfl, h1, h2⟩ := rv
   simp only [a9] at p
   split at p
   ·rename_i hl
    exact ⟨a, vs, rfl, (by first | exact .of (rel.fz _ _ h1) | exact rel.y5 h1), by rw [← h2.length]; exact hl, I, F, G, xs, ds, w, rel, rs, h2, p⟩
   ·exact p.elim
end
mutual
def D.cl (n : Nat) : D → Bool
 | .tup xs => D.cls n xs
 | .lst xs => D.cls n xs
 | .fM xs => D.cls n xs
 | .i4 xs => D.cls n xs
 | .uA ks xs => D.cls n ks && D.cls n xs
 | .ref i => decide (i < n)
 | .non => true
 | .bl _ => true
 | .int _ => true
 | .str _ => true
 | .ty _ => true
 | .con _ => true
def D.cls (n : Nat) : List D → Bool
 | [] => true
 | d :: ds => D.cl n d && D.cls n ds
end
def MO.cl (n : Nat) : MO → Bool
 | .lst xs => D.cls n xs
 | .dK kvs => D.cls n (kvs.map (·.2))
 | .dT kvs => D.cls n (kvs.map (·.2))
 | .dF kvs => D.cls n (kvs.map (·.2))
 | .dG kvs => D.cls n (kvs.map (·.2))
 | .ins _ fs => D.cls n (fs.map (·.2))
section
variable {K : PySem.W.Frag} {I : List Addr} {F : Hp} {n : Nat}
theorem vL {n i : Nat} {a : Addr} (h : I[i]? = some a) (hi : i < n) : (I.take n)[i]? = some a := by
 rw [List.getElem?_take_of_lt hi]; exact h
mutual
theorem aF.cut : ∀ (d : D) (v : V), aF K I F d v → d.cl n = true → aF K (I.take n) F d v
 | .non, _, h, _ => by simpa only [aF] using h
 | .bl _, _, h, _ => by simpa only [aF] using h
 | .int _, _, h, _ => by simpa only [aF] using h
 | .str _, _, h, _ => by simpa only [aF] using h
 | .ty _, _, h, _ => by simpa only [aF] using h
 | .con _, _, h, _ => by simpa only [aF] using h
 | .tup xs, v, h, c => by
  simp only [aF, D.cl] at h c ⊢
  obtain ⟨a, vs, h1, h2, h3⟩ := h
  exact ⟨a, vs, h1, h2, RepL.cut xs vs h3 c⟩
 | .lst xs, v, h, c => by
  simp only [aF, D.cl] at h c ⊢
  obtain ⟨a, vs, h1, h2, h3⟩ := h
  exact ⟨a, vs, h1, h2, RepL.cut xs vs h3 c⟩
 | .fM xs, v, h, c => by
  simp only [aF, D.cl] at h c ⊢
  obtain ⟨a, vs, h1, h2, h3⟩ := h
  exact ⟨a, vs, h1, h2, RepL.cut xs vs h3 c⟩
 | .i4 xs, v, h, c => by
  simp only [aF, D.cl] at h c ⊢
  obtain ⟨a, vs, h1, h2, h3⟩ := h
  exact ⟨a, vs, h1, h2, RepL.cut xs vs h3 c⟩
 | .uA ks xs, v, h, c => by
  simp only [aF, D.cl, af] at h c ⊢
  obtain ⟨a, kvs, h1, h2, h3, h4⟩ := h
  exact ⟨a, kvs, h1, h2, RepL.cut ks _ h3 c.1, RepL.cut xs _ h4 c.2⟩
 | .ref i, v, h, c => by
  simp only [aF, D.cl, ak] at h c ⊢
  obtain ⟨a, h1, h2⟩ := h
  exact ⟨a, h1, vL h2 c⟩
theorem RepL.cut : ∀ (ds : List D) (vs : List V), RepL K I F ds vs → D.cls n ds = true → RepL K (I.take n) F ds vs
 | [], _, h, _ => by simpa only [RepL] using h
 | d :: ds, vs, h, c => by
  simp only [RepL, D.cls, af] at h c ⊢
  obtain ⟨v, r, h1, h2, h3⟩ := h
  exact ⟨v, r, h1, aF.cut d v h2 c.1, RepL.cut ds r h3 c.2⟩
end
theorem aJ.cut {κ : Type} : ∀ (ds : List (κ × D)) (vs : List (κ × V)), aJ K I F ds vs → D.cls n (ds.map (·.2)) = true → aJ K (I.take n) F ds vs
 | [], _, h, _ => by simpa only [aJ] using h
 | (k, d) :: ds, vs, h, c => by
  simp only [aJ, List.map_cons, D.cls, af] at h c ⊢
  obtain ⟨v, r, h1, h2, h3⟩ := h
  exact ⟨v, r, h1, aF.cut d v h2 c.1, aJ.cut ds r h3 c.2⟩
theorem gD.cut {o : MO} {u : HO} (h : gD K I F o u) (c : o.cl n = true) : gD K (I.take n) F o u := by
 cases o with
 | lst xs => obtain ⟨vs, h1, h2⟩ := h; exact ⟨vs, h1, RepL.cut _ _ h2 c⟩
 | dK xs => obtain ⟨vs, h1, h2⟩ := h; exact ⟨vs, h1, aJ.cut _ _ h2 c⟩
 | dT xs => obtain ⟨vs, h1, h2⟩ := h; exact ⟨vs, h1, aJ.cut _ _ h2 c⟩
 | dF xs => obtain ⟨o, vs, h1, h2⟩ := h; exact ⟨o, vs, h1, aJ.cut _ _ h2 c⟩
 | dG xs => obtain ⟨o, vs, h1, h2⟩ := h; exact ⟨o, vs, h1, aJ.cut _ _ h2 c⟩
 | ins C xs => obtain ⟨dx, vs, h1, h2⟩ := h; exact ⟨dx, vs, h1, aJ.cut _ _ h2 c⟩
mutual
theorem aF.cl : ∀ (d : D) (v : V), aF K I F d v → I.length ≤ n → d.cl n = true
 | .non, _, _, _ => by simp [D.cl]
 | .bl _, _, _, _ => by simp [D.cl]
 | .int _, _, _, _ => by simp [D.cl]
 | .str _, _, _, _ => by simp [D.cl]
 | .ty _, _, _, _ => by simp [D.cl]
 | .con _, _, _, _ => by simp [D.cl]
 | .tup xs, v, h, l => by
  simp only [aF, D.cl] at h ⊢
  obtain ⟨a, vs, h1, h2, h3⟩ := h
  exact RepL.cl xs vs h3 l
 | .lst xs, v, h, l => by
  simp only [aF, D.cl] at h ⊢
  obtain ⟨a, vs, h1, h2, h3⟩ := h
  exact RepL.cl xs vs h3 l
 | .fM xs, v, h, l => by
  simp only [aF, D.cl] at h ⊢
  obtain ⟨a, vs, h1, h2, h3⟩ := h
  exact RepL.cl xs vs h3 l
 | .i4 xs, v, h, l => by
  simp only [aF, D.cl] at h ⊢
  obtain ⟨a, vs, h1, h2, h3⟩ := h
  exact RepL.cl xs vs h3 l
 | .uA ks xs, v, h, l => by
  simp only [aF, D.cl, af] at h ⊢
  obtain ⟨a, kvs, h1, h2, h3, h4⟩ := h
  exact ⟨RepL.cl ks _ h3 l, RepL.cl xs _ h4 l⟩
 | .ref i, v, h, l => by
  simp only [aF, D.cl, ak] at h ⊢
  obtain ⟨a, h1, h2⟩ := h
  have := (ae.mp h2).1
  omega
theorem RepL.cl : ∀ (ds : List D) (vs : List V), RepL K I F ds vs → I.length ≤ n → D.cls n ds = true
 | [], _, _, _ => by simp [D.cls]
 | d :: ds, vs, h, l => by
  simp only [RepL, D.cls, af] at h ⊢
  obtain ⟨v, r, h1, h2, h3⟩ := h
  exact ⟨aF.cl d v h2 l, RepL.cl ds r h3 l⟩
end
theorem aJ.cl {κ : Type} : ∀ (ds : List (κ × D)) (vs : List (κ × V)), aJ K I F ds vs → I.length ≤ n → D.cls n (ds.map (·.2)) = true
 | [], _, _, _ => by simp [D.cls]
 | (k, d) :: ds, vs, h, l => by
  simp only [aJ, List.map_cons, D.cls, af] at h ⊢
  obtain ⟨v, r, h1, h2, h3⟩ := h
  exact ⟨aF.cl d v h2 l, aJ.cl ds r h3 l⟩
theorem gD.cl {o : MO} {u : HO} (h : gD K I F o u) (l : I.length ≤ n) : o.cl n = true := by
 cases o with
 | lst xs => obtain ⟨vs, h1, h2⟩ := h; exact RepL.cl _ _ h2 l
 | dK xs => obtain ⟨vs, h1, h2⟩ := h; exact aJ.cl _ _ h2 l
 | dT xs => obtain ⟨vs, h1, h2⟩ := h; exact aJ.cl _ _ h2 l
 | dF xs => obtain ⟨o, vs, h1, h2⟩ := h; exact aJ.cl _ _ h2 l
 | dG xs => obtain ⟨o, vs, h1, h2⟩ := h; exact aJ.cl _ _ h2 l
 | ins C xs => obtain ⟨dx, vs, h1, h2⟩ := h; exact aJ.cl _ _ h2 l
end
def CS (w0 w : W) : Prop := w0.length ≤ w.length ∧ ∀ (i : Nat) (o : MO), w[i]? = some o → w0[i]? = some o ∨ o.cl w.length = true
def XD.cl (n : Nat) (x : XD) : Bool := match x.fs with
 | none => true
 | some fs => D.cls n (fs.map (·.2))
def Fits (w0 : W) (r r' : Res D) : Prop := match r with
 | .bad => True
 | .ok d w => ∃ g, r' = .ok d (w ++ g) ∧ (g = [] ∨ (d.cl w.length = true ∧ CS w0 w))
 | .pM x w => ∃ g, r' = .pM x (w ++ g) ∧ (g = [] ∨ (x.cl w.length = true ∧ CS w0 w))
theorem Fits.nW {w0 : W} {r : Res D} : Fits w0 r r := by
 cases r with
 | ok d w => exact ⟨[], by simp, .inl rfl⟩
 | pM x w => exact ⟨[], by simp, .inl rfl⟩
 | bad => trivial
theorem Fits.of_eq {w0 : W} {r r' : Res D} (h : r' = r) : Fits w0 r r' := h ▸ Fits.nW
theorem tF {K : PySem.W.Frag} {I I' : List Addr} {F F' G H H' : Hp} {w0 w g : W} (rel0 : Rel K I F G w0 H) (e : Ext I F I' F') (rel : Rel K I' F' G (w ++ g) H') (s : CS w0 w) : Ext I F (I'.take w.length) F' ∧ Rel K (I'.take w.length) F' G w H' := by
 have hl : I'.length = w.length + g.length := by rw [rel.len, List.length_append]
 have e2 : Ext I F (I'.take w.length) F' := ⟨by
  obtain ⟨t, rfl⟩ := e.i
  rw [List.take_append, List.take_of_length_le (by rw [rel0.len]; exact s.1)]
  exact List.prefix_append _ _, e.f⟩
 refine ⟨e2, ⟨by simp [hl], rel.nd.sublist (List.take_sublist _ _), fun i a o h1 h2 => ?_, rel.fz, fun i a o h h0 hf => rel.ap i a o (List.getElem?_take_of_lt (ae.mp h0).1 ▸ h) (by rw [aq (ae.mp h0).1]; exact h0) hf, rel.gz, fun a u h => ⟨(rel.gf a u h).1, fun z => (rel.gf a u h).2 (List.mem_of_mem_take z)⟩, rel.gt⟩⟩
 have hi : i < w.length := (ae.mp h2).1
 rw [List.getElem?_take_of_lt hi] at h1
 obtain ⟨u, h3, h4⟩ := rel.ob i a o h1 (by rw [aq hi]; exact h2)
 refine ⟨u, h3, ?_⟩
 rcases s.2 i o h2 with q | q
 ·refine gD.cut h4 ?_
  have hi0 : i < w0.length := (ae.mp q).1
  obtain ⟨u0, _, h6⟩ := rel0.ob i _ o (ar (by rw [rel0.len]; exact hi0)) q
  exact h6.cl (by rw [rel0.len]; exact s.1)
 ·exact gD.cut h4 q
theorem kO.cut {K : PySem.W.Frag} {I : List Addr} {F H : Hp} {x : XD} {c : Value} {d : Option Addr} {n : Nat} (h : kO K (I.take n) F H x c d) (hn : n ≤ I.length) : kO K I F H x c d := by
 have e : Ext (I.take n) F I F := ⟨List.take_prefix _ _, fun _ _ h => h⟩
 obtain ⟨h1, h2⟩ := h
 refine ⟨h1, ?_⟩
 cases hf : x.fs with
 | none => rw [hf] at h2; exact h2
 | some fs =>
  rw [hf] at h2
  obtain ⟨a, r, q1, q2, q3⟩ := h2
  exact ⟨a, r, q1, q2, aJ.ext e _ _ q3⟩
theorem kO.GN {K : PySem.W.Frag} {I : List Addr} {F H : Hp} {x : XD} {c : Value} {d : Option Addr} {n : Nat} (h : kO K I F H x c d) (hx : x.cl n = true) : kO K (I.take n) F H x c d := by
 obtain ⟨h1, h2⟩ := h
 refine ⟨h1, ?_⟩
 unfold XD.cl at hx
 cases hf : x.fs with
 | none => rw [hf] at h2; exact h2
 | some fs =>
  rw [hf] at h2 hx
  obtain ⟨a, r, q1, q2, q3⟩ := h2
  exact ⟨a, r, q1, q2, aJ.cut _ _ q3 hx⟩
theorem aS.fits {K : PySem.W.Frag} {I : List Addr} {F G H : Hp} {E : XK} {Q : VK} {w0 : W} {r r' : Res D} (rel0 : Rel K I F G w0 H) (p : aS K I F G E (RV K Q) r) (f : Fits w0 r r') : aS K I F G E (RV K Q) r' := by
 cases r with
 | bad => exact p.elim
 | ok d w =>
  obtain ⟨g, rfl, hg⟩ := f
  rcases hg with rfl | ⟨hd, hs⟩
  ·rw [List.append_nil]; exact p
  ·intro I' F' H' e rel v rv
   obtain ⟨e2, rel2⟩ := tF rel0 e rel hs
   exact p _ F' H' e2 rel2 v (aF.cut d v rv hd)
 | pM x w =>
  obtain ⟨g, rfl, hg⟩ := f
  rcases hg with rfl | ⟨hd, hs⟩
  ·rw [List.append_nil]; exact p
  ·intro I' F' H' c d e rel rx
   obtain ⟨e2, rel2⟩ := tF rel0 e rel hs
   exact p _ F' H' c d e2 rel2 (kO.GN rx hd)
abbrev MF := List D → W → Res D
def HI (K : PySem.W.Frag) (m : MF) : Sp := fun vs H Q E => ∃ I F G ds w, Rel K I F G w H ∧ RepL K I F ds vs ∧ aS K I F G E (RV K Q) (m ds w)
structure h8 (P : Program) (w : World) (K : PySem.W.Frag) (mg : Str → Option Value) (base : Heap) (k : Nat) (f : Addr) (fd : FuncData) (ps : List Str) (m : MF) : Prop where
 run : ∀ (A : Around) (outer : List Env) (s : Shared) (H : Hp) (args : Args) (us : List Value) (vs : List V) (Q : VK) (E : XK), Room k A → A.guards = some [] → Env0 P w K mg base A outer s H → BindsTo s fd args (ps.zip us) → Vals vs us →
  vs.length = ps.length → HI K m vs H Q E → codeAny (model P w) A (.call (.ref f) args) (CR (L2.CX P w) outer P w H s Q E) s
theorem h8.mono {P : Program} {w : World} {K : PySem.W.Frag} {mg : Str → Option Value} {base : Heap} {j k : Nat} {f : Addr} {fd : FuncData} {ps : List Str} {m : MF} (G : h8 P w K mg base j f fd ps m) (h : j ≤ k) : h8 P w K mg base k f fd ps m :=
 ⟨fun A outer s H args us vs Q E hr => G.run A outer s H args us vs Q E (hr.mono h)⟩
def begin (N : List Str) (ds : List D) : Sg := ds.map some ++ List.replicate (N.length - ds.length) none
def aZ (mb : MS) (N : List Str) (ds : List D) (w : W) : Res D := (mb (begin N ds) w).bind fun f w1 => match f with
 | .nx _ => .ok .non w1
 | .rt d => .ok d w1
 | _ => .bad
theorem RepL.CH {K : PySem.W.Frag} {I : List Addr} {F : Hp} {ds : List D} {vs : List V} (r : RepL K I F ds vs) (N : List Str) : cI K I F (begin N ds) (L2.start N vs) := by
 unfold begin L2.start
 refine ⟨by simp [r.length], fun i d h => ?_⟩
 by_cases hi : i < ds.length
 ·rw [aq (by simpa using hi), bb] at h
  cases q : ds[i]? with
  | none => rw [q] at h; cases h
  | some x =>
   rw [q] at h; cases h
   obtain ⟨v, h1, h2⟩ := r.get q
   exact ⟨v, by rw [aq (by simpa [← r.length] using hi), bb, h1]; rfl, h2⟩
 ·rw [ay (by simpa using hi), List.getElem?_replicate] at h
  split at h <;> cases h
abbrev aV.body (S : aV) (k : Nat) (N : List Str) (sc : Scope) : aV := { S with k := k, N := N, sc := sc, fn := fun _ => true }
theorem h8.of {S : aV} {x qual : Str} {params : Arguments} {body : List Stmt} {scope : Scope} {dvs : List V} {kws : List (Str × V)} {f : Addr} {fd : FuncData} {N ps : List Str} {k : Nat} {mb : MS} {m : MF}
  (F : FunD S.K x qual params body scope dvs kws f fd) (Sc : FnScope N ps scope) (hb : oW (S.body k N scope) body mb) (hm : ∀ ds w, ds.length = ps.length → Fits w (m ds w) (aZ mb N ds w)) : h8 S.P S.w S.K S.mg S.base (k + 1) f fd ps m := by
 refine ⟨fun A outer s H args us vs Q E hr hg e0 hbt r hl hsp => ?_⟩
 obtain ⟨oc, od, dV, kV, doc, pm, an, cdv, ct, osl, rfl, lk, hcd, _, _⟩ := F.ex
 have KX : S.K.In s.heap := e0.mod.kin.keeps fun b o e => (e0.bs b o e).1
 have lim : s.heap.NoLimit := e0.mod.nolimit.keeps fun b o e => (e0.bs b o e).1
 have kinds : ∀ y ∈ ps.zip us, scope.names.lookup y.1 = some .local ∨ (scope.names.lookup y.1 = some .cell ∧ ((cellsFrom (s.heap.objs.size + 1) scope.names []).lookup y.1).isSome = true) := by
  rintro ⟨n, v⟩ hy
  have hn : n ∈ ps := (List.of_mem_zip hy).1
  rcases Sc.par n hn with q | q
  ·exact Or.inl q
  ·exact Or.inr ⟨q, PySem.W.cellsFrom_some _ _ _ (.inl q)⟩
 refine codeAny_call_function hr.depth (KX _ _ lk) rfl Sc.co Sc.gen rfl (PySem.W.codeRec_of KX hcd) (hbt _ _ _ _ ?_)
 refine wpAny_newFunctionEnv_cells Sc.kind kinds fun env he s1 y => ?_
 subst he
 refine ⟨lim.keeps y.toInCall.keep, codeAny_func ?_⟩
 obtain ⟨I, F0, G, ds, w, rel, rl, p⟩ := hsp
 have J : Inv (cxOf (L2.CX S.P S.w) S.P S.w S.K S.mg S.base N qual scope f cdv A outer s H E) [] (start N vs) H s1 := inv_start Sc hr.hd e0 hl r y
 have cx : Ctx (S.body k N scope) (cxOf (L2.CX S.P S.w) S.P S.w S.K S.mg S.base N qual scope f cdv A outer s H E) := ⟨rfl, rfl, rfl, rfl, rfl, rfl, rfl, fun _ _ => rfl, rfl, hr.deeper _, hg, Sc.nd⟩
 have xo : hH (cxOf (L2.CX S.P S.w) S.P S.w S.K S.mg S.base N qual scope f cdv A outer s H E) E := ⟨takes_of rfl rfl rfl rfl, passes_of rfl⟩
 have p' : aS S.K I F0 G E (RV S.K Q) (aZ mb N ds w) := p.fits rel (hm ds w (by rw [rl.length]; exact hl))
 have go := (hb _ E cx xo).run [] s1 (start N vs) H { nx := fun _ H' => Q .non H', rt := Q } J ⟨I, F0, G, begin N ds, w, rel, rl.CH N, (aS.bind p').mono fun I1 F1 H1 fl w1 _ e1 rel1 p1 => ?_⟩
 ·refine wpAny_mono go (fun fl s' hs => ?_) fun e s' hs => hs
  cases fl with
  | ret u =>
   obtain ⟨v, σ', H', J', rv, q⟩ := hs
   exact ⟨v, H', J'.os, J'.bare, J'.base, J'.hok, rv, q⟩
  | next =>
   obtain ⟨σ', H', J', q⟩ := hs
   exact ⟨V.non, H', J'.os, J'.bare, J'.base, J'.hok, rfl, q⟩
  | brk =>
   obtain ⟨_, _, _, q⟩ := hs
   exact q.elim
  | cont =>
   obtain ⟨_, _, _, q⟩ := hs
   exact q.elim
 ·cases fl with
  | nx z => exact fun s' _ => p1.nR rel1 (by simp [aF])
  | rt d => exact fun v rv => p1.nR rel1 rv
  | bk z => exact p1.elim
  | ct z => exact p1.elim
structure dY (K : PySem.W.Frag) (fd : FuncData) (ps : List Str) (n : Nat) (ks : List Str) (gd : List D → List D → List D) : Prop where
 ex : ∃ (g : List Value → List Value → List Value) (gV : List V → List V → List V), KBn K fd ps n ks g gV ∧
  ∀ I F xs vs zs us, RepL K I F xs vs → RepL K I F zs us → RepL K I F (gd xs zs) (gV vs us)
 len : ∀ xs zs, xs.length = n → zs.length = ks.length → (gd xs zs).length = ps.length
def aH (m : MF) (n : Nat) (gd : List D → List D → List D) (ma : MA) : ME := fun σ w => (ma σ w).bind fun xs w1 => if xs.length = n then m (gd xs []) w1 else .bad
def jL (m : MF) (n j : Nat) (gd : List D → List D → List D) (ma mk : MA) : ME := fun σ w => (ma σ w).bind fun xs w1 => (mk σ w1).bind fun zs w2 => if xs.length = n ∧ zs.length = j then m (gd xs zs) w2 else .bad
def JK (S : aV) (kws : List Keyword) (m : MA) : Prop := ∀ X E, Ctx S X → hH X E → PK X kws (zE X.K E m)
theorem AI {X : Cx} {pins : List (Addr × Obj)} {σ : L2.St} {H : Hp} {s : Shared} {Q : VK} {E : XK} {k : Nat} {f : Addr} {fd : FuncData} {ps ks : List Str} {m : MF} {n : Nat} {gd : List D → List D → List D} {I : List Addr} {F G : Hp} {xs zs : List D} {w : W} {us ws : List Value} {vs ys : List V}
  (xo : hH X E) (Gf : h8 X.prog X.w X.K X.mg X.base k f fd ps m) (B : dY X.K fd ps n ks gd) (hr : Room k X.A) (hg : X.A.guards = some []) (J : Inv X pins σ H s) (rel : Rel X.K I F G w H) (rx : RepL X.K I F xs vs) (rz : RepL X.K I F zs ys)
  (r : Vals vs us) (q : Vals ys ws) (h1 : xs.length = n) (h2 : zs.length = ks.length) (p : aS X.K I F G E (RV X.K Q) (m (gd xs zs) w)) : wpAny (model X.prog X.w) X.A (call (.ref f) us (ks.zip ws)) (EP X pins σ Q) X.xe s := by
 obtain ⟨g, gV, kb, rep⟩ := B.ex
 have r2 := kb.rel r q
 have r3 := rep I F xs vs zs ys rx rz
 have hl : (gV vs ys).length = ps.length := by rw [← r3.length]; exact B.len xs zs h1 h2
 refine wpAny_call (codeAny_mono (Gf.run X.A X.stack s H ⟨us, ks.zip ws⟩ (g us ws) (gV vs ys) Q E hr hg J.env0 (kb.to s us ws J.kIn (by rw [← r.length, ← rx.length]; exact h1) (by rw [← q.length, ← rz.length]; exact h2)) r2 hl ⟨I, F, G, _, w, rel, r3, p⟩) fun fl s' hq => ?_)
 cases fl with
 | error e => exact passes_call xo.tk (fun _ _ _ _ h => h) pins σ H s e s' J hq
 | ok fl =>
  cases fl with
  | ret u => exact J.after hq
  | next => exact hq.elim
  | brk => exact hq.elim
  | cont => exact hq.elim
section
variable {S : aV} {k n : Nat} {f : Addr} {fd : FuncData} {ps ks : List Str} {m : MF} {gd : List D → List D → List D} {x : Str} {p pos kpos : Pos} {e : Expr} {es : List Expr} {kws : List Keyword} {ma mk : MA} {me : ME} {nm : Option Str}
theorem DL : JK S [] aD := fun X E cx xo => ⟨fun pos pins s σ H Q J ⟨I, F, G, ds, w, rel, rs, p⟩ => pk_nil.run pos pins s σ H Q J (p I F H .refl rel [] (by simp [RepL]))⟩
theorem tE (he : JE S e me) (hr : JK S kws mk) : JK S (⟨nm, e, kpos⟩ :: kws) (aA me mk) := fun X E cx xo =>
 ⟨fun pos pins s σ H Q J ⟨I, F, G, ds, w, rel, rs, p⟩ => (pk_cons (he X E cx xo) (hr X E cx xo)).run pos pins s σ H Q J
  (a7 (f := fun ds x w1 => (mk ds w1).bind fun xs w2 => Res.ok (x :: xs) w2) rel rs p fun I1 F1 H1 x w1 v e1 rel1 rs1 rv p1 =>
   b5 (f := fun _ xs w2 => Res.ok (x :: xs) w2) rel1 rs1 p1 fun I2 F2 H2 xs w2 vs e2 rel2 rs2 rvs p2 => p2 I2 F2 H2 .refl rel2 _ (RepL.cons (aF.ext e2 _ _ rv) rvs))⟩
theorem bQ (hk : k ≤ S.k) (Gf : h8 S.P S.w S.K S.mg S.base k f fd ps m) (B : dY S.K fd ps n [] gd) (hg : S.sc.names.lookup x = some .globalImplicit) (hm : S.mg x = some (.ref f)) (kp : PySem.W.keepIn S.K (.ref f) = true) (ha : JA S (e :: es) ma)
  (hdb : (x == ("__debug__" : Str)) = false := by decide) (he : ∀ env : Env, starEach (e :: es) env = (false, eval e env) :: starEach es env := by intro _; rfl) (hpl : ∀ env : Env, (backTo pos (starEach es env)).any (·.1) = false := by intro _; rfl) :
  JE S (.Call (.Name x p) (e :: es) [] pos) (aH m n gd ma) := fun X E cx xo => by
 refine ⟨fun pins s σ H Q J ⟨I, F, G, ds, w, rel, rs, p⟩ => ?_⟩
 refine wpAny_Call_Name_kw (ld_glob J (by show X.env.scope.names.lookup x = _; rw [cx.sc]; exact hg) (by rw [cx.mg]; exact hm) ?_ hdb)
 refine PySem.W.callWith_K (h₀ := X.base) J.ok.mod.kin (by rw [cx.K]; exact kp) (thn ((ha X E cx xo).run pos pins s σ H _ J (b5 (f := fun _ xs w1 => if xs.length = n then m (gd xs []) w1 else .bad) (Q := fun vs H1 => ∃ I1 F1 xs w1, Rel X.K I1 F1 G w1 H1 ∧ RepL X.K I1 F1 xs vs ∧ xs.length = n ∧ aS X.K I1 F1 G E (RV X.K Q) (m (gd xs []) w1)) rel rs p fun I1 F1 H1 xs w1 vs e1 rel1 rs1 rvs p1 => ?_)) fun us s1 hq => ?_) (he X.env) (hpl X.env)
 ·split at p1
  ·rename_i hl
   exact ⟨I1, F1, xs, w1, rel1, rvs, hl, p1⟩
  ·exact p1.elim
 ·obtain ⟨vs, H1, J1, r, I1, F1, xs, w1, rel1, rvs, hl, p1⟩ := hq
  refine ⟨J1.kIn, ?_⟩
  have Gf' : h8 X.prog X.w X.K X.mg X.base k f fd ps m := by rw [cx.P, cx.w, cx.K, cx.mg, cx.base]; exact Gf
  have B' : dY X.K fd ps n [] gd := by rw [cx.K]; exact B
  exact AI (ks := []) (ws := []) (zs := []) (ys := []) xo Gf' B' (cx.room.mono hk) cx.F9 J1 rel1 rvs (by simp [RepL]) r .nil hl rfl p1
end
theorem dN {K : PySem.W.Frag} {x qual : Str} {params : Arguments} {body : List Stmt} {scope : Scope} {kws : List (Str × V)} {f : Addr} {fd : FuncData} {ps : List Str} (F : FunD K x qual params body scope [] kws f fd)
  (h : ∀ (kV doc pm : Value) (an : Option Addr) (cdv ct : Value) (us : List Value), us.length = ps.length → bindArgs (PySem.W.fnOf x qual params body scope .none kV doc pm an cdv ct) ⟨us, []⟩ = pure (ps.zip us)) : dY K fd ps ps.length [] fun xs _ => xs := by
 refine ⟨⟨fun us _ => us, fun vs _ => vs, ⟨fun s us ws KX h1 h2 => ?_, fun r _ => r⟩, fun _ _ _ _ _ _ r _ => r⟩, fun xs zs h1 _ => h1⟩
 have e : ws = [] := List.eq_nil_of_length_eq_zero (by simpa using h2)
 subst e
 exact F.bindsA h s us h1
theorem vW {K : PySem.W.Frag} {x qual : Str} {params : Arguments} {body : List Stmt} {scope : Scope} {kws : List (Str × V)} {f : Addr} {fd : FuncData} {ps : List Str} (F : FunD K x qual params body scope [] kws f fd) (n : Nat) (ks : List Str) (g : {α : Type} → List α → List α → List α)
  (h : ∀ (kV doc pm : Value) (an : Option Addr) (cdv ct : Value) (us ws : List Value), us.length = n → ws.length = ks.length → bindArgs (PySem.W.fnOf x qual params body scope .none kV doc pm an cdv ct) ⟨us, ks.zip ws⟩ = pure (ps.zip (g us ws)))
  (hrel : ∀ {vs zs : List V} {us ws : List Value}, Vals vs us → Vals zs ws → Vals (g vs zs) (g us ws)) (hrep : ∀ I F' xs vs zs us, RepL K I F' xs vs → RepL K I F' zs us → RepL K I F' (g xs zs) (g vs us))
  (hlen : ∀ xs zs : List D, xs.length = n → zs.length = ks.length → (g xs zs).length = ps.length) : dY K fd ps n ks g := by
 refine ⟨⟨fun us ws => g us ws, fun vs zs => g vs zs, ⟨fun s us ws KX h1 h2 => ?_, hrel⟩, hrep⟩, hlen⟩
 obtain ⟨oc, od, dV, kV, doc, pm, an, cdv, ct, osl, rfl, lk, hcd, hD, hK⟩ := F.ex
 rcases hD with ⟨_, rfl⟩ | ⟨e, _⟩
 ·exact .of_eq (h kV doc pm an cdv ct us ws h1 h2)
 ·exact absurd rfl e
structure gF where
 xs : List D
 H0 : W → Prop
def gF.ok (it : gF) (w : W) : Prop := it.H0 w
def always : W → Prop := fun _ => True
def holds (i : Nat) (o : MO) : W → Prop := fun w => w[i]? = some o
def oF (K : PySem.W.Frag) (I : List Addr) (F : Hp) (J : It) (it : gF) : Prop :=
 ∀ I' F' G w H j, Ext I F I' F' → Rel K I' F' G w H → it.ok w →
  (∀ x, it.xs[j]? = some x → J.go j H ∧ ∀ v H', J.yld j H v H' → ∃ F2, Ext I' F' I' F2 ∧ Rel K I' F2 G w H' ∧ aF K I' F2 x v) ∧ (it.xs.length = j → J.stop j H)
abbrev MI := Sg → W → Res gF
def RI (K : PySem.W.Frag) (R : It → Hp → Prop) : List Addr → Hp → Hp → gF → W → Prop := fun I' F' H' it w' => it.ok w' → ∀ J, oF K I' F' J it → R J H'
def ED (K : PySem.W.Frag) (E : XK) (m : MI) : TI := fun σ H R => ∃ I F G ds w, Rel K I F G w H ∧ cI K I F ds σ ∧ aS K I F G E (RI K R) (m ds w)
def JI (S : aV) (tg iter : Expr) (m : MI) : Prop := ∀ X E, Ctx S X → hH X E → PI X tg iter (ED X.K E m)
theorem nG {X : Cx} {tg e : Expr} {t t' : TI} (h : PI X tg e t) (k : ∀ σ H R, t' σ H R → t σ H R) : PI X tg e t' := ⟨fun pins s σ H R I q => h.run pins s σ H R I (k σ H R q)⟩
def EW (K : PySem.W.Frag) (tl : TE) : TI := fun σ H R => tl σ H fun x H1 => ∃ a, x = .ref a ∧ (((∃ xs, SqL K H1 a xs) ∧ R (Itl K a) H1) ∨ ((∃ xs, SqT K H1 a xs) ∧ R (Itt K a) H1))
theorem yY {X : Cx} {tg l : Expr} {tl : TE} (hl : PE X l tl) : PI X tg l (EW X.K tl) := by
 constructor
 intro pins s σ H R J h
 apply thn (hl.run pins s σ H _ J h)
 rintro v s1 ⟨x, H1, J1, r1, a, ex, q⟩
 subst ex
 cases r1
 have fp : ∀ b ∈ [s1.heap.objs.size], FpOk X pins H1 b := fun b hb => by
  rw [List.mem_singleton.mp hb]
  exact J1.fpOk (az _) (J1.hok.fresh (az _))
 rcases q with ⟨⟨xs, hq⟩, q⟩ | ⟨⟨xs, hq⟩, q⟩
 ·obtain ⟨its, rv, p, hz⟩ := J1.list hq
  apply wpAny_pyIter_list p.isList
  exact ⟨s1.heap.objs.size, [s1.heap.objs.size], _, _, H1, rfl, J1.kept (t' := s1.toks) fun b o e => Heap.get?_push_of_some _ e, turn_list a _, ⟨_, Heap.get?_push_size _ rfl, rfl, rfl⟩, fp, q⟩
 ·obtain ⟨its, rv, p, hz⟩ := J1.tuple hq
  apply wpAny_pyIter_tuple (show s1.heap.IsTuple a its.toArray from p)
  exact ⟨s1.heap.objs.size, [s1.heap.objs.size], _, _, H1, rfl, J1.kept (t' := s1.toks) fun b o e => Heap.get?_push_of_some _ e, turn_tuple a _, ⟨_, Heap.get?_push_size _ rfl, rfl, rfl⟩, fp, q⟩
def iterM (d : D) (w : W) : Res gF := match d with
 | .tup xs => .ok ⟨xs, always⟩ w
 | .i4 xs => .ok ⟨xs, always⟩ w
 | .lst xs => .ok ⟨xs, always⟩ w
 | .fM xs => .ok ⟨xs, always⟩ w
 | .ref i => (match w[i]? with
  | some (.lst xs) => .ok ⟨xs, holds i (.lst xs)⟩ w
  | _ => .bad)
 | _ => .bad
def bX (m : ME) : MI := fun σ w => (m σ w).bind iterM
section
variable {K : PySem.W.Frag} {I : List Addr} {F : Hp} {a : Addr} {it : gF}
theorem rO (h : ∀ I' F' G w H, Ext I F I' F' → Rel K I' F' G w H → it.ok w → ∃ vs, SqL K H a vs ∧ RepL K I' F' it.xs vs) : oF K I F (Itl K a) it := fun I' F' G w H j e rel ok => by
 obtain ⟨vs, hq, r⟩ := h I' F' G w H e rel ok
 refine ⟨fun x hx => ?_, fun hl => ⟨vs, hq, by rw [← r.length, hl]; exact az _⟩⟩
 obtain ⟨v, hv, rv⟩ := r.get hx
 refine ⟨⟨vs, v, hq, hv⟩, fun u H' y => ?_⟩
 obtain ⟨rfl, y⟩ := y
 have := y vs hq
 rw [hv] at this; cases this
 exact ⟨F', .refl, rel, rv⟩
theorem xU (h : ∀ I' F' G w H, Ext I F I' F' → Rel K I' F' G w H → it.ok w → ∃ vs, SqT K H a vs ∧ RepL K I' F' it.xs vs) : oF K I F (Itt K a) it := fun I' F' G w H j e rel ok => by
 obtain ⟨vs, hq, r⟩ := h I' F' G w H e rel ok
 refine ⟨fun x hx => ?_, fun hl => ⟨vs, hq, by rw [← r.length, hl]; exact az _⟩⟩
 obtain ⟨v, hv, rv⟩ := r.get hx
 refine ⟨⟨vs, v, hq, hv⟩, fun u H' y => ?_⟩
 obtain ⟨rfl, y⟩ := y
 have := y vs hq
 rw [hv] at this; cases this
 exact ⟨F', .refl, rel, rv⟩
theorem xF {lo : Int} {n : Nat} (hx : it.xs = (List.range n).map fun k : Nat => D.int (lo + (k : Int))) : oF K I F (Itr lo n) it := fun I' F' G w H j e rel ok => by
 refine ⟨fun x h => ?_, fun hl => ?_⟩
 ·rw [hx, bb] at h
  by_cases hj : j < n
  ·rw [List.getElem?_range hj] at h
   cases h
   refine ⟨hj, fun v H' y => ?_⟩
   obtain ⟨rfl, rfl⟩ := y
   exact ⟨F', .refl, rel, by simp [aF]⟩
  ·rw [List.getElem?_eq_none (by simpa using hj)] at h; cases h
 ·rw [hx] at hl
  simp at hl
  show n ≤ j
  omega
end
section
variable {S : aV} {pos p : Pos} {tg l e e2 : Expr} {m : ME} {ma : MA} {x : Str}
theorem iC (hl : JE S l m) : JI S tg l (bX m) := fun X E cx xo =>
 nG (yY (hl X E cx xo)) fun σ H R ⟨I, F, G, ds, w, rel, rs, p⟩ => a7 (f := fun _ => iterM) rel rs p fun I1 F1 H1 d w1 v e1 rel1 rs1 rv p1 => by
  cases d <;> first | exact p1.elim | skip
  case tup xs =>
   simp only [aF] at rv
   obtain ⟨a, vs, rfl, h1, h2⟩ := rv
   exact ⟨a, rfl, .inr ⟨⟨vs, .of (rel1.fz _ _ h1)⟩, p1 I1 F1 H1 .refl rel1 trivial _ (xU fun I' F' G w H e rel ok => ⟨vs, .of (rel.fz _ _ (e.f _ _ h1)), RepL.ext e _ _ h2⟩)⟩⟩
  case i4 xs =>
   simp only [aF] at rv
   obtain ⟨a, vs, rfl, h1, h2⟩ := rv
   exact ⟨a, rfl, .inr ⟨⟨vs, rel1.y5 h1⟩, p1 I1 F1 H1 .refl rel1 trivial _ (xU fun I' F' G w H e rel ok => ⟨vs, rel.y5 (tK e h1), RepL.ext e _ _ h2⟩)⟩⟩
  case lst xs =>
   simp only [aF] at rv
   obtain ⟨a, vs, rfl, h1, h2⟩ := rv
   exact ⟨a, rfl, .inl ⟨⟨vs, .of (rel1.fz _ _ h1)⟩, p1 I1 F1 H1 .refl rel1 trivial _ (rO fun I' F' G w H e rel ok => ⟨vs, .of (rel.fz _ _ (e.f _ _ h1)), RepL.ext e _ _ h2⟩)⟩⟩
  case fM xs =>
   simp only [aF] at rv
   obtain ⟨a, vs, rfl, h1, h2⟩ := rv
   exact ⟨a, rfl, .inl ⟨⟨vs, rel1.yL h1⟩, p1 I1 F1 H1 .refl rel1 trivial _ (rO fun I' F' G w H e rel ok => ⟨vs, rel.yL (tT e h1), RepL.ext e _ _ h2⟩)⟩⟩
  case ref i =>
   simp only [aF] at rv
   obtain ⟨a, rfl, h1⟩ := rv
   simp only [iterM] at p1
   split at p1
   ·rename_i xs hw
    obtain ⟨u, hu, vs, rfl, h2⟩ := rel1.ob i a _ h1 hw
    refine ⟨a, rfl, .inl ⟨⟨vs, .of hu⟩, p1 I1 F1 H1 .refl rel1 hw _ (rO fun I' F' G w H e rel ok => ?_)⟩⟩
    obtain ⟨u', hu', vs', rfl, h2'⟩ := rel.ob i a _ (e.get h1) ok
    exact ⟨vs', .of hu', h2'⟩
   ·exact p1.elim
def eJ (lo : Int) (n : Nat) : gF := ⟨(List.range n).map fun k : Nat => D.int (lo + (k : Int)), always⟩
def eV (ds : List D) (w : W) : Res gF := match ds with
 | [.int n] => if -(2 ^ 62) ≤ n ∧ n < 2 ^ 62 then .ok (eJ 0 n.toNat) w else .bad
 | _ => .bad
def uL (ds : List D) (w : W) : Res gF := match ds with
 | [.int a, .int b] => if -(2 ^ 62) ≤ a ∧ a < 2 ^ 62 ∧ -(2 ^ 62) ≤ b ∧ b < 2 ^ 62 then .ok (eJ a (b - a).toNat) w else .bad
 | _ => .bad
def cD (f : List D → W → Res gF) (ma : MA) : MI := fun σ w => (ma σ w).bind f
theorem jN (hg : S.sc.names.lookup ("range" : Str) = some .globalImplicit) (hm : S.mg "range" = none) (ha : JA S [e] ma) (hs : ∀ env : Env, starEach [e] env = [(false, eval e env)] := by intro _; rfl) : JI S tg (.Call (.Name "range" p) [e] [] pos) (cD eV ma) := fun X E cx xo =>
 nG (pi_range1 (by show X.env.scope.names.lookup _ = _; rw [cx.sc]; exact hg) (by rw [cx.mg]; exact hm) (ha X E cx xo) (hs X.env)) fun σ H R ⟨I, F, G, ds, w, rel, rs, p⟩ => b5 (f := fun _ => eV) rel rs p fun I1 F1 H1 xs w1 vs e1 rel1 rs1 rv p1 => by
  unfold eV at p1
  split at p1
  ·rename_i n
   split at p1
   ·rename_i hn
    simp only [RepL, aF] at rv
    obtain ⟨v, r, rfl, rfl, rfl⟩ := rv
    exact ⟨n, rfl, hn.1, hn.2, p1 I1 F1 H1 .refl rel1 trivial _ (xF rfl)⟩
   ·exact p1.elim
  ·exact p1.elim
theorem u5 (hg : S.sc.names.lookup ("range" : Str) = some .globalImplicit) (hm : S.mg "range" = none) (ha : JA S [e, e2] ma) (hs : ∀ env : Env, starEach [e, e2] env = [(false, eval e env), (false, eval e2 env)] := by intro _; rfl)
  (hs2 : ∀ env : Env, starEach [e2] env = [(false, eval e2 env)] := by intro _; rfl) : JI S tg (.Call (.Name "range" p) [e, e2] [] pos) (cD uL ma) := fun X E cx xo =>
 nG (pi_range2 (by show X.env.scope.names.lookup _ = _; rw [cx.sc]; exact hg) (by rw [cx.mg]; exact hm) (ha X E cx xo) (hs X.env) (hs2 X.env)) fun σ H R ⟨I, F, G, ds, w, rel, rs, p⟩ => b5 (f := fun _ => uL) rel rs p fun I1 F1 H1 xs w1 vs e1 rel1 rs1 rv p1 => by
  unfold uL at p1
  split at p1
  ·rename_i a b
   split at p1
   ·rename_i hn
    simp only [RepL, aF] at rv
    obtain ⟨v, r, rfl, rfl, v2, r2, rfl, rfl, rfl⟩ := rv
    exact ⟨a, b, rfl, hn, p1 I1 F1 H1 .refl rel1 trivial _ (xF rfl)⟩
   ·exact p1.elim
  ·exact p1.elim
end
open Classical in
def forL (it : gF) (g : MG) (body : MS) : List D → Sg → W → Res Fl
 | [], σ, w => if it.ok w then .ok (.nx σ) w else .bad
 | x :: xs, σ, w => if it.ok w then (g x σ w).bind fun σ1 w1 => (body σ1 w1).bind fun f w2 => match f with
   | .nx s => forL it g body xs s w2
   | .ct s => forL it g body xs s w2
   | .bk s => .ok (.nx s) w2
   | .rt d => .ok (.rt d) w2
  else .bad
def cV (m : MI) (g : MG) (body : MS) : MS := fun σ w => (m σ w).bind fun it w1 => forL it g body it.xs σ w1
section
variable {S : aV} {pos : Pos} {tg iter : Expr} {body : List Stmt} {m : MI} {g : MG} {b : MS}
theorem k0 (hi : JI S tg iter m) (hg : JG S tg g) (hb : oW S body b) (hs : ∀ (env : Env) x, foldedSetIterable iter env x = pure x := by intro _ _; rfl) : JS S (.For tg iter body [] pos) (cV m g b) := fun X E cx xo =>
 fT (ps_for xo.own cx.calm (hi X E cx xo) (hg X E cx xo) (hb X E cx xo) (hs X.env)) fun Z σ H ⟨I, F, G, ds, w, rel, rs, p⟩ => by
  refine ⟨I, F, G, ds, w, rel, rs, (aS.bind p).mono fun I1 F1 H1 it w1 _ e1 rel1 p1 hok J hJ => ?_⟩
  refine ⟨fun i n σ' H' => n = it.xs.length - i ∧ i ≤ it.xs.length ∧ ∃ I' F' ds' w', Ext I1 F1 I' F' ∧ Rel X.K I' F' G w' H' ∧ cI X.K I' F' ds' σ' ∧ aS X.K I' F' G E (HD X.K Z) (forL it g b (it.xs.drop i) ds' w'),
   ⟨it.xs.length, by simp, Nat.zero_le _, I1, F1, ds, w1, .refl, rel1, rs.ext e1, p1⟩, ?_⟩
  rintro i n σ' H' ⟨rfl, hi, I', F', ds', w', e', rel', rs', p'⟩
  by_cases hlt : i < it.xs.length
  ·rw [List.drop_eq_getElem_cons hlt] at p'
   unfold forL at p'
   split at p'
   ·rename_i hw
    obtain ⟨h1, _⟩ := hJ I' F' G w' H' i e' rel' hw
    obtain ⟨hgo, hy⟩ := h1 _ (ar hlt)
    refine .inr ⟨hgo, fun σ2 H2 => ∃ I2 F2 ds2 w2, Ext I1 F1 I2 F2 ∧ Rel X.K I2 F2 G w2 H2 ∧ cI X.K I2 F2 ds2 σ2 ∧ aS X.K I2 F2 G E (HD X.K Z) (forL it g b (it.xs.drop (i + 1)) ds2 w2), fun σ2 H2 q => ⟨it.xs.length - (i + 1), by omega, rfl, hlt, q⟩, fun v H2 y => ?_⟩
    obtain ⟨F2, e2, rel2, rv⟩ := hy v H2 y
    refine ⟨I', F2, G, _, ds', w', rel2, rs'.ext e2, rv, (aS.bind (p'.ext e2)).mono fun I3 F3 H3 s3 w3 _ e3 rel3 p3 σ3 rs3 => ?_⟩
    refine ⟨I3, F3, G, s3, w3, rel3, rs3, (aS.bind p3).mono fun I4 F4 H4 f w4 _ e4 rel4 p4 => ?_⟩
    have ee : Ext I1 F1 I4 F4 := ((e'.trans e2).trans e3).trans e4
    cases f with
    | nx s => exact fun s' rs4 => ⟨I4, F4, s, w4, ee, rel4, rs4, p4⟩
    | ct s => exact fun s' rs4 => ⟨I4, F4, s, w4, ee, rel4, rs4, p4⟩
    | bk s => exact fun s' rs4 => p4 I4 F4 H4 .refl rel4 s' rs4
    | rt d => exact fun v rv => p4 I4 F4 H4 .refl rel4 v rv
   ·exact p'.elim
  ·have hl : i = it.xs.length := by omega
   subst hl
   rw [List.drop_length] at p'
   unfold forL at p'
   split at p'
   ·rename_i hw
    exact .inl ⟨(hJ I' F' G w' H' _ e' rel' hw).2 rfl, p' I' F' H' .refl rel' σ' rs'⟩
   ·exact p'.elim
end
def Res.zC {α : Type} (r : Res α) : Res α := match r with
 | .pM _ _ => .bad
 | r => r
abbrev E0 : XK := fun _ _ _ => False
theorem aS.xD {α β : Type} {K : PySem.W.Frag} {I : List Addr} {F G : Hp} {E : XK} {r : Res α} {f : α → W → Res β} {R2 : List Addr → Hp → Hp → β → W → Prop} (h : aS K I F G E R2 (r.zC.bind f)) :
  aS K I F G E0 (fun I' F' _ a w => aS K I' F' G E R2 (f a w)) r := by
 cases r with
 | ok a w => exact fun I' F' H' e' q => aS.ext (K := K) (R := R2) h e'
 | pM x w => exact h.elim
 | bad => exact h
theorem Rel.keep {K : PySem.W.Frag} {I : List Addr} {F G H : Hp} {w : W} (rel : Rel K I F G w H) {q : Addr} {u : HO} (hq : H q = none) (hu : ∀ xs, u ≠ .tup xs := by intro _ h; cases h) : Rel K I F (upd G q u) w (upd H q u) := by
 have hI : q ∉ I := fun z => by
  obtain ⟨i, hi⟩ := List.mem_iff_getElem?.mp z
  have hl : i < w.length := by rw [← rel.len]; exact (ae.mp hi).1
  obtain ⟨u, h3, _⟩ := rel.ob i q _ hi (ar hl)
  rw [h3] at hq; cases hq
 have hF : F q = none := by
  cases h : F q with
  | none => rfl
  | some u => rw [rel.fz _ _ h] at hq; cases hq
 refine ⟨rel.len, rel.nd, fun i a o h1 h2 => ?_, fun a u' h => ?_, rel.ap, fun a u' h => ?_, fun a u' h => ?_, fun a xs h => ?_⟩
 ·obtain ⟨u', h3, h4⟩ := rel.ob i a o h1 h2
  exact ⟨u', by rw [upd_ne (ne_of_none h3 hq)]; exact h3, h4⟩
 ·rw [upd_ne (ne_of_none h hF)]; exact rel.fz a u' h
 ·by_cases ha : a = q
  ·subst ha; rw [upd_same] at h ⊢; exact h
  ·rw [upd_ne ha] at h ⊢; exact rel.gz a u' h
 ·by_cases ha : a = q
  ·subst ha; exact ⟨hF, hI⟩
  ·rw [upd_ne ha] at h; exact rel.gf a u' h
 ·by_cases ha : a = q
  ·subst ha; rw [upd_same] at h; exact hu xs (Option.some.inj h)
  ·rw [upd_ne ha] at h; exact rel.gt a xs h
theorem Rel.B6 {K : PySem.W.Frag} {I : List Addr} {F G H : Hp} {w : W} {q : Addr} {u u' : HO} (rel : Rel K I F (upd G q u) w H) (hu : ∀ xs, u' ≠ .tup xs := by intro _ h; cases h) : Rel K I F (upd G q u') w (upd H q u') := by
 obtain ⟨hF, hI⟩ := rel.gf q u upd_same
 refine ⟨rel.len, rel.nd, fun i a o h1 h2 => ?_, fun a v h => ?_, rel.ap, fun a v h => ?_, fun a v h => ?_, fun a xs h => ?_⟩
 ·obtain ⟨v, h3, h4⟩ := rel.ob i a o h1 h2
  have ha : a ≠ q := fun z => hI (by rw [← z]; exact bc h1)
  exact ⟨v, by rw [upd_ne ha]; exact h3, h4⟩
 ·rw [upd_ne (ne_of_none h hF)]; exact rel.fz a v h
 ·by_cases ha : a = q
  ·subst ha; rw [upd_same] at h ⊢; exact h
  ·rw [upd_ne ha] at h ⊢; exact rel.gz a v (by rw [upd_ne ha]; exact h)
 ·by_cases ha : a = q
  ·subst ha; exact ⟨hF, hI⟩
  ·rw [upd_ne ha] at h; exact rel.gf a v (by rw [upd_ne ha]; exact h)
 ·by_cases ha : a = q
  ·subst ha; rw [upd_same] at h; exact hu xs (Option.some.inj h)
  ·rw [upd_ne ha] at h; exact rel.gt a xs (by rw [upd_ne ha]; exact h)
theorem Rel.FO {K : PySem.W.Frag} {I : List Addr} {F G H : Hp} {w : W} {q : Addr} {u : HO} (rel : Rel K I F (upd G q u) w H) (hG : G q = none) : Ext I F I (upd F q u) ∧ Rel K I (upd F q u) G w H := by
 obtain ⟨hF, hI⟩ := rel.gf q u upd_same
 have e : Ext I F I (upd F q u) := ⟨List.prefix_refl _, fun a v h => by rw [upd_ne (ne_of_none h hF)]; exact h⟩
 refine ⟨e, rel.len, rel.nd, fun i a o h1 h2 => ?_, fun a v h => ?_, fun i a o h h0 hf => ?_, fun a v h => ?_, fun a v h => ?_, fun a xs h => rel.gt a xs (by rw [upd_ne (ne_of_none h hG)]; exact h)⟩
 ·obtain ⟨v, h3, h4⟩ := rel.ob i a o h1 h2
  exact ⟨v, h3, gD.ext e h4⟩
 ·by_cases ha : a = q
  ·subst ha; rw [upd_same] at h; cases h; exact rel.gz a u upd_same
  ·rw [upd_ne ha] at h; exact rel.fz a v h
 ·have ha : a ≠ q := fun z => hI (by rw [← z]; exact bc h)
  rw [upd_ne ha]; exact rel.ap i a o h h0 hf
 ·have ha : a ≠ q := ne_of_none h hG
  exact rel.gz a v (by rw [upd_ne ha]; exact h)
 ·have ha : a ≠ q := ne_of_none h hG
  rw [upd_ne ha]
  exact rel.gf a v (by rw [upd_ne ha]; exact h)
def e8 (σ : Sg) : List Nat → Sg
 | [] => σ
 | v :: vs => (e8 σ vs).set v none
theorem cI.wipe {K : PySem.W.Frag} {I : List Addr} {F : Hp} {ds : Sg} {s : L2.St} (h : cI K I F ds s) : ∀ vs : List Nat, cI K I F (e8 ds vs) (L2.wipe s vs)
 | [] => h
 | v :: vs => (h.wipe vs).unset v none
theorem kR {s : L2.St} {i : Nat} {x : Option V} : ∀ {vs : List Nat}, i ∈ vs → L2.wipe (s.set i x) vs = L2.wipe s vs
 | [], h => by cases h
 | v :: vs, h => by
  show (L2.wipe (s.set i x) vs).set v none = (L2.wipe s vs).set v none
  by_cases hi : i ∈ vs
  ·rw [kR hi]
  ·have hv : i = v := by
    rcases List.mem_cons.mp h with e | e
    ·exact e
    ·exact absurd e hi
   subst hv
   have key : ∀ ws : List Nat, i ∉ ws → L2.wipe (s.set i x) ws = (L2.wipe s ws).set i x := by
    intro ws
    induction ws with
    | nil => intro _; rfl
    | cons b bs ih =>
     intro hn
     show (L2.wipe (s.set i x) bs).set b none = ((L2.wipe s bs).set b none).set i x
     rw [ih (fun z => hn (au _ z))]
     rw [List.set_comm _ _ (fun z => hn (by rw [z]; exact ao ..))]
   rw [key vs hi, List.set_set]
theorem uV {s : L2.St} : ∀ {vs : List Nat}, L2.wipe (L2.wipe s vs) vs = L2.wipe s vs := by
 intro vs
 have key : ∀ ws : List Nat, (∀ v ∈ ws, v ∈ vs) → L2.wipe (L2.wipe s ws) vs = L2.wipe s vs := by
  intro ws
  induction ws with
  | nil => intro _; rfl
  | cons b bs ih =>
   intro h
   show L2.wipe ((L2.wipe s bs).set b none) vs = _
   rw [kR (h b (ao ..)), ih fun v hv => h v (au _ hv)]
 exact key vs fun _ h => h
def HP (K : PySem.W.Frag) (vs : List Nat) (σ : L2.St) (Q : L2.St → Hp → Prop) : List Addr → Hp → Hp → Sg → W → Prop := fun I' F' H' s _ => ∀ s', cI K I' F' s s' → L2.wipe s' vs = L2.wipe σ vs → Q s' H'
def E5 (K : PySem.W.Frag) (E : XK) (vs : List Nat) (g : MG) : TG := fun v σ H Q => ∃ I F G d ds w, Rel K I F G w H ∧ cI K I F ds σ ∧ aF K I F d v ∧ aS K I F G E (HP K vs σ Q) (g d ds w)
def JC (S : aV) (vs : List Nat) (t : Expr) (g : MG) : Prop := ∀ X E, Ctx S X → hH X E → PG X t (E5 X.K E vs g)
section
variable {S : aV} {pos : Pos} {vs : List Nat} {e : Expr} {es : List Expr} {g : MG} {r : vZ}
theorem AA {i : Nat} {x : Str} (hi : S.N[i]? = some x) (hx : GJ S x) (hv : i ∈ vs) : JC S vs (.Name x pos) (aN i) := fun X E cx xo =>
 kH (pg_name (i := i) (x := x) cx.nd (by rw [cx.N]; exact hi) (by rw [cx.sc]; exact hx.1) (by rw [cx.sc]; exact hx.2.imp (cx.fn x) id)) fun v σ H Q ⟨I, F, G, d, ds, w, rel, rs, rv, p⟩ => p I F H .refl rel _ (rs.set i rv) (kR hv)
end
open Classical in
def fD (it : gF) (vs : List Nat) (g : MG) (t : MT) (e : ME) : List D → Sg → W → Res (List D)
 | [], σ, w => if it.ok w then .ok [] w else .bad
 | x :: xs, σ, w => if it.ok w then (g x (e8 σ vs) w).zC.bind fun σ1 w1 => (t σ1 w1).zC.bind fun b w2 =>
   if b = true then (e σ1 w2).zC.bind fun y w3 => (fD it vs g t e xs σ w3).bind fun ys w4 => .ok (y :: ys) w4 else fD it vs g t e xs σ w2
  else .bad
def s9 (m : MI) (vs : List Nat) (g : MG) (t : MT) (e : ME) : MA := fun σ w => (m σ w).bind fun it w1 => if it.xs.length ≤ sizeLine then fD it vs g t e it.xs σ w1 else .bad
def bA (m : MI) (vs : List Nat) (g : MG) (t : MT) (e : ME) : ME := fun σ w => (s9 m vs g t e σ w).bind fun ys w1 => .ok (.lst ys) w1
def sR (m : MI) (vs : List Nat) (g : MG) (t : MT) (e : ME) : ME := fun σ w => (s9 m vs g t e σ w).bind fun ys w1 => .ok (.ref w1.length) (w1 ++ [.lst ys])
def E9 (S : aV) (ifs : List Expr) (t : MT) : Prop := ∀ X E, Ctx S X → hH X E → PTs X ifs (wZ X.K E t)
def bG : MT := fun _ w => .ok true w
abbrev aV.blk (S : aV) (scope : Scope) : aV := { S with sc := relS scope S.sc, fn := fun x => scope.names.lookup x == some .cell }
theorem hE {S : aV} {X : Cx} (c : Ctx S X) (s : Shared) (H : Hp) (scope : Scope) (C : Addr) (cl : List (Str × Addr)) (fp : List Addr) : Ctx (S.blk scope) (X.blk s H scope (compEnvC scope cl C X.env) fp) :=
 ⟨c.P, c.w, c.K, c.mg, c.base, c.N, by show relS scope X.env.scope = relS scope S.sc; rw [c.sc], fun _ h => h, c.calm, c.room, c.F9, c.nd⟩
theorem g8 {X : Cx} (s : Shared) (H : Hp) (scope : Scope) (cenv : Env) (fp : List Addr) : hH (X.blk s H scope cenv fp) E0 :=
 ⟨fun _ _ ⟨_, _, _, _, _, _, _, _, _, _, _, _, _, _, _, _, h⟩ => h.elim, PassesOwn.never⟩
section
variable {S : aV} {pos : Pos} {elt tg iter c : Expr} {ifs : List Expr} {scope : Scope} {own : List (Str × Nat)} {mi : MI} {g : MG} {t : MT} {me : ME}
theorem tR : E9 S [] bG := fun X E cx xo => ⟨fun pins s σ H Q J ⟨I, F, G, ds, w, rel, rs, p⟩ => pts_nil.run pins s σ H Q J (p I F H .refl rel)⟩
theorem kM (h : JT S c t) : E9 S [c] t := fun X E cx xo => pts_one (h X E cx xo)
theorem pH {K : PySem.W.Frag} {E : XK} {vs : List Nat} {f : List D → W → Res D} {σ : L2.St} {H : Hp} {Q : VK} (h : mO K E (fun σ w => (s9 mi vs g t me σ w).bind f) σ H Q)
  (fin : ∀ I F G w H q xs us, Rel K I F (upd G q (.lst us)) w H → G q = none → RepL K I F xs us → aS K I F G E (RV K Q) (f xs w) → Q (.ref q) H) :
  tLc (ED K E mi) (E5 K E0 vs g) (wZ K E0 t) (mO K E0 me) vs σ H Q := by
 obtain ⟨I, F, G, ds, w, rel, rs, p⟩ := h
 have p0 : aS K I F G E (RV K Q) ((mi ds w).bind fun it w1 => (if it.xs.length ≤ sizeLine then fD it vs g t me it.xs ds w1 else .bad).bind f) := by
  rw [← Res.bind_assoc]; exact p
 refine ⟨I, F, G, ds, w, rel, rs, (aS.bind p0).mono fun I1 F1 H1 it w1 _ e1 rel1 p1 hok J hJ q hq => ?_⟩
 have hG : G q = none := by
  cases h : G q with
  | none => rfl
  | some u => rw [rel1.gz _ _ h] at hq; cases hq
 split at p1
 ·rename_i hz
  refine ⟨fun i n H' => n = it.xs.length - i ∧ i ≤ it.xs.length ∧ ∃ I' F' w' xs us, Ext I1 F1 I' F' ∧ Rel K I' F' (upd G q (.lst us)) w' H' ∧ RepL K I' F' xs us ∧ xs.length ≤ i ∧
    aS K I' F' G E (RV K Q) ((fD it vs g t me (it.xs.drop i) ds w').bind fun ys w2 => f (xs ++ ys) w2),
   ⟨it.xs.length, by simp, Nat.zero_le _, I1, F1, w1, [], [], .refl, rel1.keep hq, by simp [RepL], az _, by simpa using p1⟩, ?_⟩
  rintro i n H' ⟨rfl, hi, I', F', w', xs, us, e', rel', rx, hxi, p'⟩
  by_cases hlt : i < it.xs.length
  ·rw [List.drop_eq_getElem_cons hlt] at p'
   unfold fD at p'
   split at p'
   ·rename_i hw
    obtain ⟨h1, _⟩ := hJ I' F' _ w' H' i e' rel' hw
    obtain ⟨hgo, hy⟩ := h1 _ (ar hlt)
    refine .inr ⟨hgo, fun H2 => ∃ I2 F2 w2 xs2 us2, Ext I1 F1 I2 F2 ∧ Rel K I2 F2 (upd G q (.lst us2)) w2 H2 ∧ RepL K I2 F2 xs2 us2 ∧ xs2.length ≤ i + 1 ∧ aS K I2 F2 G E (RV K Q) ((fD it vs g t me (it.xs.drop (i + 1)) ds w2).bind fun ys w2 => f (xs2 ++ ys) w2),
     fun H2 q => ⟨it.xs.length - (i + 1), by omega, rfl, hlt, q⟩, fun v H2 y => ?_⟩
    obtain ⟨F2, e2, rel2, rv⟩ := hy v H2 y
    have p2 := p'.ext e2
    rw [Res.bind_assoc] at p2
    -- from here on the list at q lies still
    have still : ∀ {α : Type} {R : List Addr → Hp → Hp → α → W → Prop} {r : Res α} {I3 : List Addr} {F3 : Hp}, aS K I3 F3 G E0 R r → aS K I3 F3 (upd G q (.lst us)) E0 (fun I' F' H' a w => Rel K I' F' (upd G q (.lst us)) w H' ∧ ∀ H'', Rel K I' F' G w H'' → R I' F' H'' a w) r := by
     intro α R r I3 F3 hp
     cases r with
     | ok a w => exact fun I' F' H' e q => ⟨q, fun H'' q' => hp I' F' H'' e q'⟩
     | pM x w =>
      intro I' F' H' c d e q rx
      exact hp I' F' H' c d e ⟨q.len, q.nd, q.ob, q.fz, q.ap, fun a u h => q.gz a u (by rw [upd_ne (ne_of_none h hG)]; exact h), fun a u h => q.gf a u (by rw [upd_ne (ne_of_none h hG)]; exact h), fun a xs h => q.gt a xs (by rw [upd_ne (ne_of_none h hG)]; exact h)⟩ rx
     | bad => exact hp
    have less : ∀ {I3 : List Addr} {F3 : Hp} {w3 : W} {H3 : Hp}, Rel K I3 F3 (upd G q (.lst us)) w3 H3 → Rel K I3 F3 G w3 H3 := fun {I3 F3 w3 H3} q => ⟨q.len, q.nd, q.ob, q.fz, q.ap, fun a u h => q.gz a u (by rw [upd_ne (ne_of_none h hG)]; exact h), fun a u h => q.gf a u (by rw [upd_ne (ne_of_none h hG)]; exact h), fun a xs h => q.gt a xs (by rw [upd_ne (ne_of_none h hG)]; exact h)⟩
    refine ⟨I', F2, upd G q (.lst us), _, e8 ds vs, w', rel2, (((rs.ext e1).ext e').ext e2).wipe vs, rv, (still (aS.xD p2)).mono fun I3 F3 H3 s3 w3 _ e3 rel3 p3 σ3 rs3 ew => ⟨ew.trans uV, ?_⟩⟩
    have p3' := p3.2 H3 (less rel3)
    rw [Res.bind_assoc] at p3'
    refine ⟨I3, F3, upd G q (.lst us), s3, w3, rel3, rs3, (still (aS.xD p3')).mono fun I4 F4 H4 b w4 _ e4 rel4 p4 => ?_⟩
    have p4' := p4.2 H4 (less rel4)
    cases b with
    | true =>
     simp only [ah] at p4' ⊢
     rw [Res.bind_assoc] at p4'
     refine ⟨I4, F4, upd G q (.lst us), s3, w4, rel4, rs3.ext e4, (still (aS.xD p4')).mono fun I5 F5 H5 y w5 _ e5 rel5 p5 u ru => ?_⟩
     have p5' := p5.2 H5 (less rel5)
     rw [Res.bind_assoc] at p5'
     have ee : Ext I' F' I5 F5 := ((e2.trans e3).trans e4).trans e5
     refine ⟨us, rel5.gz _ _ upd_same, by rw [← rx.length]; omega, I5, F5, w5, xs ++ [y], us ++ [u], e'.trans ee, rel5.B6, (RepL.ext ee _ _ rx).append (RepL.cons ru (by simp [RepL])), by simp; omega, ?_⟩
     simpa using p5'
    | false =>
     simp only [Bool.false_eq_true, ai] at p4' ⊢
     exact ⟨I4, F4, w4, xs, us, (e'.trans e2).trans (e3.trans e4), rel4, RepL.ext ((e2.trans e3).trans e4) _ _ rx, by omega, p4'⟩
   ·exact p'.elim
  ·have hl : i = it.xs.length := by omega
   subst hl
   rw [List.drop_length] at p'
   unfold fD at p'
   split at p'
   ·rename_i hw
    refine .inl ⟨(hJ I' F' _ w' H' _ e' rel' hw).2 rfl, fin I' F' G w' H' q xs us rel' hG rx ?_⟩
    simpa using p'
   ·exact p'.elim
 ·exact p1.elim
theorem tH {K : PySem.W.Frag} {E : XK} {Q : VK} (I : List Addr) (F G : Hp) (w : W) (H : Hp) (q : Addr) (xs : List D) (us : List V) (rel : Rel K I F (upd G q (.lst us)) w H) (hG : G q = none) (rx : RepL K I F xs us)
  (p : aS K I F G E (RV K Q) (.ok (.lst xs) w)) : Q (.ref q) H := by
 obtain ⟨e, rel2⟩ := rel.FO hG
 exact p _ _ H e rel2 _ (by simp only [aF]; exact ⟨q, us, rfl, upd_same, RepL.ext e _ _ rx⟩)
theorem n3 (hi : JI S tg iter mi) (hb : blkC S.N S.sc scope own = true) (hg : JC (S.blk scope) (own.map (·.2)) tg g) (ht : E9 (S.blk scope) ifs t) (he : JE (S.blk scope) elt me)
  (hs : ∀ (env : Env) x, foldedSetIterable iter env x = pure x := by intro _ _; rfl) : JE S (.ListComp elt [⟨tg, iter, ifs, 0⟩] scope pos) (bA mi (own.map (·.2)) g t me) := fun X E cx xo =>
 bP (pe_lc (own := own) cx.calm cx.nd (hi X E cx xo) (blkOk_by (by rw [cx.N, cx.sc]; exact hb)) (fun s H C cl fp => hg _ E0 (hE cx s H scope C cl fp) (g8 ..)) (fun s H C cl fp => ht _ E0 (hE cx s H scope C cl fp) (g8 ..))
  (fun s H C cl fp => he _ E0 (hE cx s H scope C cl fp) (g8 ..)) (hs X.env)) fun σ H Q h => pH h tH
theorem rJ {i : Nat} {y : Str} {py spos : Pos} (hy : S.N[i]? = some y) (hyl : S.sc.names.lookup y = some .local) (hsw : ∀ env : Env, env.scope = S.sc → env.scope.kind = .function → swapsWith (.ListComp elt [⟨tg, iter, ifs, 0⟩] scope pos) (some (.Name y py)) spos.line env = pure true)
  (hi : JI S tg iter mi) (hb : blkC S.N S.sc scope own = true) (hg : JC (S.blk scope) (own.map (·.2)) tg g) (ht : E9 (S.blk scope) ifs t) (he : JE (S.blk scope) elt me)
  (hk : S.sc.kind = .function) (hs : ∀ (env : Env) x, foldedSetIterable iter env x = pure x := by intro _ _; rfl) : JS S (.Assign [.Name y py] (.ListComp elt [⟨tg, iter, ifs, 0⟩] scope pos) spos) (aK (bA mi (own.map (·.2)) g t me) (aN i)) := fun X E cx xo =>
 fT (ps_setLc (i := i) (own := own) cx.calm cx.nd (by rw [cx.N]; exact hy) (by rw [cx.sc]; exact hyl) (hsw X.env cx.sc (by rw [cx.sc]; exact hk)) (hi X E cx xo) (blkOk_by (by rw [cx.N, cx.sc]; exact hb)) (fun s H C cl fp => hg _ E0 (hE cx s H scope C cl fp) (g8 ..)) (fun s H C cl fp => ht _ E0 (hE cx s H scope C cl fp) (g8 ..))
  (fun s H C cl fp => he _ E0 (hE cx s H scope C cl fp) (g8 ..)) (hs X.env)) fun Z σ H ⟨I, F, G, ds, w, rel, rs, p⟩ => by
  obtain ⟨I, F, G, ds, w, rel, rs, q⟩ : mO X.K E (bA mi (own.map (·.2)) g t me) σ H (fun x H1 => gName i x σ H1 Z.nx) := a7 (f := fun ds d w1 => (aN i d ds w1).bind fun σ2 w2 => Res.ok (Fl.nx σ2) w2) rel rs p fun I1 F1 H1 x w1 v e1 rel1 rs1 rv p1 => p1 I1 F1 H1 .refl rel1 _ (rs1.set i rv)
  exact pH (f := fun ys w1 => Res.ok (D.lst ys) w1) ⟨I, F, G, ds, w, rel, rs, q⟩ tH
end
def keyD : D → Option Key
 | .int i => some (.inl i)
 | .str x => some (.inr x)
 | _ => none
def iN : List D → Option (List Key)
 | [] => some []
 | d :: ds => match keyD d, iN ds with
  | some k, some ks => some (k :: ks)
  | _, _ => none
def hY {κ : Type} [DecidableEq κ] : List (κ × D) → κ → Option D
 | [], _ => none
 | (j, d) :: r, k => if j = k then some d else hY r k
def putD {κ : Type} [DecidableEq κ] (kvs : List (κ × D)) (k : κ) (d : D) : List (κ × D) :=
 if (hY kvs k).isSome then kvs.map (fun p => if p.1 = k then (p.1, d) else p) else kvs ++ [(k, d)]
section
variable {K : PySem.W.Frag} {I : List Addr} {F G H : Hp} {w : W} {κ : Type} [DecidableEq κ]
def rC (K : PySem.W.Frag) (I : List Addr) (F : Hp) : Option D → Option V → Prop
 | some d, q => ∃ v, q = some v ∧ aF K I F d v
 | none, q => q = none
theorem aJ.look : ∀ {kvs : List (κ × D)} {r : List (κ × V)} (k : κ), aJ K I F kvs r → rC K I F (hY kvs k) (valV r k)
 | [], r, k, h => by simp only [aJ] at h; subst h; rfl
 | (j, d) :: kvs, r, k, h => by
  simp only [aJ] at h
  obtain ⟨v, t, rfl, h1, h2⟩ := h
  simp only [hY]
  by_cases e : j = k
  ·rw [if_pos e]; exact ⟨v, by rw [valV_pos e], h1⟩
  ·rw [if_neg e]
   have := aJ.look k h2
   rw [valV_neg (by exact e)]
   exact this
theorem aJ.length : ∀ {kvs : List (κ × D)} {r : List (κ × V)}, aJ K I F kvs r → kvs.length = r.length
 | [], r, h => by simp only [aJ] at h; subst h; rfl
 | (j, d) :: kvs, r, h => by
  simp only [aJ] at h
  obtain ⟨v, t, rfl, h1, h2⟩ := h
  simp [aJ.length h2]
theorem aJ.repl {d : D} {v : V} (k : κ) (hv : aF K I F d v) : ∀ {kvs : List (κ × D)} {r : List (κ × V)}, aJ K I F kvs r → aJ K I F (kvs.map (fun p => if p.1 = k then (p.1, d) else p)) (r.map (fun p => if p.1 = k then (p.1, v) else p))
 | [], r, h => by simp only [aJ] at h; subst h; simp [aJ]
 | (j, x) :: kvs, r, h => by
  simp only [aJ] at h
  obtain ⟨u, t, rfl, h1, h2⟩ := h
  simp only [List.map_cons]
  by_cases e : j = k
  ·rw [if_pos e, if_pos e]; simp only [aJ]; exact ⟨v, _, rfl, hv, aJ.repl k hv h2⟩
  ·rw [if_neg e, if_neg e]; simp only [aJ]; exact ⟨u, _, rfl, h1, aJ.repl k hv h2⟩
theorem aJ.snoc {d : D} {v : V} (k : κ) (hv : aF K I F d v) : ∀ {kvs : List (κ × D)} {r : List (κ × V)}, aJ K I F kvs r → aJ K I F (kvs ++ [(k, d)]) (r ++ [(k, v)])
 | [], r, h => by simp only [aJ] at h; subst h; simp only [List.nil_append, aJ]; exact ⟨v, [], rfl, hv, rfl⟩
 | (j, x) :: kvs, r, h => by
  simp only [aJ] at h
  obtain ⟨u, t, rfl, h1, h2⟩ := h
  simp only [List.cons_append, aJ]
  exact ⟨u, _, rfl, h1, aJ.snoc k hv h2⟩
theorem yU (r : List (κ × V)) (k : κ) (v : V) : putK r k v = if (valV r k).isSome then r.map (fun p => if p.1 = k then (p.1, v) else p) else r ++ [(k, v)] := by
 unfold putK
 rw [valV_any]
theorem aJ.put {d : D} {v : V} (k : κ) (hv : aF K I F d v) {kvs : List (κ × D)} {r : List (κ × V)} (h : aJ K I F kvs r) : aJ K I F (putD kvs k d) (putK r k v) := by
 rw [yU]
 unfold putD
 have hl := h.look k
 cases e : hY kvs k with
 | some x =>
  rw [e] at hl
  obtain ⟨u, hu, _⟩ := hl
  rw [hu]
  exact h.repl k hv
 | none =>
  rw [e] at hl
  rw [hl]
  exact h.snoc k hv
theorem i3 {d : D} {v : V} {k : Key} (h : aF K I F d v) (e : keyD d = some k) : v = kV k := by
 cases d <;> simp only [keyD, aa, reduceCtorEq] at e
 ·subst e; simp only [aF] at h; exact h
 ·subst e; simp only [aF] at h; exact h
theorem hC : ∀ {ds : List D} {vs : List V} {ks : List Key}, RepL K I F ds vs → iN ds = some ks → vs = ks.map kV
 | [], vs, ks, h, e => by simp only [iN, aa] at e; subst e; simp only [RepL] at h; exact h
 | d :: ds, vs, ks, h, e => by
  simp only [RepL] at h
  obtain ⟨v, r, rfl, h1, h2⟩ := h
  simp only [iN] at e
  split at e
  ·rename_i k ks' e1 e2
   cases e
   rw [i3 h1 e1, hC h2 e2]
   rfl
  ·cases e
theorem Rel.upd {i : Nat} {a : Addr} {o o' : MO} {u' : HO} (rel : Rel K I F G w H) (hi : I[i]? = some a) (ho : w[i]? = some o) (r : gD K I F o' u') (hf : o.fz = false := by rfl) : Rel K I F G (w.set i o') (upd H a u') := by
 have hF : F a = none := rel.ap i a o hi ho hf
 have hil : i < w.length := (ae.mp ho).1
 refine ⟨by simp [rel.len], rel.nd, fun j b q h1 h2 => ?_, fun b u h => ?_, fun j b q h1 h2 h3 => ?_, fun b u h => ?_, rel.gf, rel.gt⟩
 ·by_cases hj : i = j
  ·subst hj
   rw [aw hil] at h2
   cases h2
   rw [hi] at h1; cases h1
   exact ⟨u', upd_same, r⟩
  ·rw [aj hj] at h2
   obtain ⟨u, h3, h4⟩ := rel.ob j b q h1 h2
   have hb : b ≠ a := fun z => by
    subst z
    obtain ⟨l1, e1⟩ := ae.mp hi
    obtain ⟨l2, e2⟩ := ae.mp h1
    exact hj ((List.getElem_inj rel.nd).mp (e1.trans e2.symm))
   exact ⟨u, by rw [upd_ne hb]; exact h3, h4⟩
 ·rw [upd_ne (ne_of_none h hF)]; exact rel.fz b u h
 ·by_cases hj : i = j
  ·subst hj
   rw [hi] at h1; cases h1; exact hF
  ·rw [aj hj] at h2
   exact rel.ap j b q h1 h2 h3
 ·have hb : b ≠ a := fun z => (rel.gf b u h).2 (z ▸ bc hi)
  rw [upd_ne hb]; exact rel.gz b u h
end
theorem RepL.at' {K : PySem.W.Frag} {I : List Addr} {F : Hp} {ds : List D} {vs : List V} (r : RepL K I F ds vs) {i : Int} {d : D} (h : atI ds i = some d) : ∃ v, atI vs i = some v ∧ aF K I F d v := by
 unfold atI at h ⊢
 rw [← r.length]
 cases e : ixN ds.length i with
 | none => rw [e] at h; cases h
 | some j => rw [e] at h; exact r.get h
def gL (o : MO) (y : D) : Option (Option D) := match o, y with
 | .dK kvs, y => (keyD y).map (hY kvs)
 | .dF kvs, y => (keyD y).map (hY kvs)
 | .dT kvs, .tup ys => (iN ys).map (hY kvs)
 | .dG kvs, .tup ys => (iN ys).map (hY kvs)
 | _, _ => none
def vK (xs : List D) (y : D) (w : W) : Res D := match y with
 | .int i => (match atI xs i with
  | some d => .ok d w
  | none => .bad)
 | _ => .bad
def atS (z : Str) (y : D) (w : W) : Res D := match y with
 | .int i => if z.length ≤ sizeLine then (match atI z.cps.toList i with
   | some c => .ok (.str ⟨#[c]⟩) w
   | none => .bad) else .bad
 | _ => .bad
def aL (x y : D) (w : W) : Res D := match x with
 | .tup xs => vK xs y w
 | .i4 xs => vK xs y w
 | .lst xs => vK xs y w
 | .fM xs => vK xs y w
 | .str z => atS z y w
 | .ref r => (match w[r]? with
  | some (.lst xs) => vK xs y w
  | some o => (match gL o y with
   | some (some d) => .ok d w
   | _ => .bad)
  | none => .bad)
 | _ => .bad
theorem y6 {X : Cx} (hu : X.A.units + 1 < cLine) : IxR X (fun x y H Q => ∃ a v, x = .ref a ∧ DGet H a y (some v) ∧ Q v H) := by
 intro value slice pins s σ H x y ov iv Q J rx ry h hs
 obtain ⟨a, v, ex, g, q⟩ := h
 subst ex
 cases rx
 have hT : s.TypeIs (.ref a) "dict" := dict_typeIs J g
 unfold subscriptTail
 apply wpAny_bind
 rw [getitemInPython_of_ne hT.not_modules]
 apply wpAny_bind
 apply wpAny_specialOf hT PySem.F.slot_dict_getitem.lookup
 have fin : wpAny (model X.prog X.w) X.A (subscripted slice false (.ref a) iv) (fun r s₃ => wpAny (model X.prog X.w) X.A (letTemporaryGo value (.ref a) r >>= fun _ => pure r) (EP X pins σ Q) X.xe s₃) X.xe s := by
  rw [hs]
  apply wpAny_operating
  exact d_getItem hu J g ry fun w' s3 J3 rw' => wpAny_bind (wpAny_letTemporaryGo (wpAny_pure ⟨v, H, J3, rw', q⟩))
 first
  | exact wpAny_pure (wpAny_bind fin)
  | exact wpAny_bind (wpAny_pure (wpAny_bind fin))
  | exact wpAny_bind fin
theorem zT {K : PySem.W.Frag} {I : List Addr} {F G H : Hp} {w : W} (rel : Rel K I F G w H) {i : Nat} {a : Addr} {o : MO} {y : D} {v : V} {r : Option D} (hi : I[i]? = some a) (ho : w[i]? = some o) (ry : aF K I F y v) (e : gL o y = some r) :
  ∃ q, DGet H a v q ∧ rC K I F r q := by
 obtain ⟨u, hu, ro⟩ := rel.ob i a o hi ho
 cases o with
 | lst => simp [gL] at e
 | ins => simp [gL] at e
 | dK kvs =>
  obtain ⟨t, rfl, rk⟩ := ro
  simp only [gL, ab] at e
  obtain ⟨k, ek, rfl⟩ := e
  exact ⟨valV t k, .inl ⟨t, k, .inl hu, i3 ry ek, rfl⟩, rk.look k⟩
 | dF kvs =>
  obtain ⟨ob, t, rfl, rk⟩ := ro
  simp only [gL, ab] at e
  obtain ⟨k, ek, rfl⟩ := e
  exact ⟨valV t k, .inl ⟨t, k, .inr ⟨ob, hu⟩, i3 ry ek, rfl⟩, rk.look k⟩
 | dT kvs =>
  obtain ⟨t, rfl, rk⟩ := ro
  cases y <;> simp only [gL, ab, reduceCtorEq] at e
  obtain ⟨k, ek, rfl⟩ := e
  simp only [aF] at ry
  obtain ⟨b, us, rfl, hb, rl⟩ := ry
  obtain rfl := hC rl ek
  exact ⟨valV t k, .inr ⟨t, k, b, .inl hu, rfl, rel.fz _ _ hb, rfl⟩, rk.look k⟩
 | dG kvs =>
  obtain ⟨ob, t, rfl, rk⟩ := ro
  cases y <;> simp only [gL, ab, reduceCtorEq] at e
  obtain ⟨k, ek, rfl⟩ := e
  simp only [aF] at ry
  obtain ⟨b, us, rfl, hb, rl⟩ := ry
  obtain rfl := hC rl ek
  exact ⟨valV t k, .inr ⟨t, k, b, .inr ⟨ob, hu⟩, rfl, rel.fz _ _ hb, rfl⟩, rk.look k⟩
def BG (S : aV) (f : D → D → W → Res D) : Prop := ∀ X E, Ctx S X → hH X E → IxR X (BM X.K E f)
section
variable {S : aV} {pos : Pos} {a b : Expr} {ma mb : ME}
theorem wF {f : D → D → W → Res D}
  (h : ∀ (X : Cx) (E : XK), Ctx S X → hH X E → ∀ (I : List Addr) (F G : Hp) (d e : D) (w : W) (H : Hp) (x y : V) (Q : VK), Rel X.K I F G w H → aF X.K I F d x → aF X.K I F e y → aS X.K I F G E (RV X.K Q) (f d e w) →
   ∃ r : R2, IxR X r ∧ r x y H Q) : BG S f := fun X E c xo value slice pins s σ H x y v u Q J rx ry ⟨I, F, G, d, e, w, rel, rd, re, p⟩ hs => by
 obtain ⟨r, ho, hr⟩ := h X E c xo I F G d e w H x y Q rel rd re p
 exact ho value slice pins s σ H x y v u Q J rx ry hr hs
theorem lL {X : Cx} {E : XK} {I : List Addr} {F G : Hp} {e : D} {w : W} {H : Hp} {x y : V} {Q : VK} (rel : Rel X.K I F G w H) (re : aF X.K I F e y) {xs : List D} {vs : List V} {q : Addr} (h1 : SqL X.K H q vs ∨ SqT X.K H q vs) (h2 : RepL X.K I F xs vs) (ex : x = .ref q)
  (p : aS X.K I F G E (RV X.K Q) (vK xs e w)) : ∃ r : R2, IxR X r ∧ r x y H Q := by
 cases e <;> first | exact p.elim | skip
 rename_i i
 simp only [aF] at re
 simp only [vK] at p
 cases ha : atI xs i with
 | none => rw [ha] at p; exact p.elim
 | some d =>
  rw [ha] at p
  obtain ⟨v, hv, rv⟩ := h2.at' ha
  rcases h1 with h1 | h1
  ·exact ⟨_, ix_list, q, vs, i, v, ex, re, h1, hv, p.nR rel rv⟩
  ·exact ⟨_, ix_tup, q, vs, i, v, ex, re, h1, hv, p.nR rel rv⟩
theorem EZ : BG S aL := wF fun X E c xo I F G d e w H x y Q rel rd re p => by
 cases d <;> first | exact p.elim | skip
 case str z =>
  cases e <;> first | exact p.elim | skip
  rename_i i
  simp only [aF] at rd re
  simp only [aL, atS] at p
  split at p
  ·rename_i hz
   split at p
   ·rename_i c hc
    exact ⟨_, ix_str, z, i, c, rd, re, hz, hc, p.nR rel (by simp [aF])⟩
   ·exact p.elim
  ·exact p.elim
 case tup xs =>
  simp only [aF] at rd
  obtain ⟨q, vs, ex, h1, h2⟩ := rd
  exact lL rel re (.inr (.of (rel.fz _ _ h1))) h2 ex p
 case i4 xs =>
  simp only [aF] at rd
  obtain ⟨q, vs, ex, h1, h2⟩ := rd
  exact lL rel re (.inr (rel.y5 h1)) h2 ex p
 case lst xs =>
  simp only [aF] at rd
  obtain ⟨q, vs, ex, h1, h2⟩ := rd
  exact lL rel re (.inl (.of (rel.fz _ _ h1))) h2 ex p
 case fM xs =>
  simp only [aF] at rd
  obtain ⟨q, vs, ex, h1, h2⟩ := rd
  exact lL rel re (.inl (rel.yL h1)) h2 ex p
 case ref i =>
  simp only [aF] at rd
  obtain ⟨q, ex, h1⟩ := rd
  simp only [aL] at p
  split at p
  ·rename_i xs hw
   obtain ⟨u, hu, vs, rfl, h2⟩ := rel.ob i q _ h1 hw
   exact lL rel re (.inl (.of hu)) h2 ex p
  ·rename_i o hn hw
   split at p
   ·rename_i d hd
    obtain ⟨r, hr, u, rfl, ru⟩ := zT rel h1 hw re hd
    exact ⟨_, y6 (by have := c.room.units; omega), q, u, ex, hr, p.nR rel ru⟩
   ·exact p.elim
  ·exact p.elim
theorem eM (ha : JE S a ma) (hb : JE S b mb) (hs : PlainIx b := by intro _ _; rfl) : JE S (.Subscript a b pos) (aC aL ma mb) := fun X E c xo =>
 bP (pe_ix (EZ X E c xo) (ha X E c xo) (hb X E c xo) hs) fun _ _ _ h => kN h
end
abbrev BI := Sg → W → Res (Option Int)
def cU : BI := fun _ w => .ok none w
def cE (m : ME) : BI := fun σ w => (m σ w).bind fun d w1 => match d with
 | .int i => .ok (some i) w1
 | _ => .bad
def RO (Q : Option Int → Hp → Prop) : List Addr → Hp → Hp → Option Int → W → Prop := fun _ _ H' o _ => Q o H'
def GU (K : PySem.W.Frag) (E : XK) (m : BI) : TO := fun σ H Q => ∃ I F G ds w, Rel K I F G w H ∧ cI K I F ds σ ∧ aS K I F G E (RO Q) (m ds w)
def JO (S : aV) (e : Option Expr) (m : BI) : Prop := ∀ X E, Ctx S X → hH X E → PO X e (GU X.K E m)
def cutD (xs : List D) (lo hi : Option Int) : List D := (xs.drop (HT.sIx xs.length 0 lo)).take (HT.sIx xs.length xs.length hi - HT.sIx xs.length 0 lo)
def j0 (x : D) (lo hi : Option Int) (w : W) : Res D := match x with
 | .tup xs => .ok (.tup (cutD xs lo hi)) w
 | .str z => if z.length ≤ sizeLine then .ok (.str (cutS z lo hi)) w else .bad
 | .lst xs => .ok (.lst (cutD xs lo hi)) w
 | .fM xs => .ok (.lst (cutD xs lo hi)) w
 | .ref i => (match w[i]? with
  | some (.lst xs) => .ok (.lst (cutD xs lo hi)) w
  | _ => .bad)
 | _ => .bad
def kL (f : D → Option Int → Option Int → W → Res D) (a : ME) (lo hi : BI) : ME := fun σ w => (a σ w).bind fun x w1 => (lo σ w1).bind fun l w2 => (hi σ w2).bind fun u w3 => f x l u w3
theorem RepL.cutV {K : PySem.W.Frag} {I : List Addr} {F : Hp} {ds : List D} {vs : List V} (r : RepL K I F ds vs) (lo hi : Option Int) : RepL K I F (cutD ds lo hi) (L2.cutV vs lo hi) := by
 unfold cutD L2.cutV
 rw [← r.length]
 exact (r.drop _).take _
theorem uI {xs : List D} {lo hi : Option Int} (h : HT.sIx xs.length 0 lo = 0 ∧ HT.sIx xs.length xs.length hi = xs.length) : cutD xs lo hi = xs := by
 unfold cutD
 rw [h.1, h.2]
 simp
def HJ (S : aV) (f : D → Option Int → Option Int → W → Res D) : Prop := ∀ X E, Ctx S X → hH X E → ∀ (I : List Addr) (F G : Hp) (d : D) (w : W) (H : Hp) (x : V) (lo hi : Option Int) (Q : VK), Rel X.K I F G w H → aF X.K I F d x → aS X.K I F G E (RV X.K Q) (f d lo hi w) →
   ∃ r, SlR X r ∧ r x lo hi H Q
def EC (K : PySem.W.Frag) (E : XK) (f : D → Option Int → Option Int → W → Res D) : V → Option Int → Option Int → Hp → VK → Prop := fun x lo hi H Q => ∃ I F G d w, Rel K I F G w H ∧ aF K I F d x ∧ aS K I F G E (RV K Q) (f d lo hi w)
section
variable {S : aV} {pos p2 : Pos} {a e : Expr} {ma m : ME} {lo hi : Option Expr} {ml mh : BI} {f : D → Option Int → Option Int → W → Res D}
theorem z7 : JO S none cU := fun X E c xo => ⟨fun pins s σ H Q J ⟨I, F, G, ds, w, rel, rs, p⟩ => po_none.run pins s σ H Q J (p I F H .refl rel)⟩
theorem z8 (h : JE S e m) : JO S (some e) (cE m) := fun X E c xo => ⟨fun pins s σ H Q J ⟨I, F, G, ds, w, rel, rs, p⟩ => (po_some (h X E c xo)).run pins s σ H Q J
 (a7 (f := fun _ d w1 => match d with
  | .int i => Res.ok (some i) w1
  | _ => .bad) rel rs p fun I1 F1 H1 x w1 v e1 rel1 rs1 rv p1 => by
  cases x <;> first | exact p1.elim | skip
  simp only [aF] at rv
  exact ⟨_, rv, p1 I1 F1 H1 .refl rel1⟩)⟩
theorem D3 : HJ S j0 := fun X E c xo I F G d w H x lo hi Q rel rd p => by
 cases d <;> first | exact p.elim | skip
 case tup xs =>
  simp only [aF] at rd
  obtain ⟨q, vs, ex, h1, h2⟩ := rd
  refine ⟨_, sl_tupA, q, vs, ex, .of (rel.fz _ _ h1), fun hw => ?_, fun hw => ?_⟩
  ·rw [← h2.length] at hw
   refine p.nR rel ?_
   rw [uI hw]
   simp only [aF]
   exact ⟨q, vs, ex ▸ rfl, h1, h2⟩
  ·exact oI rel (h2.cutV lo hi) p
 case str z =>
  simp only [aF] at rd
  simp only [j0] at p
  split at p
  ·rename_i hz
   exact ⟨_, sl_str, z, rd, hz, p.nR rel (by simp [aF])⟩
  ·exact p.elim
 case lst xs =>
  simp only [aF] at rd
  obtain ⟨q, vs, ex, h1, h2⟩ := rd
  exact ⟨_, sl_list, q, vs, ex, .of (rel.fz _ _ h1), fB rel (h2.cutV lo hi) p⟩
 case fM xs =>
  simp only [aF] at rd
  obtain ⟨q, vs, ex, h1, h2⟩ := rd
  exact ⟨_, sl_list, q, vs, ex, rel.yL h1, fB rel (h2.cutV lo hi) p⟩
 case ref i =>
  simp only [aF] at rd
  obtain ⟨q, ex, h1⟩ := rd
  simp only [j0] at p
  split at p
  ·rename_i xs hw
   obtain ⟨u, hu, vs, rfl, h2⟩ := rel.ob i q _ h1 hw
   exact ⟨_, sl_list, q, vs, ex, .of hu, fB rel (h2.cutV lo hi) p⟩
  ·exact p.elim
theorem EO (hf : HJ S f) (ha : JE S a ma) (hl : JO S lo ml) (hh : JO S hi mh) : JE S (.Subscript a (.Slice lo hi none p2) pos) (kL f ma ml mh) := fun X E c xo => by
 have hr : SlR X (EC X.K E f) := fun pins s σ H x v vl vu l u sl Q J rx hs pl pu ⟨I, F, G, d, w, rel, rd, p⟩ => by
  obtain ⟨r, h1, h2⟩ := hf X E c xo I F G d w H x l u Q rel rd p
  exact h1 pins s σ H x v vl vu l u sl Q J rx hs pl pu h2
 refine bP (pe_slice hr (ha X E c xo) (hl X E c xo) (hh X E c xo)) fun σ H Q ⟨I, F, G, ds, w, rel, rs, p⟩ => ?_
 refine a7 (f := fun ds x w1 => (ml ds w1).bind fun l w2 => (mh ds w2).bind fun u w3 => f x l u w3) rel rs p fun I1 F1 H1 x w1 v e1 rel1 rs1 rv p1 => ?_
 refine ⟨I1, F1, G, ds, w1, rel1, rs1, (aS.bind p1).mono fun I2 F2 H2 l w2 _ e2 rel2 p2 => ?_⟩
 refine ⟨I2, F2, G, ds, w2, rel2, rs1.ext e2, (aS.bind p2).mono fun I3 F3 H3 u w3 _ e3 rel3 p3 => ?_⟩
 exact ⟨I3, F3, G, x, w3, rel3, aF.ext (e2.trans e3) _ _ rv, p3⟩
end
def setM (o i d : D) (w : W) : Res Unit := match o with
 | .ref r => (match w[r]? with
  | some (.lst xs) => (match i with
   | .int k => (match ixN xs.length k with
    | some j => .ok () (w.set r (.lst (xs.set j d)))
    | none => .bad)
   | _ => .bad)
  | some (.dK kvs) => (match keyD i with
   | some k => if kvs.length < sizeLine then .ok () (w.set r (.dK (putD kvs k d))) else .bad
   | none => .bad)
  | some (.dT kvs) => (match i with
   | .tup ys => (match iN ys with
    | some k => if kvs.length < sizeLine then .ok () (w.set r (.dT (putD kvs k d))) else .bad
    | none => .bad)
   | _ => .bad)
  | _ => .bad)
 | _ => .bad
def bK (mo mi : ME) : MG := fun d σ w => (mo σ w).bind fun o w1 => (mi σ w1).bind fun i w2 => (setM o i d w2).bind fun _ w3 => .ok σ w3
def CY (K : PySem.W.Frag) (E : XK) : TSet := fun o i v H Q => ∃ I F G x y d w, Rel K I F G w H ∧ aF K I F x o ∧ aF K I F y i ∧ aF K I F d v ∧ aS K I F G E (fun _ _ H' _ _ => Q H') (setM x y d w)
theorem BZ {X : Cx} {E : XK} (hu : X.A.units + 1 < cLine) : PSet X (CY X.K E) := by
 intro pins s σ H o i v ov iv u Q J ro ri rv ⟨I, F, G, x, y, d, w, rel, rx, ry, rd, p⟩
 cases x <;> first | exact p.elim | skip
 rename_i r
 simp only [aF] at rx
 obtain ⟨a, rfl, h1⟩ := rx
 simp only [setM] at p
 split at p
 ·rename_i xs hw
  obtain ⟨t, hu', vs, rfl, h2⟩ := rel.ob r a _ h1 hw
  cases y <;> first | exact p.elim | skip
  rename_i k
  simp only [aF] at ry
  subst ry
  dsimp only at p
  split at p
  ·rename_i j hj
   exact set_list pins s σ H _ _ v ov iv u Q J ro ri rv ⟨a, vs, k, j, rfl, rfl, hu', by rw [← h2.length]; exact hj, p I F _ .refl (rel.upd h1 hw ⟨_, rfl, h2.set j rd⟩)⟩
  ·exact p.elim
 ·rename_i kvs hw
  obtain ⟨t, hu', vs, rfl, h2⟩ := rel.ob r a _ h1 hw
  split at p
  ·rename_i k hk
   split at p
   ·rename_i hl
    obtain rfl := i3 ry hk
    cases ro
    exact d_setItem hu J (.inl ⟨vs, k, hu', rfl, by rw [← h2.length]; exact hl, rfl⟩) ri rv fun s' J' => ⟨_, J', p I F _ .refl (rel.upd h1 hw ⟨_, rfl, h2.put k rd⟩)⟩
   ·exact p.elim
  ·exact p.elim
 ·rename_i kvs hw
  obtain ⟨t, hu', vs, rfl, h2⟩ := rel.ob r a _ h1 hw
  cases y <;> first | exact p.elim | skip
  rename_i ys
  dsimp only at p
  split at p
  ·rename_i k hk
   split at p
   ·rename_i hl
    simp only [aF] at ry
    obtain ⟨b, us, rfl, hb, rl⟩ := ry
    obtain rfl := hC rl hk
    cases ro
    exact d_setItem hu J (.inr ⟨vs, k, b, hu', rfl, rel.fz _ _ hb, by rw [← h2.length]; exact hl, rfl⟩) ri rv fun s' J' => ⟨_, J', p I F _ .refl (rel.upd h1 hw ⟨_, rfl, h2.put k rd⟩)⟩
   ·exact p.elim
  ·exact p.elim
 ·exact p.elim
section
variable {S : aV} {pos : Pos} {o i : Expr} {mo mi : ME}
theorem CL (ho : JE S o mo) (hi : JE S i mi)
  (ha : ∀ (env : Env) v, assign (.Subscript o i pos) env v = (do
   let ov ← holding [v] (eval o env)
   let iv ← holding [v, ov] (eval i env)
   standAt pos
   holding [v, ov, iv] (setItem ov iv v)
   release [v, ov, iv] []) := by intro _ _; rfl) : JG S (.Subscript o i pos) (bK mo mi) := fun X E c xo =>
 kH (pg_sub (ho X E c xo) (hi X E c xo) (BZ (E := E) (by have := c.room.units; omega)) (ha X.env)) fun v σ H Q ⟨I, F, G, d, ds, w, rel, rs, rv, p⟩ => by
  refine a7 (f := fun ds x w1 => (mi ds w1).bind fun y w2 => (setM x y d w2).bind fun _ w3 => Res.ok ds w3) rel rs p fun I1 F1 H1 x w1 u e1 rel1 rs1 ru p1 => ?_
  refine a7 (f := fun ds y w2 => (setM x y d w2).bind fun _ w3 => Res.ok ds w3) rel1 rs1 p1 fun I2 F2 H2 y w2 t e2 rel2 rs2 rt p2 => ?_
  exact ⟨I2, F2, G, x, y, d, w2, rel2, aF.ext e2 _ _ ru, rt, aF.ext (e1.trans e2) _ _ rv, (aS.bind p2).mono fun I3 F3 H3 z w3 _ e3 rel3 p3 => p3 I3 F3 H3 .refl rel3 σ (rs2.ext e3)⟩
end
def FW (K : PySem.W.Frag) (E : XK) (m : MF) : List V → Hp → VK → Prop := fun vs H Q => ∃ I F G ds w, Rel K I F G w H ∧ RepL K I F ds vs ∧ aS K I F G E (RV K Q) (m ds w)
def CB (S : aV) (f : Value) (m : MF) : Prop := ∀ X E, Ctx S X → hH X E → CallR X f (FW X.K E m)
def aO (m : MF) (ma : MA) : ME := fun σ w => (ma σ w).bind fun xs w1 => m xs w1
section
variable {S : aV} {m : MF} {x : Str} {p pos : Pos} {e : Expr} {es : List Expr} {ma : MA} {f : Value}
theorem vM (h : ∀ (X : Cx) (E : XK), Ctx S X → hH X E → ∀ (I : List Addr) (F G : Hp) (ds : List D) (w : W) (H : Hp) (vs : List V) (Q : VK), Rel X.K I F G w H → RepL X.K I F ds vs → aS X.K I F G E (RV X.K Q) (m ds w) → ∃ r, CallR X f r ∧ r vs H Q) : CB S f m :=
 fun X E c xo pins s σ H vs us Q J r ⟨I, F, G, ds, w, rel, rl, p⟩ => by
  obtain ⟨r', h1, h2⟩ := h X E c xo I F G ds w H vs Q rel rl p
  exact h1 pins s σ H vs us Q J r h2
theorem tI {K : PySem.W.Frag} {E : XK} {σ : L2.St} {H : Hp} {Q : VK} (h : mO K E (aO m ma) σ H Q) : tCB (FW K E m) (zE K E ma) σ H Q := by
 obtain ⟨I, F, G, ds, w, rel, rs, p⟩ := h
 exact b5 (f := fun _ xs w1 => m xs w1) rel rs p fun I1 F1 H1 xs w1 vs e1 rel1 rs1 rvs p1 => ⟨I1, F1, G, xs, w1, rel1, rvs, p1⟩
theorem eI {id : String} (hc : CB S (.builtin id) m) (hg : S.sc.names.lookup x = some .globalImplicit) (hm : S.mg x = none) (hv : bootBuiltins x = some (.builtin id)) (ha : JA S (e :: es) ma) (hn : x ≠ "__name__" := by decide) (hdb : (x == ("__debug__" : Str)) = false := by decide)
  (he : ∀ env : Env, starEach (e :: es) env = (false, eval e env) :: starEach es env := by intro _; rfl) (hpl : ∀ env : Env, (backTo pos (starEach es env)).any (·.1) = false := by intro _; rfl) : JE S (.Call (.Name x p) (e :: es) [] pos) (aO m ma) := fun X E c xo =>
 bP (pe_callB (hc X E c xo) (by show X.env.scope.names.lookup x = _; rw [c.sc]; exact hg) (by rw [c.mg]; exact hm) hv (ha X E c xo) hn hdb (he X.env) (hpl X.env)) fun _ _ _ h => tI h
theorem vU {id : String} (hc : CB S (.type id) m) (hg : S.sc.names.lookup x = some .globalImplicit) (hm : S.mg x = none) (hv : bootBuiltins x = some (.type id)) (ha : JA S (e :: es) ma) (hn : x ≠ "__name__" := by decide) (hdb : (x == ("__debug__" : Str)) = false := by decide)
  (he : ∀ env : Env, starEach (e :: es) env = (false, eval e env) :: starEach es env := by intro _; rfl) (hpl : ∀ env : Env, (backTo pos (starEach es env)).any (·.1) = false := by intro _; rfl) : JE S (.Call (.Name x p) (e :: es) [] pos) (aO m ma) := fun X E c xo =>
 bP (pe_callTy (hc X E c xo) (by show X.env.scope.names.lookup x = _; rw [c.sc]; exact hg) (by rw [c.mg]; exact hm) hv (ha X E c xo) hn hdb (he X.env) (hpl X.env)) fun _ _ _ h => tI h
end
theorem RepL.one {K : PySem.W.Frag} {I : List Addr} {F : Hp} {d : D} {vs : List V} (h : RepL K I F [d] vs) : ∃ v, vs = [v] ∧ aF K I F d v := by
 simp only [RepL] at h
 obtain ⟨v, r, rfl, h1, rfl⟩ := h
 exact ⟨v, rfl, h1⟩
theorem RepL.two {K : PySem.W.Frag} {I : List Addr} {F : Hp} {d e : D} {vs : List V} (h : RepL K I F [d, e] vs) : ∃ v u, vs = [v, u] ∧ aF K I F d v ∧ aF K I F e u := by
 simp only [RepL] at h
 obtain ⟨v, r, rfl, h1, u, r2, rfl, h2, rfl⟩ := h
 exact ⟨v, u, rfl, h1, h2⟩
theorem qY {K : PySem.W.Frag} {I : List Addr} {F G H : Hp} {w : W} (rel : Rel K I F G w H) {d : D} {v : V} {xs : List D} (h : aF K I F d v) (e : d.items w = some xs) : ∃ a vs, v = .ref a ∧ (SqL K H a vs ∨ SqT K H a vs) ∧ RepL K I F xs vs := by
 cases d <;> simp only [D.items, aa, reduceCtorEq] at e <;> simp only [aF] at h
 case tup => subst e; obtain ⟨a, vs, h0, h1, h2⟩ := h; exact ⟨a, vs, h0, .inr (.of (rel.fz _ _ h1)), h2⟩
 case i4 => subst e; obtain ⟨a, vs, h0, h1, h2⟩ := h; exact ⟨a, vs, h0, .inr (rel.y5 h1), h2⟩
 case lst => subst e; obtain ⟨a, vs, h0, h1, h2⟩ := h; exact ⟨a, vs, h0, .inl (.of (rel.fz _ _ h1)), h2⟩
 case fM => subst e; obtain ⟨a, vs, h0, h1, h2⟩ := h; exact ⟨a, vs, h0, .inl (rel.yL h1), h2⟩
 case ref i =>
  split at e
  ·rename_i ys hw
   cases e
   obtain ⟨a, h0, h1⟩ := h
   obtain ⟨u, hu, vs, rfl, h2⟩ := rel.ob i a _ h1 hw
   exact ⟨a, vs, h0, .inl (.of hu), h2⟩
  ·cases e
def lI (d : D) (w : W) : Option Nat := match d with
 | .str z => if z.length ≤ sizeLine then some z.length else none
 | .ref i => (match w[i]? with
  | some (.lst xs) => some xs.length
  | some (.dK kvs) => some kvs.length
  | _ => none)
 | d => (d.items w).map List.length
def cF : MF := fun ds w => match ds with
 | [d] => (match lI d w with
  | some n => .ok (.int n) w
  | none => .bad)
 | _ => .bad
def eO : List D → Option (List Int)
 | [] => some []
 | .int i :: r => (eO r).map (i :: ·)
 | _ :: _ => none
theorem g5 {K : PySem.W.Frag} {I : List Addr} {F : Hp} : ∀ {ds : List D} {vs : List V} {ns : List Int}, RepL K I F ds vs → eO ds = some ns → vs = ns.map V.int
 | [], vs, ns, h, e => by simp only [eO, aa] at e; subst e; simp only [RepL] at h; exact h
 | d :: ds, vs, ns, h, e => by
  cases d <;> simp only [eO, ab, reduceCtorEq] at e
  obtain ⟨r, e1, rfl⟩ := e
  simp only [RepL, aF] at h
  obtain ⟨v, t, rfl, rfl, h2⟩ := h
  rw [g5 h2 e1]
  rfl
def hX (d : D) (w : W) : Option (List D) := match d with
 | .lst xs => some xs
 | .fM xs => some xs
 | .ref i => (match w[i]? with
  | some (.lst xs) => some xs
  | _ => none)
 | _ => none
def oH (d : D) : Option (List D) := match d with
 | .tup xs => some xs
 | .i4 xs => some xs
 | _ => none
theorem tU {K : PySem.W.Frag} {I : List Addr} {F G H : Hp} {w : W} (rel : Rel K I F G w H) {d : D} {v : V} {xs : List D} (h : aF K I F d v) (e : hX d w = some xs) : ∃ a vs, v = .ref a ∧ SqL K H a vs ∧ RepL K I F xs vs := by
 cases d <;> simp only [hX, aa, reduceCtorEq] at e <;> simp only [aF] at h
 case lst => subst e; obtain ⟨a, vs, h0, h1, h2⟩ := h; exact ⟨a, vs, h0, .of (rel.fz _ _ h1), h2⟩
 case fM => subst e; obtain ⟨a, vs, h0, h1, h2⟩ := h; exact ⟨a, vs, h0, rel.yL h1, h2⟩
 case ref i =>
  split at e
  ·rename_i ys hw
   cases e
   obtain ⟨a, h0, h1⟩ := h
   obtain ⟨u, hu, vs, rfl, h2⟩ := rel.ob i a _ h1 hw
   exact ⟨a, vs, h0, .of hu, h2⟩
  ·cases e
theorem vX {K : PySem.W.Frag} {I : List Addr} {F G H : Hp} {w : W} (rel : Rel K I F G w H) {d : D} {v : V} {xs : List D} (h : aF K I F d v) (e : oH d = some xs) : ∃ a vs, v = .ref a ∧ SqT K H a vs ∧ RepL K I F xs vs := by
 cases d <;> simp only [oH, aa, reduceCtorEq] at e <;> simp only [aF] at h
 case tup => subst e; obtain ⟨a, vs, h0, h1, h2⟩ := h; exact ⟨a, vs, h0, .of (rel.fz _ _ h1), h2⟩
 case i4 => subst e; obtain ⟨a, vs, h0, h1, h2⟩ := h; exact ⟨a, vs, h0, rel.y5 h1, h2⟩
def pB : MF := fun ds w => match ds with
 | [d] => (match (hX d w).bind eO with
  | some ns => .ok (.int ns.sum) w
  | none => .bad)
 | _ => .bad
def lB : MF := fun ds w => match ds with
 | [d] => (match d.items w with
  | some xs => .ok (.lst xs) w
  | none => .bad)
 | _ => .bad
def AO : MF := fun ds w => match ds with
 | [d] => (match d.items w with
  | some xs => .ok (.ref w.length) (w ++ [.lst xs])
  | none => .bad)
 | _ => .bad
def cH : MF := fun ds w => match ds with
 | [.tup xs] => .ok (.tup xs) w
 | [d] => (match hX d w with
  | some xs => .ok (.tup xs) w
  | none => .bad)
 | _ => .bad
def k7 (d : D) (w : W) : Option Str := match d.py w with
 | some p => if p.showable = true ∧ p.hasDict = false ∧ p.depth ≤ 60 ∧ p.shown.length ≤ sizeLine then some p.shown else none
 | none => none
def hV : MF := fun ds w => match ds with
 | [d] => (match k7 d w with
  | some z => .ok (.str z) w
  | none => .bad)
 | _ => .bad
def uK : MF := fun ds w => match ds with
 | [.int i] => .ok (.int i) w
 | [.bl b] => .ok (.int (if b then 1 else 0)) w
 | _ => .bad
def max2 : MF := fun ds w => match ds with
 | [.int i, .int j] => .ok (.int (if j > i then j else i)) w
 | _ => .bad
def min2 : MF := fun ds w => match ds with
 | [.int i, .int j] => .ok (.int (if j < i then j else i)) w
 | _ => .bad
section
variable {S : aV}
theorem nC : CB S (.builtin "len") cF := vM fun X E c xo I F G ds w H vs Q rel rl p => by
 unfold cF at p
 split at p
 ·rename_i d
  obtain ⟨v, rfl, rv⟩ := rl.one
  split at p
  ·rename_i n hn
   have go : ∀ {xs : List D}, d.items w = some xs → n = xs.length → ∃ r, CallR X (.builtin "len") r ∧ r [v] H Q := fun {xs} h1 h2 => by
    obtain ⟨a, us, rfl, hq, hr⟩ := qY rel rv h1
    refine ⟨_, call_len, .ref a, n, rfl, ?_, p.nR rel (by simp [aF])⟩
    rw [h2, hr.length]
    rcases hq with hq | hq
    ·exact .inl ⟨us, hq, rfl⟩
    ·exact .inr ⟨us, hq, rfl⟩
   cases d <;> simp only [lI, D.items, Option.map_some, Option.map_none, aa, reduceCtorEq] at hn
   case str z =>
    split at hn
    ·rename_i hz
     cases hn
     simp only [aF] at rv
     subst rv
     exact ⟨_, call_len, .str z, z.length, rfl, ⟨hz, rfl⟩, p.nR rel (by simp [aF])⟩
    ·cases hn
   case tup => exact go (by simp [D.items]) hn.symm
   case i4 => exact go (by simp [D.items]) hn.symm
   case lst => exact go (by simp [D.items]) hn.symm
   case fM => exact go (by simp [D.items]) hn.symm
   case ref i =>
    split at hn
    ·rename_i xs hw
     exact go (by simp [D.items, hw]) (Option.some.inj hn).symm
    ·rename_i kvs hw
     cases hn
     simp only [aF] at rv
     obtain ⟨a, rfl, h1⟩ := rv
     obtain ⟨u, hu, us, rfl, h2⟩ := rel.ob i a _ h1 hw
     exact ⟨_, call_lenD, a, us, rfl, hu, p.nR rel (by simp [aF, h2.length])⟩
    ·cases hn
  ·exact p.elim
 ·exact p.elim
theorem CP : CB S (.builtin "sum") pB := vM fun X E c xo I F G ds w H vs Q rel rl p => by
 unfold pB at p
 split at p
 ·rename_i d
  obtain ⟨v, rfl, rv⟩ := rl.one
  split at p
  ·rename_i ns hn
   obtain ⟨xs, h1, h2⟩ := Option.bind_eq_some_iff.mp hn
   obtain ⟨a, us, rfl, hq, hr⟩ := tU rel rv h1
   obtain rfl := g5 hr h2
   exact ⟨_, cr_sum c.calm, a, ns, rfl, hq, p.nR rel (by simp [aF])⟩
  ·exact p.elim
 ·exact p.elim
theorem zV : CB S (.type "list") lB := vM fun X E c xo I F G ds w H vs Q rel rl p => by
 unfold lB at p
 split at p
 ·rename_i d
  obtain ⟨v, rfl, rv⟩ := rl.one
  split at p
  ·rename_i xs hn
   obtain ⟨a, us, rfl, hq, hr⟩ := qY rel rv hn
   exact ⟨_, call_list_of, a, us, rfl, hq, fB rel hr p⟩
  ·exact p.elim
 ·exact p.elim
theorem tZ : CB S (.builtin "repr") hV := fun X E c xo pins s σ H vs us Q J r ⟨I, F, G, ds, w, rel, rl, p⟩ => by
 unfold hV at p
 split at p
 ·rename_i d
  obtain ⟨v, rfl, rv⟩ := rl.one
  obtain ⟨u, rfl, ru⟩ := vals1 r
  split at p
  ·rename_i z hz
   unfold k7 at hz
   split at hz
   ·rename_i q hq
    split at hz
    ·rename_i hc
     cases hz
     obtain ⟨c1, c2, c3, c4⟩ := hc
     obtain ⟨as, rd⟩ := Dp.reads J q v u (q9 rel rv hq) ru
     have fin : ∀ (h' : Heap) (t tk : Nat), (∀ b o, s.heap.get? b = some o → h'.get? b = some o) → EP X pins σ Q (.str q.shown t) { s with heap := h', toks := tk } := fun h' t tk hk => ⟨.str q.shown, H, J.kept hk, ⟨_, rfl⟩, p.nR rel (by simp [aF])⟩
     cases u with
     | ref a => exact repr_of_reads' rd c1 (fun z => by rw [c2] at z; cases z) c.F9 (by have := c.room.units; omega) (fun _ _ h => h) (fun h' t tk hk => fin h' t tk hk) c4
     | none => cases rd; exact PySem.P.repr_of_none (by have := fin s.heap s.toks (s.toks + 1) fun _ _ h => h; simpa [PyData.shown] using this)
     | bool b => cases rd; exact PySem.P.repr_of_bool (by have := fin s.heap s.toks (s.toks + 1) fun _ _ h => h; simpa [PyData.shown] using this)
     | int i t => cases rd; exact PySem.P.repr_of_int (by simpa [PyData.showable] using c1) (by have := fin s.heap s.toks (s.toks + 1) fun _ _ h => h; simpa [PyData.shown] using this)
     | str x t => cases rd; exact PySem.P.repr_of_str (by have := fin s.heap s.toks (s.toks + 1) fun _ _ h => h; simpa [PyData.shown] using this) (by simpa [PyData.shown] using c4)
     | _ => cases rd
    ·cases hz
   ·cases hz
  ·exact p.elim
 ·exact p.elim
end
abbrev yS := D → List D → W → Res D
def GG (K : PySem.W.Frag) (E : XK) (m : yS) : V → List V → Hp → VK → Prop := fun x vs H Q => ∃ I F G d ds w, Rel K I F G w H ∧ aF K I F d x ∧ RepL K I F ds vs ∧ aS K I F G E (RV K Q) (m d ds w)
def MB (S : aV) (id : String) (m : yS) : Prop := ∀ X E, Ctx S X → hH X E → MtR X id (GG X.K E m)
def BH (d : D) (w : W) : Option String := match d with
 | .str _ => some "str"
 | .lst _ => some "list"
 | .fM _ => some "list"
 | .ref i => (match w[i]? with
  | some (.lst _) => some "list"
  | some (.dK _) => some "dict"
  | some (.dT _) => some "dict"
  | some (.dG _) => some "dict"
  | _ => none)
 | _ => none
def zW (K : PySem.W.Frag) (T : String) (x : V) (H : Hp) : Prop := tyV K T x H ∨ (T = "dict" ∧ ∃ p o kvs, x = .ref p ∧ H p = some (.frz o (.dT kvs)))
theorem t6 {X : Cx} {pins : List (Addr × Obj)} {σ : L2.St} {H : Hp} {s : Shared} {T : String} {x : V} {v : Value} (I : Inv X pins σ H s) (r : RelV x v) (ty : zW X.K T x H) :
  s.TypeIs v T ∧ ∀ a, v = .ref a → ∃ ob, s.heap.get? a = some ob ∧ ob.dict = none := by
 rcases ty with ty | ⟨rfl, p, o, kvs, rfl, hp⟩
 ·exact tyV_is I r ty
 ·cases r
  obtain ⟨_, hgd, ex, _⟩ := I.frzT hp
  exact ⟨⟨o, hgd, ex.1⟩, fun a e => by cases e; exact ⟨o, hgd, ex.2.1⟩⟩
def D2 (K : PySem.W.Frag) (T : String) (r : V → List V → Hp → VK → Prop) (to : TE) : TE := fun σ H Q => to σ H fun x H1 => zW K T x H1 ∧ r x [] H1 Q
def G2 (K : PySem.W.Frag) (T : String) (r : V → List V → Hp → VK → Prop) (to : TE) (t : TA) : TE := fun σ H Q => to σ H fun x H1 => zW K T x H1 ∧ t σ H1 fun xs H2 => r x xs H2 Q
section
variable {X : Cx} {o e : Expr} {es : List Expr} {to : TE} {t : TA} {name : Str} {apos cpos : Pos} {T id : String} {r : V → List V → Hp → VK → Prop}
theorem z5 (pa : PlainAttrs T) (slot : Slot T name id) (hty : typeOf (.builtin id) = pure (.type "method_descriptor")) (hm : MtR X id r) (ho : PE X o to)
  (hbase : attributeBase o name X.env (eval o X.env) = eval o X.env := by rfl) (hline : (apos.endLine == cpos.line) = true := by rfl) : PE X (.Call (.Attribute o name apos) [] [] cpos) (D2 X.K T r to) := by
 refine ⟨fun pins s σ H Q I h => ?_⟩
 refine wpAny_Call_method0_late hbase hline (thn (ho.run pins s σ H _ I h) fun v s1 ⟨x, H1, I1, r1, ty, q1⟩ => ?_)
 obtain ⟨h1, h2⟩ := t6 I1 r1 ty
 exact ⟨T, id, pa, slot, hty, h1, h2, Calls.callWith_builtin rfl (PySem.evalArgs_none (hm pins s1 σ H1 x [] v [] Q I1 r1 .nil q1))⟩
theorem BK (pa : PlainAttrs T) (slot : Slot T name id) (hty : typeOf (.builtin id) = pure (.type "method_descriptor")) (hm : MtR X id r) (ho : PE X o to) (ha : PA X (e :: es) t)
  (hbase : attributeBase o name X.env (eval o X.env) = eval o X.env := by rfl)
  (hfew : ((backTo cpos (starEach (e :: es) X.env)).all (fun x => !x.1) && (backToKw cpos (keywordEach [] X.env)).all (fun x => x.1.isSome)
   && decide ((e :: es).length + ([] : List Keyword).length + (if ([] : List Keyword).isEmpty then 0 else 1) < 30)) = true := by rfl)
  (hline : (apos.endLine == cpos.line) = true := by rfl) (hs : starEach (e :: es) X.env = (false, eval e X.env) :: starEach es X.env := by rfl) (hplain : (backTo cpos (starEach es X.env)).any (·.1) = false := by rfl) :
  PE X (.Call (.Attribute o name apos) (e :: es) [] cpos) (G2 X.K T r to t) := by
 refine ⟨fun pins s σ H Q I h => ?_⟩
 refine wpAny_Call_method_late hbase hfew hline rfl (thn (ho.run pins s σ H _ I h) fun v s1 ⟨x, H1, I1, r1, ty, q1⟩ => ?_)
 obtain ⟨h1, h2⟩ := t6 I1 r1 ty
 refine ⟨T, id, pa, slot, hty, h1, h2, ?_⟩
 have hA := ha.run cpos pins s1 σ H1 _ I1 q1
 rw [hs] at hA ⊢
 refine Calls.callWith_builtin (by show (false || (backTo cpos (starEach es X.env)).any (·.1)) = false; rw [hplain] <;> rfl) (Calls.evalArgs_plain ?_)
 exact thn hA fun us s2 ⟨vs, H2, I2, r2, q2⟩ => hm pins s2 σ H2 x vs v us Q I2 r1 r2 q2
end
theorem yC {K : PySem.W.Frag} {I : List Addr} {F G H : Hp} {w : W} (rel : Rel K I F G w H) {d : D} {v : V} (h : aF K I F d v) {T : String} (e : BH d w = some T) : zW K T v H := by
 cases d <;> simp only [BH, aa, reduceCtorEq] at e <;> simp only [aF] at h
 case str => subst h; exact .inl e.symm
 case lst => obtain ⟨a, vs, rfl, h1, h2⟩ := h; exact .inl (.inl ⟨e.symm, vs, .of (rel.fz _ _ h1)⟩)
 case fM => obtain ⟨a, vs, rfl, h1, h2⟩ := h; exact .inl (.inl ⟨e.symm, vs, rel.yL h1⟩)
 case ref i =>
  obtain ⟨a, rfl, h1⟩ := h
  split at e
  ·rename_i xs hw
   cases e
   obtain ⟨u, hu, vs, rfl, _⟩ := rel.ob i a _ h1 hw
   exact .inl (.inl ⟨rfl, vs, .of hu⟩)
  ·rename_i xs hw
   cases e
   obtain ⟨u, hu, vs, rfl, _⟩ := rel.ob i a _ h1 hw
   exact .inl (.inr (.inr (.inl ⟨rfl, .inl ⟨vs, hu⟩⟩)))
  ·rename_i xs hw
   cases e
   obtain ⟨u, hu, vs, rfl, _⟩ := rel.ob i a _ h1 hw
   exact .inl (.inr (.inr (.inl ⟨rfl, .inr ⟨vs, hu⟩⟩)))
  ·rename_i xs hw
   cases e
   obtain ⟨u, hu, ob, vs, rfl, _⟩ := rel.ob i a _ h1 hw
   exact .inr ⟨rfl, a, ob, vs, rfl, hu⟩
  ·cases e
def bF (T : String) (m : yS) (mo : ME) (ma : MA) : ME := fun σ w => (mo σ w).bind fun d w1 => if BH d w1 = some T then (ma σ w1).bind fun xs w2 => m d xs w2 else .bad
section
variable {S : aV} {m : yS} {o e : Expr} {es : List Expr} {mo : ME} {ma : MA} {name : Str} {apos cpos : Pos} {T id : String}
theorem y3 (pa : PlainAttrs T) (slot : Slot T name id) (hm : MB S id m) (ho : JE S o mo) (ha : JA S (e :: es) ma) (hty : typeOf (.builtin id) = pure (.type "method_descriptor") := by rfl)
  (hbase : ∀ env : Env, attributeBase o name env (eval o env) = eval o env := by intro _; rfl)
  (hfew : ∀ env : Env, ((backTo cpos (starEach (e :: es) env)).all (fun x => !x.1) && (backToKw cpos (keywordEach [] env)).all (fun x => x.1.isSome)
   && decide ((e :: es).length + ([] : List Keyword).length + (if ([] : List Keyword).isEmpty then 0 else 1) < 30)) = true := by intro _; rfl)
  (hline : (apos.endLine == cpos.line) = true := by rfl) (hs : ∀ env : Env, starEach (e :: es) env = (false, eval e env) :: starEach es env := by intro _; rfl) (hplain : ∀ env : Env, (backTo cpos (starEach es env)).any (·.1) = false := by intro _; rfl) :
  JE S (.Call (.Attribute o name apos) (e :: es) [] cpos) (bF T m mo ma) := fun X E c xo =>
 bP (BK pa slot hty (hm X E c xo) (ho X E c xo) (ha X E c xo) (hbase X.env) (hfew X.env) hline (hs X.env) (hplain X.env)) fun σ H Q ⟨I, F, G, ds, w, rel, rs, p⟩ =>
  a7 (f := fun ds d w1 => if BH d w1 = some T then (ma ds w1).bind fun xs w2 => m d xs w2 else .bad) rel rs p fun I1 F1 H1 d w1 v e1 rel1 rs1 rv p1 => by
   split at p1
   ·rename_i ht
    refine ⟨yC rel1 rv ht, ?_⟩
    exact b5 (f := fun _ xs w2 => m d xs w2) rel1 rs1 p1 fun I2 F2 H2 xs w2 vs e2 rel2 rs2 rvs p2 => ⟨I2, F2, G, d, xs, w2, rel2, aF.ext e2 _ _ rv, rvs, p2⟩
   ·exact p1.elim
theorem xC (pa : PlainAttrs T) (slot : Slot T name id) (hm : MB S id m) (ho : JE S o mo) (hty : typeOf (.builtin id) = pure (.type "method_descriptor") := by rfl)
  (hbase : ∀ env : Env, attributeBase o name env (eval o env) = eval o env := by intro _; rfl) (hline : (apos.endLine == cpos.line) = true := by rfl) :
  JE S (.Call (.Attribute o name apos) [] [] cpos) (bF T m mo aD) := fun X E c xo =>
 bP (z5 pa slot hty (hm X E c xo) (ho X E c xo) (hbase X.env) hline) fun σ H Q ⟨I, F, G, ds, w, rel, rs, p⟩ =>
  a7 (f := fun ds d w1 => if BH d w1 = some T then (aD ds w1).bind fun xs w2 => m d xs w2 else .bad) rel rs p fun I1 F1 H1 d w1 v e1 rel1 rs1 rv p1 => by
   split at p1
   ·rename_i ht
    exact ⟨yC rel1 rv ht, I1, F1, G, d, [], w1, rel1, rv, by simp [RepL], p1⟩
   ·exact p1.elim
theorem AL {id : String} (h : ∀ (X : Cx) (E : XK), Ctx S X → hH X E → ∀ (I : List Addr) (F G : Hp) (d : D) (ds : List D) (w : W) (H : Hp) (x : V) (vs : List V) (Q : VK), Rel X.K I F G w H → aF X.K I F d x → RepL X.K I F ds vs → aS X.K I F G E (RV X.K Q) (m d ds w) →
  ∃ r, MtR X id r ∧ r x vs H Q) : MB S id m := fun X E c xo pins s σ H x vs v us Q J rx rv ⟨I, F, G, d, ds, w, rel, rd, rl, p⟩ => by
 obtain ⟨r', h1, h2⟩ := h X E c xo I F G d ds w H x vs Q rel rd rl p
 exact h1 pins s σ H x vs v us Q J rx rv h2
end
def bD : yS := fun d ds w => match d, ds with
 | .ref i, [y] => (match w[i]? with
  | some (.lst xs) => if xs.length < sizeLine then .ok .non (w.set i (.lst (xs ++ [y]))) else .bad
  | _ => .bad)
 | _, _ => .bad
def sC : yS := fun d ds w => match d, ds with
 | .ref i, [] => (match w[i]? with
  | some (.lst xs) => (match xs[xs.length - 1]? with
   | some y => .ok y (w.set i (.lst xs.dropLast))
   | none => .bad)
  | _ => .bad)
 | _, _ => .bad
section
variable {K : PySem.W.Frag} {I : List Addr} {F : Hp}
theorem RepL.dropLast {ds : List D} {vs : List V} (r : RepL K I F ds vs) : RepL K I F ds.dropLast vs.dropLast := by
 rw [List.dropLast_eq_take, List.dropLast_eq_take, ← r.length]
 exact r.take _
theorem RepL.reverse : ∀ {ds : List D} {vs : List V}, RepL K I F ds vs → RepL K I F ds.reverse vs.reverse
 | [], vs, h => by simp only [RepL] at h; subst h; simp [RepL]
 | d :: ds, vs, h => by
  simp only [RepL] at h
  obtain ⟨v, r, rfl, h2, h3⟩ := h
  rw [List.reverse_cons, List.reverse_cons]
  exact h3.reverse.append (RepL.cons h2 (by simp [RepL]))
end
section
variable {S : aV}
theorem vD : MB S "list.append" bD := AL fun X E c xo I F G d ds w H x vs Q rel rd rl p => by
 unfold bD at p
 split at p
 ·rename_i i y
  simp only [aF] at rd
  obtain ⟨a, rfl, hi⟩ := rd
  obtain ⟨v, rfl, rv⟩ := rl.one
  split at p
  ·rename_i xs hw
   obtain ⟨u, hu, us, rfl, hr⟩ := rel.ob i a _ hi hw
   split at p
   ·rename_i hl
    exact ⟨_, mt_append, a, us, v, rfl, rfl, hu, by rw [← hr.length]; exact hl, p.nR (rel.upd hi hw ⟨_, rfl, hr.append (RepL.cons rv (by simp [RepL]))⟩) (by simp [aF])⟩
   ·exact p.elim
  ·exact p.elim
 ·exact p.elim
theorem B2 : MB S "list.pop" sC := AL fun X E c xo I F G d ds w H x vs Q rel rd rl p => by
 unfold sC at p
 split at p
 ·rename_i i
  simp only [aF] at rd
  obtain ⟨a, rfl, hi⟩ := rd
  split at p
  ·rename_i xs hw
   obtain ⟨u, hu, us, rfl, hr⟩ := rel.ob i a _ hi hw
   split at p
   ·rename_i y hy
    obtain ⟨v, hv, rv⟩ := hr.get hy
    simp only [RepL] at rl
    exact ⟨_, mt_pop, a, us, v, rfl, rl, hu, by rw [← hr.length]; exact hv, p.nR (rel.upd hi hw ⟨_, rfl, hr.dropLast⟩) rv⟩
   ·exact p.elim
  ·exact p.elim
 ·exact p.elim
end
def rM (d : D) (w : W) : Res D := match hX d w with
 | some xs => .ok (.ref w.length) (w ++ [.lst xs.reverse])
 | none => .bad
section
variable {S : aV} {e : Expr} {m : ME} {k : Nat} {p1 p2 p3 pos : Pos}
theorem zS (h : JE S e m) : JE S (.Subscript e (.Slice none none (some (.UnaryOp .USub (.Constant (.int 1) k p1) p2)) p3) pos) (m9 rM m) := fun X E c xo =>
 bP (pe_revL (h X E c xo)) fun σ H Q ⟨I, F, G, ds, w, rel, rs, p⟩ => a7 (f := fun _ d w1 => rM d w1) rel rs p fun I1 F1 H1 d w1 v e1 rel1 rs1 rv p => by
  unfold rM at p
  split at p
  ·rename_i xs hx
   obtain ⟨a, us, rfl, hq, hr⟩ := tU rel1 rv hx
   exact ⟨a, us, rfl, hq, t4 (o := .lst _) rel1 ⟨_, rfl, hr.reverse⟩ p⟩
  ·exact p.elim
end
def xM (x y : D) (w : W) : Option Bool := match x.py w, y.py w with
 | some p, some (.list qs) => if SeqAt.shaped p = true ∧ SeqAt.shaped (.list qs) = true then some (qs.any fun z => PyData.eqv z p) else none
 | some p, some (.tuple qs) => if SeqAt.shaped p = true ∧ SeqAt.shaped (.tuple qs) = true then some (qs.any fun z => PyData.eqv z p) else none
 | _, _ => none
def inD (x y : D) (w : W) : Option Bool := match y with
 | .ref i => (match w[i]? with
  | some (.dK kvs) => (gL (.dK kvs) x).map Option.isSome
  | some (.dT kvs) => (gL (.dT kvs) x).map Option.isSome
  | _ => xM x y w)
 | y => xM x y w
def wM (x y : D) (w : W) : Res D := match inD x y w with
 | some b => .ok (.bl b) w
 | none => .bad
def yJ (x y : D) (w : W) : Res D := match inD x y w with
 | some b => .ok (.bl (!b)) w
 | none => .bad
theorem rC.isSome {K : PySem.W.Frag} {I : List Addr} {F : Hp} {d : Option D} {q : Option V} (h : rC K I F d q) : q.isSome = d.isSome := by
 cases d with
 | none => rw [show q = none from h]; rfl
 | some d => obtain ⟨v, rfl, _⟩ := h; rfl
open PySem.W (EachIs AllAlike Sortable alike dataLe)
def D7 (w : W) (d : D) : PyData := (d.py w).getD .none
def xX : PyData → Bool
 | .tuple (_ :: _) => true
 | _ => false
def tG : PyData → Bool
 | .none => false
 | .tuple _ => false
 | _ => true
def fJ (ps : List PyData) : Bool := (ps.all fun p => ps.all fun q => alike p q) && (ps.all xX || ps.all tG) && ps.all fun p => decide (p.depth ≤ 60)
theorem fJ.h1 {ps : List PyData} (h : fJ ps = true) : AllAlike ps := by
 simp only [fJ, af, List.all_eq_true] at h
 exact fun d hd e he => h.1.1 d hd e he
theorem fJ.h2 {ps : List PyData} (h : fJ ps = true) : Sortable ps := by
 simp only [fJ, af, Bool.or_eq_true, List.all_eq_true] at h
 rcases h.1.2 with h | h
 ·refine .inl fun d hd => ?_
  have := h d hd
  unfold xX at this
  split at this
  ·exact ⟨_, _, rfl⟩
  ·cases this
 ·refine .inr fun d hd => ?_
  have := h d hd
  unfold tG at this
  split at this
  ·cases this
  ·cases this
  ·rename_i n1 n2
   exact ⟨n1, fun xs z => n2 xs z⟩
theorem fJ.h3 {ps : List PyData} (h : fJ ps = true) : ∀ p ∈ ps, p.depth ≤ 60 := by
 simp only [fJ, af, List.all_eq_true, ak] at h
 exact h.2
def FU (xs : List D) (w : W) : Option (List D) := if xs.all (fun d => (d.py w).isSome) = true ∧ fJ (xs.map (D7 w)) = true ∧ xs.length ≤ sizeLine then some (xs.mergeSort (dataLe false (D7 w))) else none
def uF : MF := fun ds w => match ds with
 | [d] => (match (hX d w).bind fun xs => FU xs w with
  | some ys => .ok (.lst ys) w
  | none => .bad)
 | _ => .bad
def lT (f : Str) (v : D) : List (Str × D) → List (Str × D)
 | [] => [(f, v)]
 | (g, x) :: r => if g = f then (g, v) :: r else (g, x) :: lT f v r
theorem aJ.lookup {K : PySem.W.Frag} {I : List Addr} {F : Hp} {κ : Type} [BEq κ] (k : κ) : ∀ {kvs : List (κ × D)} {r : List (κ × V)}, aJ K I F kvs r → rC K I F (kvs.lookup k) (r.lookup k)
 | [], r, h => by simp only [aJ] at h; subst h; rfl
 | (j, d) :: kvs, r, h => by
  simp only [aJ] at h
  obtain ⟨v, t, rfl, h1, h2⟩ := h
  simp only [List.lookup]
  cases e : (k == j) with
  | true => exact ⟨v, rfl, h1⟩
  | false => exact aJ.lookup k h2
theorem aJ.lT {K : PySem.W.Frag} {I : List Addr} {F : Hp} (f : Str) {d : D} {v : V} (hv : aF K I F d v) : ∀ {kvs : List (Str × D)} {r : List (Str × V)}, aJ K I F kvs r → aJ K I F (Pc.lT f d kvs) (putF f v r)
 | [], r, h => by simp only [aJ] at h; subst h; simp only [Pc.lT, putF, aJ]; exact ⟨v, [], rfl, hv, rfl⟩
 | (j, x) :: kvs, r, h => by
  simp only [aJ] at h
  obtain ⟨u, t, rfl, h1, h2⟩ := h
  simp only [Pc.lT, putF]
  by_cases e : j = f
  ·rw [if_pos e, if_pos e]; simp only [aJ]; exact ⟨v, t, rfl, hv, h2⟩
  ·rw [if_neg e, if_neg e]; simp only [aJ]; exact ⟨u, _, rfl, h1, aJ.lT f hv h2⟩
def EV (C : Addr) (f : Str) (d : D) (w : W) : Res D := match d with
 | .ref i => (match w[i]? with
  | some (.ins C' fs) => if C' = C then (match fs.lookup f with
   | some x => .ok x w
   | none => .bad) else .bad
  | _ => .bad)
 | _ => .bad
def tW (C : Addr) (f : Str) (d x : D) (w : W) : Res Unit := match d with
 | .ref i => (match w[i]? with
  | some (.ins C' fs) => if C' = C ∧ fs.length < 1000 then .ok () (w.set i (.ins C (lT f x fs))) else .bad
  | _ => .bad)
 | _ => .bad
def bL (C : Addr) (f : Str) (m : ME) : ME := m9 (EV C f) m
def i8 (C : Addr) (f : Str) (mo mv : ME) : MS := fun σ w => (mv σ w).bind fun x w1 => (mo σ w1).bind fun d w2 => (tW C f d x w2).bind fun _ w3 => .ok (.nx σ) w3
def wK (m : MF) (C : Addr) (xs : List D → List D) (w : W) : Res D := (m (xs [.ref w.length]) (w ++ [.ins C []])).bind fun r w1 => match r with
 | .non => .ok (.ref w.length) w1
 | _ => .bad
def ES (C : Addr) (m : MF) (n : Nat) (gd : List D → List D → List D) (ma : MA) : ME := fun σ w => (ma σ w).bind fun xs w1 => if xs.length = n then wK m C (fun s => gd (s ++ xs) []) w1 else .bad
def vQ (C : Addr) (m : MF) (n j : Nat) (gd : List D → List D → List D) (ma mk : MA) : ME := fun σ w => (ma σ w).bind fun xs w1 => (mk σ w1).bind fun zs w2 => if xs.length = n ∧ zs.length = j then wK m C (fun s => gd (s ++ xs) zs) w2 else .bad
section
variable {S : aV} {pos pos' : Pos} {e : Expr} {m : ME}
theorem jv (i : Nat) {x : Str} (hN : S.N[i]? = some x := by rfl) (hv : Vis S.sc x := by first | exact Or.inl rfl | exact Or.inr (Or.inl rfl) | exact Or.inr (Or.inr rfl)) (hd : (x == ("__debug__" : Str)) = false := by decide) (hcd : (x == ("__classdict__" : Str)) = false := by decide) : JE S (.Name x pos) (aB i) :=
 CF i hN hv hd hcd
theorem yW (i : Nat) {x : Str} (hN : S.N[i]? = some x := by rfl) (h1 : Loc S.sc x := by first | exact Or.inl rfl | exact Or.inr rfl) (h2 : S.fn x = true ∨ S.sc.names.lookup x = some .local := by first | exact Or.inl rfl | exact Or.inr rfl) : JG S (.Name x pos) (aN i) := yP hN ⟨h1, h2⟩
theorem DP {vs : List Nat} (i : Nat) {x : Str} (hN : S.N[i]? = some x := by rfl) (h1 : Loc S.sc x := by first | exact Or.inl rfl | exact Or.inr rfl) (h2 : S.fn x = true ∨ S.sc.names.lookup x = some .local := by first | exact Or.inl rfl | exact Or.inr rfl) (hv : i ∈ vs := by decide) : JC S vs (.Name x pos) (aN i) := AA hN ⟨h1, h2⟩ hv
theorem xY (i : Nat) {x : Str} (he : JE S e m) (hN : S.N[i]? = some x := by rfl) (h1 : Loc S.sc x := by first | exact Or.inl rfl | exact Or.inr rfl) (h2 : S.fn x = true ∨ S.sc.names.lookup x = some .local := by first | exact Or.inl rfl | exact Or.inr rfl) (hs : ∀ env : Env, swapsWith e (some (.Name x pos')) pos.line env = pure false := by intro _; rfl) :
  JS S (.Assign [.Name x pos'] e pos) (aK m (aN i)) := BQ hN ⟨h1, h2⟩ he hs
end
def aM : List D → List D → List D := fun xs _ => xs
def pick {α : Type} (is : List (Bool × Nat)) (us ws : List α) : List α := is.filterMap fun p => if p.1 = true then ws[p.2]? else us[p.2]?
theorem Vals.DY {vs : List V} {us : List Value} (r : Vals vs us) (i : Nat) : (vs[i]? = none ∧ us[i]? = none) ∨ ∃ v u, vs[i]? = some v ∧ us[i]? = some u ∧ RelV v u := by
 induction r generalizing i with
 | nil => exact .inl ⟨by simp, by simp⟩
 | cons h _ ih =>
  cases i with
  | zero => exact .inr ⟨_, _, rfl, rfl, h⟩
  | succ i => simpa using ih i
theorem RepL.DY {K : PySem.W.Frag} {I : List Addr} {F : Hp} {ds : List D} {vs : List V} (r : RepL K I F ds vs) (i : Nat) : (ds[i]? = none ∧ vs[i]? = none) ∨ ∃ d v, ds[i]? = some d ∧ vs[i]? = some v ∧ aF K I F d v := by
 cases h : ds[i]? with
 | none => exact .inl ⟨rfl, by rw [List.getElem?_eq_none_iff] at h ⊢; rw [← r.length]; exact h⟩
 | some d => obtain ⟨v, h1, h2⟩ := r.get h; exact .inr ⟨d, v, rfl, h1, h2⟩
theorem u3 (is : List (Bool × Nat)) {vs zs : List V} {us ws : List Value} (h1 : Vals vs us) (h2 : Vals zs ws) : Vals (pick is vs zs) (pick is us ws) := by
 induction is with
 | nil => exact .nil
 | cons p is ih =>
  obtain ⟨b, i⟩ := p
  unfold pick at ih ⊢
  cases b with
  | true =>
   rcases Vals.DY h2 i with ⟨e1, e2⟩ | ⟨v, u, e1, e2, r⟩
   ·simpa [List.filterMap_cons, e1, e2] using ih
   ·simpa [List.filterMap_cons, e1, e2] using (show Vals (v :: _) (u :: _) from .cons r ih)
  | false =>
   rcases Vals.DY h1 i with ⟨e1, e2⟩ | ⟨v, u, e1, e2, r⟩
   ·simpa [List.filterMap_cons, e1, e2] using ih
   ·simpa [List.filterMap_cons, e1, e2] using (show Vals (v :: _) (u :: _) from .cons r ih)
theorem v9 (is : List (Bool × Nat)) {K : PySem.W.Frag} {I : List Addr} {F : Hp} {xs zs : List D} {vs us : List V} (h1 : RepL K I F xs vs) (h2 : RepL K I F zs us) : RepL K I F (pick is xs zs) (pick is vs us) := by
 induction is with
 | nil => simp [pick, RepL]
 | cons p is ih =>
  obtain ⟨b, i⟩ := p
  unfold pick at ih ⊢
  cases b with
  | true =>
   rcases RepL.DY h2 i with ⟨e1, e2⟩ | ⟨v, u, e1, e2, r⟩
   ·simpa [List.filterMap_cons, e1, e2] using ih
   ·simpa [List.filterMap_cons, e1, e2] using RepL.cons r ih
  | false =>
   rcases RepL.DY h1 i with ⟨e1, e2⟩ | ⟨v, u, e1, e2, r⟩
   ·simpa [List.filterMap_cons, e1, e2] using ih
   ·simpa [List.filterMap_cons, e1, e2] using RepL.cons r ih
theorem uO {K : PySem.W.Frag} {x qual : Str} {params : Arguments} {body : List Stmt} {scope : Scope} {kws : List (Str × V)} {f : Addr} {fd : FuncData} {ps : List Str} (F : FunD K x qual params body scope [] kws f fd) (n : Nat) (ks : List Str) (is : List (Bool × Nat))
  (h : ∀ (kV doc pm : Value) (an : Option Addr) (cdv ct : Value) (us ws : List Value), us.length = n → ws.length = ks.length → bindArgs (PySem.W.fnOf x qual params body scope .none kV doc pm an cdv ct) ⟨us, ks.zip ws⟩ = pure (ps.zip (pick is us ws)))
  (hlen : ∀ xs zs : List D, xs.length = n → zs.length = ks.length → (pick is xs zs).length = ps.length) : dY K fd ps n ks (pick is) :=
 vW F n ks (fun us ws => pick is us ws) h (fun h1 h2 => u3 is h1 h2) (fun I F' xs vs zs us h1 h2 => v9 is h1 h2) hlen
section
variable {S : aV} {k : Nat} {f : Addr} {fd : FuncData} {ps ks : List Str} {m : MF} {gd : List D → List D → List D} {x : Str} {p pos : Pos} {kws : List Keyword} {mk : MA}
theorem vH (hk : k ≤ S.k) (Gf : h8 S.P S.w S.K S.mg S.base k f fd ps m) (B : dY S.K fd ps 0 ks gd) (hg : S.sc.names.lookup x = some .globalImplicit) (hm : S.mg x = some (.ref f)) (kp : PySem.W.keepIn S.K (.ref f) = true) (hkw : JK S kws mk)
  (hall : ∀ env : Env, (backToKw pos (keywordEach kws env)).all (·.1.isSome) = true := by intro _; rfl) (hks : ∀ env : Env, (backToKw pos (keywordEach kws env)).filterMap (·.1) = ks := by intro _; rfl)
  (hdb : (x == ("__debug__" : Str)) = false := by decide)
  (hpl : ∀ env : Env, ((backTo pos (starEach [] env)).any (·.1) || (backToKw pos (keywordEach kws env)).any (·.1.isNone)) = false := by intro _; rfl) :
  JE S (.Call (.Name x p) [] kws pos) (jL m 0 ks.length gd aD mk) := fun X E cx xo => by
 refine ⟨fun pins s σ H Q J ⟨I, F, G, ds, w, rel, rs, p⟩ => ?_⟩
 refine wpAny_Call_Name_kw (ld_glob J (by show X.env.scope.names.lookup x = _; rw [cx.sc]; exact hg) (by rw [cx.mg]; exact hm) ?_ hdb)
 refine PySem.W.callWith_KW0 (h₀ := X.base) J.ok.mod.kin (by rw [cx.K]; exact kp) (hall X.env) ?_ (hpl X.env)
 refine thn ((hkw X E cx xo).run pos pins s σ H _ J (b5 (f := fun _ zs w2 => if ([] : List D).length = 0 ∧ zs.length = ks.length then m (gd [] zs) w2 else .bad)
  (Q := fun ys H2 => ∃ I2 F2 zs w2, Rel X.K I2 F2 G w2 H2 ∧ RepL X.K I2 F2 zs ys ∧ zs.length = ks.length ∧ aS X.K I2 F2 G E (RV X.K Q) (m (gd [] zs) w2)) rel rs p fun I2 F2 H2 zs w2 ys e2 rel2 rs2 rvs2 p2 => ?_)) fun ws s2 hq2 => ?_
 ·split at p2
  ·rename_i hl
   exact ⟨I2, F2, zs, w2, rel2, rvs2, hl.2, p2⟩
  ·exact p2.elim
 ·obtain ⟨ys, H2, J2, r2, I2, F2, zs, w2, rel2, rvs2, hl, p2⟩ := hq2
  refine ⟨J2.kIn, ?_⟩
  have Gf' : h8 X.prog X.w X.K X.mg X.base k f fd ps m := by rw [cx.P, cx.w, cx.K, cx.mg, cx.base]; exact Gf
  have B' : dY X.K fd ps 0 ks gd := by rw [cx.K]; exact B
  rw [hks X.env]
  exact AI (ks := ks) (us := []) (vs := []) (xs := []) xo Gf' B' (cx.room.mono hk) cx.F9 J2 rel2 (by simp [RepL]) rvs2 .nil r2 rfl hl p2
end
section
variable {S : aV} {k n j : Nat} {f : Addr} {fd : FuncData} {ps ks : List Str} {m : MF} {gd : List D → List D → List D} {x : Str} {p pos : Pos} {e : Expr} {es : List Expr} {kws : List Keyword} {ma mk : MA}
theorem HA (hk : k ≤ S.k) (Gf : h8 S.P S.w S.K S.mg S.base k f fd ps m) (B : dY S.K fd ps 0 ks gd) (hg : S.sc.names.lookup x = some .globalImplicit) (hm : S.mg x = some (.ref f)) (kp : PySem.W.keepIn S.K (.ref f) = true) (hkw : JK S kws mk) (hj : ks.length = j := by rfl)
  (hall : ∀ env : Env, (backToKw pos (keywordEach kws env)).all (·.1.isSome) = true := by intro _; rfl) (hks : ∀ env : Env, (backToKw pos (keywordEach kws env)).filterMap (·.1) = ks := by intro _; rfl)
  (hdb : (x == ("__debug__" : Str)) = false := by decide)
  (hpl : ∀ env : Env, ((backTo pos (starEach [] env)).any (·.1) || (backToKw pos (keywordEach kws env)).any (·.1.isNone)) = false := by intro _; rfl) :
  JE S (.Call (.Name x p) [] kws pos) (jL m 0 j gd aD mk) := by subst hj; exact vH hk Gf B hg hm kp hkw hall hks hdb hpl
end
def v3 (N ps : List Str) (sc : Scope) : Bool := (match sc.kind with
 | .function => true
 | _ => false) && !sc.isCoroutine && !sc.isGenerator && decide N.Nodup && decide (N.take ps.length = ps) && (ps.all fun x => decide (sc.names.lookup x = some .local) || decide (sc.names.lookup x = some .cell)) && sc.names.all fun y => decide (y.2 ≠ .free)
theorem c9 {N ps : List Str} {sc : Scope} (h : v3 N ps sc = true) : FnScope N ps sc := by
 unfold v3 at h
 simp only [af, ak, List.all_eq_true, Bool.or_eq_true, Bool.not_eq_true'] at h
 obtain ⟨⟨⟨⟨⟨⟨h1, h2⟩, h3⟩, h4⟩, h5⟩, h6⟩, h7⟩ := h
 refine ⟨?_, h2, h3, h4, h5, h6, h7⟩
 split at h1
 ·assumption
 ·cases h1
def DW (f g : D → D → W → Res D) (ma mb mc : ME) : ME := fun σ w => (ma σ w).bind fun x w1 => (mb σ w1).bind fun y w2 => (f x y w2).bind fun r w3 => match r with
 | .bl b => if b = true then (mc σ w3).bind fun z w4 => g y z w4 else .ok (.bl false) w3
 | _ => .bad
inductive rV where
 | b (n : String) | o (C : Addr)
 deriving DecidableEq
def rV.v : rV → Value
 | .b n => .type n
 | .o C => .ref C
def D6 (d : D) (w : W) : Option rV := match d with
 | .non => some (.b "NoneType")
 | .bl _ => some (.b "bool")
 | .int _ => some (.b "int")
 | .str _ => some (.b "str")
 | .tup _ => some (.b "tuple")
 | .i4 _ => some (.b "tuple")
 | .lst _ => some (.b "list")
 | .fM _ => some (.b "list")
 | .ref i => (match w[i]? with
  | some (.lst _) => some (.b "list")
  | some (.dK _) => some (.b "dict")
  | some (.dT _) => some (.b "dict")
  | some (.dF _) => some (.b "dict")
  | some (.dG _) => none
  | some (.ins C _) => some (.o C)
  | none => none)
 | _ => none
def names7 : List String := ["NoneType", "bool", "int", "str", "tuple", "list", "dict"]
def GX (t n : String) : Bool := t == n || (t == "bool" && n == "int")
def vB (kc : rV → rV → Option Bool) : MF := fun ds w => match ds with
 | [d, .ty n] => (match D6 d w with
  | some (.b t) => if t ∈ names7 ∧ n ∈ ["bool", "int", "str", "tuple", "list", "dict"] then .ok (.bl (GX t n)) w else .bad
  | some (.o C) => (match kc (.o C) (.b n) with
   | some r => .ok (.bl r) w
   | none => .bad)
  | none => .bad)
 | [d, .con C] => (match D6 d w with
  | some t => (match kc t (.o C) with
   | some r => .ok (.bl r) w
   | none => .bad)
  | none => .bad)
 | _ => .bad
def uS : rV → rV → Option Bool := fun _ _ => none
def rF : List D → Option (List Bool)
 | [] => some []
 | .bl b :: r => (rF r).map (b :: ·)
 | _ :: _ => none
def allM : MF := fun ds w => match ds with
 | [d] => (match (hX d w).bind rF with
  | some bs => .ok (.bl (bs.all id)) w
  | none => .bad)
 | _ => .bad
def sL (x y : D) (w : W) : Res D := match x, y with
 | .int a, .int b => .ok (.bl (decide (a < b))) w
 | x, y => match (oH x).bind eO, (oH y).bind eO with
  | some ns, some ms => .ok (.bl (HT.lexLt ns ms)) w
  | _, _ => .bad
theorem AK {S : aV} : O2 S (compareOp .Lt) sL := eY fun X E c xo I F G d e w H x y Q rel rd re p => by
 unfold sL at p
 split at p
 ·simp only [aF] at rd re
  exact ⟨_, op_lt, _, _, rd, re, p.nR rel (by simp [aF])⟩
 ·split at p
  ·rename_i ns ms h1 h2
   obtain ⟨xs, q1, q2⟩ := Option.bind_eq_some_iff.mp h1
   obtain ⟨ys, q3, q4⟩ := Option.bind_eq_some_iff.mp h2
   obtain ⟨a, us, rfl, g1, g2⟩ := vX rel rd q1
   obtain ⟨b, ts, rfl, g3, g4⟩ := vX rel re q3
   obtain rfl := g5 g2 q2
   obtain rfl := g5 g4 q4
   exact ⟨_, op_ltT (by have := c.room.un; omega), a, b, ns, ms, rfl, rfl, g1, g3, p.nR rel (by simp [aF])⟩
  ·exact p.elim
theorem kT {K : PySem.W.Frag} {I : List Addr} {F G H : Hp} {w : W} {q : Addr} {u : HO} (rel : Rel K I F (upd G q u) w H) (hG : G q = none) : Rel K I F G w H :=
 ⟨rel.len, rel.nd, rel.ob, rel.fz, rel.ap, fun a v h => rel.gz a v (by rw [upd_ne (ne_of_none h hG)]; exact h), fun a v h => rel.gf a v (by rw [upd_ne (ne_of_none h hG)]; exact h), fun a xs h => rel.gt a xs (by rw [upd_ne (ne_of_none h hG)]; exact h)⟩
theorem aS.more {α : Type} {K : PySem.W.Frag} {I : List Addr} {F G : Hp} {E : XK} {R R' : List Addr → Hp → Hp → α → W → Prop} {r : Res α} {q : Addr} {u : HO} (p : aS K I F G E R r) (hG : G q = none)
  (k : ∀ I' F' H' a w, r = .ok a w → Ext I F I' F' → Rel K I' F' (upd G q u) w H' → R I' F' H' a w → R' I' F' H' a w) : aS K I F (upd G q u) E R' r := by
 cases r with
 | ok a w => exact fun I' F' H' e rel => k I' F' H' a w rfl e rel (p I' F' H' e (kT rel hG))
 | pM x w => exact fun I' F' H' c d e rel rx => p I' F' H' c d e (kT rel hG) rx
 | bad => exact p
abbrev MP := Sg → W → Res (List (D × D))
def GF : MP := fun _ w => .ok [] w
def AW (mk mv : ME) (r : MP) : MP := fun σ w => (mk σ w).bind fun k w1 => (mv σ w1).bind fun v w2 => (r σ w2).bind fun ps w3 => .ok ((k, v) :: ps) w3
def keyed : List (D × D) → Option (List (Key × D))
 | [] => some []
 | (k, v) :: r => match keyD k, keyed r with
  | some j, some t => some ((j, v) :: t)
  | _, _ => none
def sE {κ : Type} [DecidableEq κ] (kvs more : List (κ × D)) : List (κ × D) := more.foldl (fun acc kv => putD acc kv.1 kv.2) kvs
def EI (m : MP) : ME := fun σ w => (m σ w).bind fun ps w1 => match keyed ps with
 | some kvs => if kvs.length ≤ 15 then .ok (.ref w1.length) (w1 ++ [.dK (sE [] kvs)]) else .bad
 | none => .bad
def nU : ME := fun _ w => .ok (.ref w.length) (w ++ [.dT []])
def getM : yS := fun d ds w => match d, ds with
 | .ref i, [k, z] => (match w[i]? with
  | some o => (match gL o k with
   | some r => .ok (r.getD z) w
   | none => .bad)
  | none => .bad)
 | _, _ => .bad
def AD : Key → D
 | .inl i => .int i
 | .inr x => .str x
def x9 (d : D) (w : W) : Res gF := match d with
 | .ref i => (match w[i]? with
  | some (.dK kvs) => .ok ⟨kvs.map fun p => .tup [AD p.1, p.2], always⟩ (w.set i (.dF kvs))
  | _ => .bad)
 | _ => .bad
def tQ (m : ME) : MI := fun σ w => (m σ w).bind x9
theorem aJ.get {K : PySem.W.Frag} {I : List Addr} {F : Hp} {κ : Type} : ∀ {kvs : List (κ × D)} {r : List (κ × V)} {i : Nat} {k : κ} {v : V}, aJ K I F kvs r → r[i]? = some (k, v) → ∃ d, kvs[i]? = some (k, d) ∧ aF K I F d v
 | [], r, i, k, v, h, e => by simp only [aJ] at h; subst h; simp at e
 | (j, d) :: kvs, r, 0, k, v, h, e => by
  simp only [aJ] at h
  obtain ⟨u, t, rfl, h1, h2⟩ := h
  simp at e
  obtain ⟨rfl, rfl⟩ := e
  exact ⟨d, rfl, h1⟩
 | (j, d) :: kvs, r, i + 1, k, v, h, e => by
  simp only [aJ] at h
  obtain ⟨u, t, rfl, h1, h2⟩ := h
  obtain ⟨d', h3, h4⟩ := aJ.get (i := i) h2 (by simpa using e)
  exact ⟨d', by simpa using h3, h4⟩
open Classical in
open Classical in
theorem still {α : Type} {K : PySem.W.Frag} {R : List Addr → Hp → Hp → α → W → Prop} {r : Res α} {I : List Addr} {F G : Hp} {q : Addr} {u : HO} (hG : G q = none) (p : aS K I F G E0 R r) :
  aS K I F (upd G q u) E0 (fun I' F' H' a w => Rel K I' F' (upd G q u) w H' ∧ ∀ H'', Rel K I' F' G w H'' → R I' F' H'' a w) r := by
 cases r with
 | ok a w => exact fun I' F' H' e q => ⟨q, fun H'' q' => p I' F' H'' e q'⟩
 | pM x w => exact fun I' F' H' c d e q rx => p I' F' H' c d e (kT q hG) rx
 | bad => exact p
def HZ (ds : List D) (w : W) : Res gF := match ds with
 | [x, y] => (match oH x, oH y with
  | some xs, some ys => if xs.length = ys.length then .ok ⟨(xs.zip ys).map fun p => .tup [p.1, p.2], always⟩ w else .bad
  | _, _ => .bad)
 | _ => .bad
def D1 {α : Type} (is : List (Nat × Nat)) (us ws mv : List α) : List α := is.filterMap fun p => match p.1 with
 | 0 => us[p.2]?
 | 1 => ws[p.2]?
 | _ => mv[p.2]?
def yI (i j : Nat) (ma : MA) : MS := fun σ w => (ma σ w).bind fun xs w1 => match xs with
 | [u, v] => .ok (.nx ((σ.set i (some u)).set j (some v))) w1
 | _ => .bad
section
variable {S : aV} {elt tg iter : Expr} {ifs : List Expr} {scope : Scope} {pos py spos : Pos} {y : Str} {mi : MI} {g : MG} {t : MT} {me : ME} {own : List (Str × Nat)}
theorem GH (i : Nat) (hi : JI S tg iter mi) (hb : blkC S.N S.sc scope own = true) (hg : JC (S.blk scope) (own.map (·.2)) tg g) (ht : E9 (S.blk scope) ifs t) (he : JE (S.blk scope) elt me)
  (hy : S.N[i]? = some y := by rfl) (hyl : S.sc.names.lookup y = some .local := by rfl) (hl : (py.line == pos.line) = true := by rfl) (ha : (scope.names.any fun (n, k) => n == y && (k == .local || k == .cell)) = false := by rfl)
  (hk : S.sc.kind = .function := by rfl) (hs : ∀ (env : Env) x, foldedSetIterable iter env x = pure x := by intro _ _; rfl) : JS S (.Assign [.Name y py] (.ListComp elt [⟨tg, iter, ifs, 0⟩] scope pos) spos) (aK (bA mi (own.map (·.2)) g t me) (aN i)) :=
 rJ hy hyl (fun env e k => sw_true k (by rw [e]; exact hyl) hl ha) hi hb hg ht he hk hs
end
def q5 (C : Addr) (m : MF) : MF := fun ds w => match ds with
 | [.ref i] => (match w[i]? with
  | some (.ins C' _) => if C' = C then (m [.ref i] w).bind fun d w1 => (match d with
    | .int n => if 0 ≤ n ∧ n < 2 ^ 62 then .ok (.int n) w1 else .bad
    | _ => .bad) else .bad
  | _ => cF [.ref i] w)
 | _ => cF ds w
open AutoSeq1 (wpAny_loadPart')
open RZ (nextOf_tuple_item nextOf_tuple_end)
def k9 (ds : List D) (w : W) : Res gF := match ds with
 | [x] => (match oH x with
  | some xs => .ok ⟨(List.range xs.length).zipWith (fun i x => D.tup [.int (i : Nat), x]) xs, always⟩ w
  | none => .bad)
 | _ => .bad
def DD (d : D) (w : W) : Option (List D) := match d with
 | .lst xs => some xs
 | .ref i => (match w[i]? with
  | some (.lst xs) => some xs
  | _ => none)
 | _ => none
theorem Rel.less {K : PySem.W.Frag} {I : List Addr} {F G H : Hp} {w : W} {q : Addr} {u : HO} (rel : Rel K I F (L2.upd G q u) w H) (hG : G q = none) : Rel K I F G w H :=
 ⟨rel.len, rel.nd, rel.ob, rel.fz, rel.ap, fun a v h => rel.gz a v (by rw [upd_ne (ne_of_none h hG)]; exact h), fun a v h => rel.gf a v (by rw [upd_ne (ne_of_none h hG)]; exact h), fun a xs h => rel.gt a xs (by rw [upd_ne (ne_of_none h hG)]; exact h)⟩
def HV : MF := fun _ _ => .bad
theorem h8.bad {P : Program} {w : World} {K : PySem.W.Frag} {mg : Str → Option Value} {base : Heap} {k : Nat} {f : Addr} {fd : FuncData} {ps : List Str} : h8 P w K mg base k f fd ps HV :=
 ⟨fun A outer s H args us vs Q E hr hg e0 hb r hl ⟨_, _, _, _, _, _, _, p⟩ => p.elim⟩
def tP (n : Nat) (r : vZ) : MG := fun d σ w => match oH d with
 | some xs => if n ≤ xs.length ∧ xs.length ≤ sizeLine then r (xs.take n ++ [.lst (xs.drop n)]) σ w else .bad
 | none => .bad
def anyM : MF := fun ds w => match ds with
 | [d] => (match (oH d).bind eO with
  | some ns => .ok (.bl (ns.any fun n => n != 0)) w
  | none => match (hX d w).bind rF with
   | some bs => .ok (.bl (bs.any id)) w
   | none => .bad)
 | _ => .bad
def xP (xs : List D) : List D := (List.range xs.length).zipWith (fun i x => D.tup [.int (i : Nat), x]) xs
def j3 (ds : List D) (w : W) : Res gF := match ds with
 | [.lst xs] => .ok ⟨xP xs, always⟩ w
 | [.ref i] => (match w[i]? with
  | some (.lst xs) => .ok ⟨xP xs, holds i (.lst xs)⟩ w
  | _ => .bad)
 | _ => .bad
end Pc
namespace L2
open PySem PySem.Spec PyProof.Rows
def smallKey : List Key → Bool
 | [.inl a, .inl s, .inl r] => (decide (0 ≤ a) && decide (a < 4)) && ((decide (0 ≤ s) && decide (s < 6)) && (decide (0 ≤ r) && decide (r < 10)))
 | _ => false
end L2
namespace Pc
open PySem PySem.Spec PyProof.Rows L2
open Classical in
def HB (it : gF) (vs : List Nat) (g : MG) (t : MT) (ek ev : ME) : List D → List (List Key × D) → Sg → W → Res (List (List Key × D))
 | [], acc, σ, w => if it.ok w then .ok acc w else .bad
 | x :: xs, acc, σ, w => if it.ok w then (g x (e8 σ vs) w).zC.bind fun σ1 w1 => (t σ1 w1).zC.bind fun b w2 =>
   if b = true then (ek σ1 w2).zC.bind fun k w3 => (ev σ1 w3).zC.bind fun v w4 => match k with
    | .tup ks => (match iN ks with
     | some kk => if acc.length < sizeLine then HB it vs g t ek ev xs (putD acc kk v) σ w4 else .bad
     | none => .bad)
    | _ => .bad
   else HB it vs g t ek ev xs acc σ w2
  else .bad
def GZ (m : MI) (vs : List Nat) (g : MG) (t : MT) (ek ev : ME) : ME := fun σ w => (m σ w).bind fun it w1 => (HB it vs g t ek ev it.xs [] σ w1).bind fun kvs w2 => .ok (.ref w2.length) (w2 ++ [.dT kvs])
theorem aJ.len {κ : Type} {K : PySem.W.Frag} {I : List Addr} {F : Hp} : ∀ {ds : List (κ × D)} {vs : List (κ × V)}, aJ K I F ds vs → ds.length = vs.length
 | [], vs, h => by simp only [aJ] at h; subst h; rfl
 | (k, d) :: ds, vs, h => by
  simp only [aJ] at h
  obtain ⟨v, r, rfl, _, h3⟩ := h
  simp [aJ.len h3]
def pairOf : D → Option (List Key × D)
 | .tup [.tup ks, v] => (iN ks).map fun k => (k, v)
 | _ => none
def pairsOf : List D → Option (List (List Key × D))
 | [] => some []
 | d :: ds => match pairOf d, pairsOf ds with
  | some p, some ps => some (p :: ps)
  | _, _ => none
def FA : MF := fun ds w => match ds with
 | [.ref i] => (match w[i]? with
  | some (.dK kvs) => .ok (.ref w.length) (w ++ [.dK kvs])
  | some (.dT kvs) => if (kvs.all fun p => smallKey p.1) = true then .ok (.ref w.length) (w ++ [.dT kvs]) else .bad
  | _ => .bad)
 | [.lst ps] => (match pairsOf ps with
  | some kvs => .ok (.ref w.length) (w ++ [.dT (sE [] kvs)])
  | none => .bad)
 | _ => .bad
def FI (tab : List (Str × Option D)) (ys : List D) (w : W) : Res D := match ys with
 | [.str z, y] => (match tab.lookup z with
  | some o => .ok (o.getD y) w
  | none => .bad)
 | _ => .bad
def EA (d : Addr) (tab : List (Str × Option D)) (mo : ME) (ma : MA) : ME := fun σ w => (mo σ w).bind fun x w1 => match x with
 | .con a => if a = d then (ma σ w1).bind fun ys w2 => FI tab ys w2 else .bad
 | _ => .bad
end Pc
namespace L2
open PySem PySem.Spec PyProof.Rows
open PySem.W (EachIs AllAlike Sortable dataLe)
def H9 (a b : Int) : Bool := decide (a ≤ b)
end L2
namespace Pc
open PySem PySem.Spec PyProof.Rows L2
def yR : MF := fun ds w => match ds with
 | [.tup xs] => (match eO xs with
  | some ns => .ok (.lst ((ns.mergeSort H9).map D.int)) w
  | none => .bad)
 | ds => uF ds w
def AQ (n : Nat) (r : vZ) : MG := fun d σ w => match DD d w with
 | some xs => if xs.length = n then r xs σ w else .bad
 | none => .bad
open RZ (nextOf_tuple_item nextOf_tuple_end)
def HS (ds : List D) (w : W) : Res gF := match ds with
 | [.tup xs, .lst ys] => if xs.length = ys.length then .ok ⟨(xs.zip ys).map fun p => .tup [p.1, p.2], always⟩ w else .bad
 | _ => .bad
end Pc
namespace Pc
open PySem PySem.Spec PyProof.Rows L2 PySem.W
def HQ (x y : D) (w : W) : Res D := match x, y with
 | .ref i, .ref j => (match w[i]?, w[j]? with
  | some (.dT kvs), some (.dT []) => .ok (.bl kvs.isEmpty) w
  | _, _ => .bad)
 | _, _ => .bad
end Pc
namespace Pc
open PySem PySem.Spec PyProof.Rows L2
def G0 (C : Addr) (nm : Str) (x : D) (w : W) : Option Nat := match x with
 | .ref i => (match w[i]? with
  | some (.ins C' fs) => if C' = C ∧ fs.lookup nm = none then some i else none
  | _ => none)
 | _ => none
def jG (C : Addr) (nm : Str) (m : MF) (n : Nat) (gd : List D → List D → List D) (mo : ME) (ma : MA) : ME := fun σ w => (mo σ w).bind fun x w1 => match G0 C nm x w1 with
 | some i => (ma σ w1).bind fun xs w2 => if xs.length + 1 = n then m (gd (.ref i :: xs) []) w2 else .bad
 | none => .bad
def zD : yS := fun d ds w => match d, ds with
 | .ref i, [.tup zs] => (match w[i]? with
  | some (.lst xs) => if xs.length + zs.length ≤ sizeLine then .ok .non (w.set i (.lst (xs ++ zs))) else .bad
  | _ => .bad)
 | _, _ => .bad
def C5 (ns ms : List Int) : Bool := Ob.lexAt (fun j => decide (ns.getD j 0 = ms.getD j 0)) (fun j => decide (ns.getD j 0 ≤ ms.getD j 0)) (decide (ns.length ≤ ms.length)) 0 (min ns.length ms.length)
def HL (x y : D) (w : W) : Res D := match x, y with
 | .int a, .int b => .ok (.bl (decide (a ≤ b))) w
 | .tup a, .tup b => (match eO a, eO b with
  | some ns, some ms => .ok (.bl (C5 ns ms)) w
  | _, _ => .bad)
 | _, _ => .bad
def D4 (x y : D) (w : W) : Res D := match DD x w, DD y w with
 | some a, some b => if a.length + b.length ≤ sizeLine then .ok (.ref w.length) (w ++ [.lst (a ++ b)]) else .bad
 | _, _ => .bad
end Pc
namespace He
open PySem PySem.Spec PyProof.Rows L2
abbrev DN : Type := AlT × Bool
def z0 (as : List Addr) (fa : List Fa) (fn : List DefD) (ts : List Tab) (ex : PySem.W.Frag → Bool) (g : Addr → Option Obj) : DN := (obsT fa fn ts (frT g as), ex (frT g as))
def FC (fn : List DefD) (ts : List Tab) (w : World) : DN := (valT fn ts w, true)
theorem wG {as : List Addr} {fa : List Fa} {fn : List DefD} {ts : List Tab} {ex : PySem.W.Frag → Bool} {w : World} {h : Heap} (e : z0 as fa fn ts ex h.get? = FC fn ts w) : SaysX fa fn ts [] ex w h (frT h.get? as) :=
 ⟨congrArg (fun z : DN => z.1) e, congrArg (fun z : DN => z.2) e, (fun _ hp => nomatch hp), (fun _ hp => nomatch hp), (fun _ hp => nomatch hp)⟩
def AN (as : List Addr) (fa : List Fa) (fn : List DefD) (ts : List Tab) (ex : PySem.W.Frag → Bool) : PySem.W.Hook where
 α := DN
 obs := fun s => z0 as fa fn ts ex s.heap.get?
 val := fun w => FC fn ts w
 says := fun w h => ∃ K : PySem.W.Frag, K.In h ∧ SaysX fa fn ts [] ex w h K
 of := fun _ _ e => ⟨_, frT_in, wG e⟩
 keeps := fun _ _ _ ⟨K, hK, c⟩ k => ⟨K, PySem.W.Frag.In.keeps hK k, ⟨c.t, c.more, c.hd, c.out, (fun _ hp => nomatch hp)⟩⟩
theorem y9 {as : List Addr} {fa : List Fa} {fn : List DefD} {ts : List Tab} {ex : PySem.W.Frag → Bool} {g : Addr → Option Obj} {s : Shared} (h : ∀ a, g a = s.heap.get? a) : z0 as fa fn ts ex g = (AN as fa fn ts ex).obs s := by
 have e : g = s.heap.get? := funext h
 rw [e]
 rfl
theorem AS {α β γ δ : Type} {e : Option α} {f : α → β} {g : α → γ} {h : α → δ} {a : β} {b : γ} {c : δ} (h1 : e.map (fun s => (f s, g s)) = some (a, b)) (h2 : e.map h = some c) : e.map (fun s => (f s, g s, h s)) = some (a, b, c) := by
 cases e with
 | none => exact nomatch h1
 | some s => 
  have q : (f s, g s) = (a, b) := Option.some.inj h1
  have q2 : h s = c := Option.some.inj h2
  have q3 := congrArg Prod.fst q
  have q4 := congrArg Prod.snd q
  show some (f s, g s, h s) = some (a, b, c)
  rw [q2, show f s = a from q3, show g s = b from q4]
end He
namespace Pc
open PySem PySem.Spec PyProof.Rows L2
def calm {α : Type} : Res α → Res α
 | .ok a w => .ok a w
 | _ => .bad
def Top (X : Cx) : Prop := X.stack = X.env :: X.outer ∧ X.env.frame = some X.env.locals
def ID (S : aV) (st : Stmt) (m : MS) : Prop := ∀ X E, Ctx S X → hH X E → Top X → PS X st (q8 X.K E m)
def GD (S : aV) (st : List Stmt) (m : MS) : Prop := ∀ X E, Ctx S X → hH X E → Top X → PSs X st (q8 X.K E m)
theorem JS.t {S : aV} {st : Stmt} {m : MS} (h : JS S st m) : ID S st m := fun X E cx xo _ => h X E cx xo
theorem oW.t {S : aV} {st : List Stmt} {m : MS} (h : oW S st m) : GD S st m := fun X E cx xo _ => h X E cx xo
abbrev Ez : XK := fun _ _ _ => False
theorem aS.calm {α β : Type} {K : PySem.W.Frag} {I : List Addr} {F G : Hp} {E : XK} {R : List Addr → Hp → Hp → β → W → Prop} {r : Res α} {f : α → W → Res β} (p : aS K I F G E R ((Pc.calm r).bind f)) : aS K I F G Ez (fun I1 F1 _ x w1 => aS K I1 F1 G E R (f x w1)) r := by
 cases r with
 | ok a w => exact fun I' F' H' e rel => aS.ext p e
 | pM x w => exact False.elim p
 | bad => exact False.elim p
theorem Rel.hold {K : PySem.W.Frag} {I : List Addr} {F G H : Hp} {w : W} {x : XD} {c : Value} {d : Option Addr} (rel : Rel K I F G w H) (rx : kO K I F H x c d) :
  ∃ G', Rel K I F G' w H ∧ (∀ I2 F2 w2 H2, Ext I F I2 F2 → Rel K I2 F2 G' w2 H2 → Rel K I2 F2 G w2 H2 ∧ kO K I2 F2 H2 x c d) := by
 obtain ⟨ec, hx⟩ := rx
 cases hf : x.fs with
 | none =>
  rw [hf] at hx
  exact ⟨G, rel, fun I2 F2 w2 H2 e r2 => ⟨r2, ec, by rw [hf]; exact hx⟩⟩
 | some fs =>
  rw [hf] at hx
  obtain ⟨a, r, e1, e2, e3⟩ := hx
  have fin : ∀ {I2 F2 H2}, Ext I F I2 F2 → H2 a = some (.xd r) → kO K I2 F2 H2 x c d := fun e h => ⟨ec, by rw [hf]; exact ⟨a, r, e1, h, aJ.ext e _ _ e3⟩⟩
  have nI : a ∉ I := fun hm => by
   obtain ⟨i, hi⟩ := List.mem_iff_getElem?.mp hm
   have li : i < w.length := by rw [← rel.len]; exact (ae.mp hi).1
   obtain ⟨u, h1, h2⟩ := rel.ob i a w[i] hi (ar li)
   rw [e2] at h1
   cases h1
   cases hw : w[i] with
   | lst xs => rw [hw] at h2; obtain ⟨_, z, _⟩ := h2; cases z
   | dK xs => rw [hw] at h2; obtain ⟨_, z, _⟩ := h2; cases z
   | dT xs => rw [hw] at h2; obtain ⟨_, z, _⟩ := h2; cases z
   | dF xs => rw [hw] at h2; obtain ⟨_, _, z, _⟩ := h2; cases z
   | dG xs => rw [hw] at h2; obtain ⟨_, _, z, _⟩ := h2; cases z
   | ins C xs => rw [hw] at h2; obtain ⟨_, _, z, _⟩ := h2; cases z
  cases hF : F a with
  | some u =>
   have hu := rel.fz a u hF
   rw [e2] at hu
   cases hu
   exact ⟨G, rel, fun I2 F2 w2 H2 e r2 => ⟨r2, fin e (r2.fz a _ (e.f a _ hF))⟩⟩
  | none =>
   cases hG : G a with
   | some u =>
    have hu := rel.gz a u hG
    rw [e2] at hu
    cases hu
    exact ⟨G, rel, fun I2 F2 w2 H2 e r2 => ⟨r2, fin e (r2.gz a _ hG)⟩⟩
   | none =>
    refine ⟨L2.upd G a (.xd r), ⟨rel.len, rel.nd, rel.ob, rel.fz, rel.ap, fun b v hb => ?_, fun b v hb => ?_, fun b xs hb => ?_⟩, fun I2 F2 w2 H2 e r2 => ⟨r2.less hG, fin e (r2.gz a _ upd_same)⟩⟩
    ·by_cases q : b = a
     ·subst q
      rw [upd_same] at hb
      cases hb
      exact e2
     ·rw [upd_ne q] at hb
      exact rel.gz b v hb
    ·by_cases q : b = a
     ·subst q
      exact ⟨hF, nI⟩
     ·rw [upd_ne q] at hb
      exact rel.gf b v hb
    ·by_cases q : b = a
     ·subst q
      rw [upd_same] at hb
      cases hb
     ·rw [upd_ne q] at hb
      exact rel.gt b xs hb
def FJ (K : PySem.W.Frag) : Prop := ∃ o, K.lookup sysModules = some o ∧ o.cls = .type "dict"
mutual
inductive Dq (K : PySem.W.Frag) (H : Hp) : V → PyData → Prop
 | non : Dq K H .non .none
 | bl (b : Bool) : Dq K H (.bl b) (.bool b)
 | int (i : Int) : Dq K H (.int i) (.int i)
 | str (x : Str) : Dq K H (.str x) (.str x)
 | lst {a : Addr} {xs : List V} {ds : List PyData} : SqL K H a xs → DqAll K H xs ds → Dq K H (.ref a) (.list ds)
 | tup {a : Addr} {xs : List V} {ds : List PyData} : SqT K H a xs → DqAll K H xs ds → Dq K H (.ref a) (.tuple ds)
 | emp {a : Addr} : (H a = some (.dK []) ∨ H a = some (.dT [])) → Dq K H (.ref a) (.dict [])
inductive DqAll (K : PySem.W.Frag) (H : Hp) : List V → List PyData → Prop
 | nil : DqAll K H [] []
 | cons {v : V} {vs : List V} {d : PyData} {ds : List PyData} : Dq K H v d → DqAll K H vs ds → DqAll K H (v :: vs) (d :: ds)
end
theorem zP {P : Program} {w : World} {H : Hp} {h : Heap} {a : Addr} {o : HO} (x : ObjOk P w H h a o) (e : o = .dK [] ∨ o = .dT []) : (a == sysModules) = false ∧ ∃ ob es n, h.get? a = some ob ∧ ob.cls = .type "dict" ∧ ob.data = .dict es n ∧ es.toList = [] := by
 rcases e with rfl | rfl
 ·obtain ⟨_, ns, vs, kv, o, es, n, e1, e2, e3, e4, e5⟩ := x
  cases kv
  have e6 := e5.1
  refine ⟨ns, o, es, n, e1, e2.1, e3, ?_⟩
  generalize es.toList = l at e6
  cases l with
  | nil => rfl
  | cons x l => cases e6
 ·obtain ⟨_, ns, xs, pr, o, es, n, e1, e2, e3, e4, e5⟩ := x
  cases pr
  exact ⟨ns, o, es, n, e1, e2.1, e3, by rw [e4]; rfl⟩
section
variable {X : Cx} {pins : List (Addr × Obj)} {σ : L2.St} {H : Hp} {s : Shared}
mutual
theorem Dq.reads (hS : FJ X.K) (I : Inv X pins σ H s) : ∀ (d : PyData) (v : V) (u : Value), Dq X.K H v d → RelV v u → ∃ as, Reads s.heap u d as ∧ sysModules ∉ as
 | .none, _, _, h, r => by
  cases h
  cases r
  exact ⟨_, Reads.none, by simp⟩
 | .bool b, _, _, h, r => by
  cases h
  cases r
  exact ⟨_, Reads.bool b, by simp⟩
 | .int i, _, _, h, r => by
  cases h
  obtain ⟨t, rfl⟩ := r
  exact ⟨_, Reads.int i t, by simp⟩
 | .str x, _, _, h, r => by
  cases h
  obtain ⟨t, rfl⟩ := r
  exact ⟨_, Reads.str x t, by simp⟩
 | .list ds, _, _, h, r => by
  cases h with
  | lst hs ha =>
   cases r
   obtain ⟨its, rv, ⟨o, n, ho, hc, _, hd⟩, _⟩ := I.list hs
   obtain ⟨as, hr, ns⟩ := Dq.readsAll hS I ds _ its ha rv
   refine ⟨_, Reads.list ho hc hd hr, fun hm => ?_⟩
   rcases List.mem_cons.mp hm with e | e
   ·obtain ⟨o2, h1, h2⟩ := hS
    have := I.kIn _ _ h1
    rw [e, ho] at this
    cases this
    rw [h2] at hc
    exact absurd (Value.type.inj hc) (by decide)
   ·exact ns e
 | .tuple ds, _, _, h, r => by
  cases h with
  | tup hs ha =>
   cases r
   obtain ⟨its, rv, ⟨o, ho, hc, n, hd⟩, _⟩ := I.tuple hs
   obtain ⟨as, hr, ns⟩ := Dq.readsAll hS I ds _ its ha rv
   exact ⟨_, Reads.tuple ho hc hd hr, ns⟩
 | .dict kvs, _, _, h, r => by
  cases h with
  | emp he =>
   cases r
   rename_i a
   have hx : ∃ o, H a = some o ∧ (o = .dK [] ∨ o = .dT []) := by
    rcases he with he | he
    ·exact ⟨_, he, .inl rfl⟩
    ·exact ⟨_, he, .inr rfl⟩
   obtain ⟨o, h1, h2⟩ := hx
   obtain ⟨ne, ob, es, n, e1, e2, e3, e4⟩ := zP (I.hok a o h1) h2
   have r0 : ReadsAll s.heap (es.toList.map (·.key)) (([] : List (PyData × PyData)).map (·.1)) [] := by rw [e4]; exact .nil
   have r1 : ReadsAll s.heap (es.toList.map (·.val)) (([] : List (PyData × PyData)).map (·.2)) [] := by rw [e4]; exact .nil
   refine ⟨_, Reads.dict e1 e2 e3 r0 r1, fun hm => ?_⟩
   have : sysModules = a := by simpa using hm
   rw [← this] at ne
   simp at ne
theorem Dq.readsAll (hS : FJ X.K) (I : Inv X pins σ H s) : ∀ (ds : List PyData) (vs : List V) (us : List Value), DqAll X.K H vs ds → Vals vs us → ∃ as, ReadsAll s.heap us ds as ∧ sysModules ∉ as
 | [], _, _, h, r => by
  cases h
  cases r
  exact ⟨_, ReadsAll.nil, by simp⟩
 | d :: ds, _, _, h, r => by
  cases h with
  | cons h1 h2 =>
   cases r with
   | cons r1 r2 =>
    obtain ⟨as, q1, n1⟩ := Dq.reads hS I d _ _ h1 r1
    obtain ⟨bs, q2, n2⟩ := Dq.readsAll hS I ds _ _ h2 r2
    exact ⟨_, ReadsAll.cons q1 q2, fun hm => by
     rcases List.mem_append.mp hm with e | e
     ·exact n1 e
     ·exact n2 e⟩
end
end
section
variable {K : PySem.W.Frag} {I : List Addr} {F G H : Hp} {w : W}
mutual
theorem CN (rel : Rel K I F G w H) {f : Nat → Option PyData} (hf : ∀ i a p, I[i]? = some a → f i = some p → Dq K H (.ref a) p) : ∀ (d : D) (v : V) (p : PyData), aF K I F d v → d.cW f = some p → Dq K H v p
 | .non, v, p, h, e => by simp only [aF] at h; simp only [D.cW, aa] at e; subst h; subst e; exact .non
 | .bl b, v, p, h, e => by simp only [aF] at h; simp only [D.cW, aa] at e; subst h; subst e; exact .bl b
 | .int i, v, p, h, e => by simp only [aF] at h; simp only [D.cW, aa] at e; subst h; subst e; exact .int i
 | .str x, v, p, h, e => by simp only [aF] at h; simp only [D.cW, aa] at e; subst h; subst e; exact .str x
 | .ty _, v, p, h, e => by simp [D.cW] at e
 | .con _, v, p, h, e => by simp [D.cW] at e
 | .uA _ _, v, p, h, e => by simp [D.cW] at e
 | .tup xs, v, p, h, e => by
  simp only [aF] at h
  obtain ⟨a, vs, rfl, h2, h3⟩ := h
  simp only [D.cW, ab] at e
  obtain ⟨ps, e1, rfl⟩ := e
  exact .tup (.of (rel.fz _ _ h2)) (dq_pysR rel hf xs vs ps h3 e1)
 | .i4 xs, v, p, h, e => by
  simp only [aF] at h
  obtain ⟨a, vs, rfl, h2, h3⟩ := h
  simp only [D.cW, ab] at e
  obtain ⟨ps, e1, rfl⟩ := e
  exact .tup (rel.y5 h2) (dq_pysR rel hf xs vs ps h3 e1)
 | .lst xs, v, p, h, e => by
  simp only [aF] at h
  obtain ⟨a, vs, rfl, h2, h3⟩ := h
  simp only [D.cW, ab] at e
  obtain ⟨ps, e1, rfl⟩ := e
  exact .lst (.of (rel.fz _ _ h2)) (dq_pysR rel hf xs vs ps h3 e1)
 | .fM xs, v, p, h, e => by
  simp only [aF] at h
  obtain ⟨a, vs, rfl, h2, h3⟩ := h
  simp only [D.cW, ab] at e
  obtain ⟨ps, e1, rfl⟩ := e
  exact .lst (rel.yL h2) (dq_pysR rel hf xs vs ps h3 e1)
 | .ref i, v, p, h, e => by
  simp only [aF] at h
  obtain ⟨a, rfl, h2⟩ := h
  simp only [D.cW] at e
  exact hf i a p h2 e
theorem dq_pysR (rel : Rel K I F G w H) {f : Nat → Option PyData} (hf : ∀ i a p, I[i]? = some a → f i = some p → Dq K H (.ref a) p) : ∀ (ds : List D) (vs : List V) (ps : List PyData), RepL K I F ds vs → D.pysR f ds = some ps → DqAll K H vs ps
 | [], vs, ps, h, e => by simp only [RepL] at h; simp only [D.pysR, aa] at e; subst h; subst e; exact .nil
 | d :: ds, vs, ps, h, e => by
  simp only [RepL] at h
  obtain ⟨v, r, rfl, h2, h3⟩ := h
  simp only [D.pysR] at e
  split at e
  ·rename_i p ps' e1 e2
   cases e
   exact .cons (CN rel hf d v p h2 e1) (dq_pysR rel hf ds r ps' h3 e2)
  ·cases e
end
end
end Pc
namespace L2
open PySem PySem.Spec PyProof.Rows
def pL (s s' : Shared) : Prop := ∃ h' tk, s' = { s with heap := h', toks := tk } ∧ ∀ b o, s.heap.get? b = some o → h'.get? b = some o
theorem pL.refl {s : Shared} : pL s s := ⟨s.heap, s.toks, rfl, fun _ _ z => z⟩
theorem pL.trans {a b c : Shared} (h1 : pL a b) (h2 : pL b c) : pL a c := by
 obtain ⟨h, t, rfl, k⟩ := h1
 obtain ⟨h', t', rfl, k'⟩ := h2
 exact ⟨h', t', rfl, fun x o z => k' x o (k x o z)⟩
section
variable {X : Cx} {pins : List (Addr × Obj)} {σ : St} {H : Hp} {s : Shared} {E : Value → Shared → Prop} {t : Addr} {x : Str} {p1 p2 p3 p4 p5 p6 p7 p8 p9 p10 : Pos} {xs : List V}
theorem zL {i : Nat} {v : V} (I : Inv X pins σ H s) (hN : X.N[i]? = some x) (e : σ[i]? = some (some v)) (hv : Vis X.env.scope x) (hd : (x == ("__debug__" : Str)) = false) (hcd : (x == ("__classdict__" : Str)) = false) :
  ∃ u, RelV v u ∧ ∀ {Q : Value → Shared → Prop}, Q u s → wpAny (model X.prog X.w) X.A (eval (.Name x p1) X.env) Q E s := by
 obtain ⟨m, hn, hl⟩ := I.loc
 obtain ⟨u, r, l⟩ := hl i x v hN e hv
 refine ⟨u, r, fun {Q} fin => ?_⟩
 rcases l with ⟨hk, hm⟩ | ⟨hk, c, hc, hcell⟩
 ·exact wpAny_Name (wpAny_loadName_local I.ok.kind hk hn hm fin) hd
 ·rcases hk with hk | hk
  ·exact wpAny_Name (wpAny_loadName_cell I.ok.kind hk hc hcell fin) hd
  ·exact wpAny_Name (wpAny_loadName_free I.ok.kind hk hc hcell fin hcd) hd
theorem t7 {i kk : Nat} {c k : Int} (I : Inv X pins σ H s) (hN : X.N[i]? = some x) (e : σ[i]? = some (some (.ref t))) (hv : Vis X.env.scope x) (hd : (x == ("__debug__" : Str)) = false) (hcd : (x == ("__classdict__" : Str)) = false)
  (hq : SqT X.K H t xs) (he : atI xs k = some (.int c)) {Q : Value → Shared → Prop} (h : ∀ tk tk', Q (.int c tk) { s with toks := tk' }) :
  wpAny (model X.prog X.w) X.A (eval (.Subscript (.Name x p1) (.Constant (.int k) kk p2) p3) X.env) Q E s := by
 obtain ⟨u, ru, hu⟩ := zL (p1 := p1) (E := E) I hN e hv hd hcd
 cases (show u = Value.ref t from ru)
 refine Subscript_ (hu (wpAny_Constant_int ?_))
 have I1 := I.tok (s.toks + 1)
 obtain ⟨its, r, pl, hz⟩ := I1.tuple hq
 obtain ⟨j, h1, h2, h3, h4, h5⟩ := atI_get he
 obtain ⟨w, ew, rw'⟩ := r.get h2
 obtain ⟨tk, rfl⟩ := (show ∃ tk, w = Value.int c tk from rw')
 have hl := r.length
 have hn := line63
 exact subscriptTail_builtinR (x := .int c tk) pl.typeIs slot_tuple_getitem.lookup
  (getItem_tuple (j := j) (Q := fun r s' => r = .int c tk ∧ Q r s') pl (by omega) (by omega) (by rw [List.size_toArray, ← hl]; exact h1) (by simpa using ew) ⟨rfl, h tk _⟩) (by rfl)
theorem CO {i k1 k2 k3 k4 : Nat} {a c : Int} (I : Inv X pins σ H s) (hN : X.N[i]? = some x) (e : σ[i]? = some (some (.ref t))) (hv : Vis X.env.scope x) (hd : (x == ("__debug__" : Str)) = false) (hcd : (x == ("__classdict__" : Str)) = false)
  (hq : SqT X.K H t [.int a, .int c]) {Q : Flow → Shared → Prop} (h : ∀ v s', pL s s' → Reads s'.heap v (.tuple [.int (0 - a), .int c]) [] → Q (.ret v) s')
  (hs : starEach [.BinOp (.Constant (.int 0) k1 p1) .Sub (.Subscript (.Name x p2) (.Constant (.int 0) k2 p3) p4) p5, .Subscript (.Name x p6) (.Constant (.int 1) k3 p7) p8] X.env = [(false, eval (.BinOp (.Constant (.int 0) k1 p1) .Sub (.Subscript (.Name x p2) (.Constant (.int 0) k2 p3) p4) p5) X.env), (false, eval (.Subscript (.Name x p6) (.Constant (.int 1) k3 p7) p8) X.env)] := by rfl) :
  wpAny (model X.prog X.w) X.A (exec (.Return (some (.Tuple [.BinOp (.Constant (.int 0) k1 p1) .Sub (.Subscript (.Name x p2) (.Constant (.int 0) k2 p3) p4) p5, .Subscript (.Name x p6) (.Constant (.int 1) k3 p7) p8] k4 p9)) p10) X.env) Q E s := by
 refine wpAny_Return_some (wpAny_Tuple_spliced ?_)
 rw [hs]
 show wpAny _ _ (spliced [(false, eval (.BinOp (.Constant (.int 0) k1 p1) .Sub (.Subscript (.Name x p2) (.Constant (.int 0) k2 p3) p4) p5) X.env), (false, eval (.Subscript (.Name x p6) (.Constant (.int 1) k3 p7) p8) X.env)]) _ _ s
 refine Calls.spliced_cons (wpAny_BinOp (wpAny_Constant_int ?_))
 refine t7 (I.tok _) hN e hv hd hcd hq (show atI [V.int a, V.int c] 0 = some (.int a) from rfl) fun tk tk' => ?_
 refine sub_int ?_
 refine Calls.spliced_cons (t7 (I.tok _) hN e hv hd hcd hq (show atI [V.int a, V.int c] 1 = some (.int c) from rfl) fun tk2 tk3 => Calls.spliced_nil ⟨by rw [sizeLine_eq]; simp, ?_⟩)
 refine h _ _ ⟨_, _, rfl, fun b o z => Heap.get?_push_of_some _ z⟩ ?_
 exact Reads.tuple (as := []) (Heap.get?_push_size _ rfl) rfl rfl (ReadsAll.cons (as := []) (bs := []) (Reads.int _ _) (ReadsAll.cons (as := []) (bs := []) (Reads.int _ _) ReadsAll.nil))
theorem zJ {f : Addr} {fd : FuncData} {qual nm : Str} {params : Arguments} {body : List Stmt} {scope : Scope} {k1 k2 k3 k4 : Nat} {a c : Int} (I : Inv X pins σ H s) (room : Room 2 X.A) (F : FunD X.K nm qual params body scope [] [] f fd) (Sc : FnScope [x] [x] scope)
  (hb : body = [.Return (some (.Tuple [.BinOp (.Constant (.int 0) k1 p1) .Sub (.Subscript (.Name x p2) (.Constant (.int 0) k2 p3) p4) p5, .Subscript (.Name x p6) (.Constant (.int 1) k3 p7) p8] k4 p9)) p10])
  (hv : Vis scope x) (hd : (x == ("__debug__" : Str)) = false) (hcd : (x == ("__classdict__" : Str)) = false)
  (hs : ∀ env : Env, starEach [.BinOp (.Constant (.int 0) k1 p1) .Sub (.Subscript (.Name x p2) (.Constant (.int 0) k2 p3) p4) p5, .Subscript (.Name x p6) (.Constant (.int 1) k3 p7) p8] env = [(false, eval (.BinOp (.Constant (.int 0) k1 p1) .Sub (.Subscript (.Name x p2) (.Constant (.int 0) k2 p3) p4) p5) env), (false, eval (.Subscript (.Name x p6) (.Constant (.int 1) k3 p7) p8) env)])
  (hbnd : ∀ (s : Shared) (us : List Value), us.length = 1 → BindsTo s fd ⟨us, []⟩ ([x].zip us)) (hq : SqT X.K H t [.int a, .int c]) :
  wpAny (model X.prog X.w) X.A.in1.in1 (call (.ref f) [.ref t]) (PySem.W.KeyPure (.tuple [.int (0 - a), .int c]) s) E s := by
 subst hb
 have e0 := I.env0.in1.in1
 have hr : Room 1 X.A.in1.in1 := ⟨room.hd, by have := room.dp; show X.A.depth + 3 * 1 + 5 < _; omega, by have := room.un; show X.A.units + 1 + 1 + 16 * 1 + 200 < _; omega⟩
 obtain ⟨oc, od, dV, kV, doc, pm, an, cdv, ct, osl, rfl, lk, hcd', _, _⟩ := F.ex
 have KX : X.K.In s.heap := I.kIn
 have lim : s.heap.NoLimit := e0.mod.nolimit.keeps fun b o e => (e0.bs b o e).1
 have hlk := Sc.par x (List.mem_singleton.mpr rfl)
 refine wpAny_call (codeAny_call_function hr.depth (KX _ _ lk) rfl Sc.co Sc.gen rfl (PySem.W.codeRec_of KX hcd') (hbnd _ _ rfl _ _ _ _ ?_))
 refine wpAny_newFunctionEnv_cells Sc.kind (fun y hy => ?_) fun env he s1 y => ?_
 ·obtain rfl : y = (x, Value.ref t) := by simpa using hy
  rcases hlk with q | q
  ·exact Or.inl q
  ·exact Or.inr ⟨q, PySem.W.cellsFrom_some _ _ _ (.inl q)⟩
 subst he
 refine ⟨lim.keeps y.toInCall.keep, codeAny_func ?_⟩
 have r : Vals [V.ref t] [Value.ref t] := .cons rfl .nil
 have J := inv_start (CX := fun _ _ _ _ _ _ => False) (E := fun _ _ _ => False) (qual := qual) (f := f) (cd := cdv) Sc hr.hd e0 (vs := [V.ref t]) rfl r y
 have gr : pL s s1 := y.done
 refine wpAny_execs_cons ?_
 refine CO (X := cxOf (fun _ _ _ _ _ _ => False) X.prog X.w X.K X.mg X.base [x] qual scope f cdv X.A.in1.in1 X.stack s H (fun _ _ _ => False)) (i := 0) (t := t) J rfl rfl hv hd hcd hq (fun v s' g rd => ?_) (hs _)
 obtain ⟨h', tk, e, kp⟩ := gr.trans g
 subst e
 exact ⟨h', tk, rfl, kp, rd⟩
end
abbrev P3 := Addr × Int × Int
def oA (p q : Int × Int) : Bool := decide (0 - p.1 < 0 - q.1 ∨ (0 - p.1 = 0 - q.1 ∧ p.2 ≤ q.2))
def xO (K : PySem.W.Frag) (f : Addr) : List V → List V → Hp → VK → Prop := fun vs zs H Q => ∃ (l : Addr) (L : List P3), vs = [V.ref l] ∧ zs = [V.ref f] ∧ L.length ≤ 1000 ∧ SqL K H l (L.map fun q => V.ref q.1) ∧ (∀ q ∈ L, SqT K H q.1 [.int q.2.1, .int q.2.2]) ∧
 ∀ p : Addr, H p = none → Q (.ref p) (upd H p (.lst ((L.mergeSort fun p q => oA p.2 q.2).map fun q => V.ref q.1)))
theorem mU : ∀ {L : List P3} {us : List Value}, Vals (L.map fun q => V.ref q.1) us → PySem.W.EachIs (fun v (q : P3) => v = Value.ref q.1) us L
 | [], us, r => by cases r; exact .nil
 | q :: L, us, r => by
  cases r with
  | cons h t => exact .cons (show _ = Value.ref q.1 from h) (mU t)
theorem m7 : ∀ {L : List P3} {us : List Value}, PySem.W.EachIs (fun v (q : P3) => v = Value.ref q.1) us L → Vals (L.map fun q => V.ref q.1) us
 | [], us, r => by cases r; exact .nil
 | q :: L, us, r => by
  cases r with
  | cons h t => subst h; exact .cons rfl (m7 t)
section
variable {X : Cx} {x : Str} {p1 p2 p3 p4 p5 p6 p7 p8 p9 p10 : Pos}
theorem x6 {f : Addr} {fd : FuncData} {qual nm : Str} {params : Arguments} {body : List Stmt} {scope : Scope} {k1 k2 k3 k4 : Nat} (room : Room 2 X.A) (F : FunD X.K nm qual params body scope [] [] f fd) (Sc : FnScope [x] [x] scope)
  (hb : body = [.Return (some (.Tuple [.BinOp (.Constant (.int 0) k1 p1) .Sub (.Subscript (.Name x p2) (.Constant (.int 0) k2 p3) p4) p5, .Subscript (.Name x p6) (.Constant (.int 1) k3 p7) p8] k4 p9)) p10])
  (hv : Vis scope x) (hd : (x == ("__debug__" : Str)) = false) (hcd : (x == ("__classdict__" : Str)) = false)
  (hs : ∀ env : Env, starEach [.BinOp (.Constant (.int 0) k1 p1) .Sub (.Subscript (.Name x p2) (.Constant (.int 0) k2 p3) p4) p5, .Subscript (.Name x p6) (.Constant (.int 1) k3 p7) p8] env = [(false, eval (.BinOp (.Constant (.int 0) k1 p1) .Sub (.Subscript (.Name x p2) (.Constant (.int 0) k2 p3) p4) p5) env), (false, eval (.Subscript (.Name x p6) (.Constant (.int 1) k3 p7) p8) env)])
  (hbnd : ∀ (s : Shared) (us : List Value), us.length = 1 → BindsTo s fd ⟨us, []⟩ ([x].zip us)) : CallRK X (.builtin "sorted") [Str.ofString "key"] (xO X.K f) := by
 intro pins s σ H vs zs us ws Q I r rz h
 obtain ⟨l, L, rfl, rfl, hL, hl, hq, q⟩ := h
 obtain rfl := Vals.ref1 r
 obtain ⟨w1, rfl, e1⟩ := vals1 rz
 cases (show w1 = Value.ref f from e1)
 obtain ⟨its, rv, il, hz⟩ := I.list hl
 have hun := room.un
 refine PySem.W.sorted_key_data (b := false) (R := fun v (q : P3) => v = Value.ref q.1) (bs := L) (fun q => .tuple [.int (0 - q.2.1), .int q.2.2]) il.isList (mU rv) (PySem.W.AllAlike.of fun _ _ => by simp [PySem.W.alike, PySem.W.alikeAll]) (PySem.W.Sortable.tuples fun _ => ⟨_, _, rfl⟩) (by rw [sizeLine_eq]; omega) (fun q _ => ?_) (PyProof.Rows.ksk_s1 _ _) (fun _ => PyProof.Rows.ksk_l1 _ _) (fun _ => PyProof.Rows.ksk_t1 _ _)
  (fun v q hv' hm h tk kp => ?_) fun out c h' tk kp _ hD hlen eo => ?_
 ·have hd : (PyData.tuple [.int (0 - q.2.1), .int q.2.2]).depth = 1 := by simp [PyData.depth, PyData.depthAll]
  omega
 ·subst hv'
  have I1 : Inv X pins σ H { s with heap := h, toks := tk } := I.kept (t' := tk) kp
  exact zJ I1 room F Sc hb hv hd hcd hs hbnd (hq q hm)
 ·rw [PySem.W.dataLe_ii (β := P3) (fun q => 0 - q.2.1) (fun q => q.2.2)] at eo
  have hf : H (s.heap.objs.size + 1) = none := I.hok.fresh (Nat.le_succ _)
  have hn : ((L.mergeSort fun p q => oA p.2 q.2).map fun q => V.ref q.1).length ≤ sizeLine := by
   rw [ax, List.length_mergeSort, sizeLine_eq]
   omega
  exact ⟨.ref (s.heap.objs.size + 1), upd H (s.heap.objs.size + 1) (.lst ((L.mergeSort fun p q => oA p.2 q.2).map fun q => V.ref q.1)), I.laid (t' := tk) kp (Nat.le_succ _) ⟨hn, out, c, m7 eo, hD⟩, rfl, q _ hf⟩
end
end L2
namespace Pc
open PySem PySem.Spec PyProof.Rows L2
def t8 : D → Option (Int × Int)
 | .tup [.int a, .int c] => some (a, c)
 | _ => none
def iE : List D → Option (List (Int × Int))
 | [] => some []
 | d :: ds => match t8 d, iE ds with
  | some p, some ps => some (p :: ps)
  | _, _ => none
def aX (p : Int × Int) : D := .tup [.int p.1, .int p.2]
def jJ (d : D) (w : W) : Res D := match d with
 | .lst xs => (match iE xs with
  | some ps => if ps.length ≤ 1000 then .ok (.lst ((ps.mergeSort oA).map aX)) w else .bad
  | none => .bad)
 | _ => .bad
theorem rK {d : D} {p : Int × Int} (h : t8 d = some p) : d = aX p := by
 unfold t8 at h
 split at h
 ·cases h; rfl
 ·cases h
theorem uG {K : PySem.W.Frag} {I : List Addr} {F : Hp} : ∀ {xs : List D} {ps : List (Int × Int)} {vs : List V}, iE xs = some ps → RepL K I F xs vs → ∃ L : List P3, vs = (L.map fun q => V.ref q.1) ∧ ps = L.map (·.2) ∧ ∀ q ∈ L, F q.1 = some (.tup [.int q.2.1, .int q.2.2])
 | [], ps, vs, h, r => by
  simp only [iE, aa] at h
  subst h
  simp only [RepL] at r
  exact ⟨[], r, rfl, fun _ z => nomatch z⟩
 | d :: xs, ps, vs, h, r => by
  unfold iE at h
  split at h
  ·rename_i p ps' e1 e2
   cases h
   simp only [RepL] at r
   obtain ⟨v, t, rfl, rv, rt⟩ := r
   obtain ⟨L, rfl, rfl, hL⟩ := uG e2 rt
   obtain rfl := rK e1
   simp only [aX, aF] at rv
   obtain ⟨a, us, rfl, hF, ru⟩ := rv
   simp only [RepL, aF] at ru
   obtain ⟨_, _, rfl, rfl, _, _, rfl, rfl, rfl⟩ := ru
   refine ⟨(a, p) :: L, rfl, rfl, fun q hq => ?_⟩
   rcases List.mem_cons.mp hq with e | hq
   ·subst e; exact hF
   ·exact hL q hq
  ·cases h
theorem tL {K : PySem.W.Frag} {I : List Addr} {F : Hp} : ∀ {L : List P3}, (∀ q ∈ L, F q.1 = some (.tup [.int q.2.1, .int q.2.2])) → RepL K I F (L.map fun q => aX q.2) (L.map fun q => V.ref q.1)
 | [], _ => by simp [RepL]
 | q :: L, h => RepL.cons (by simp only [aX, aF]; exact ⟨q.1, _, rfl, h q (ao ..), RepL.cons (by simp [aF]) (RepL.cons (by simp [aF]) (by simp [RepL]))⟩) (tL fun q' hq => h q' (au _ hq))
theorem x7 {S : aV} {f : Addr} {fd : FuncData} {g x qual nm : Str} {params : Arguments} {body : List Stmt} {scope : Scope} {k1 k2 k3 k4 : Nat} {e : Expr} {me : ME} {p1 p2 p3 p4 p5 p6 p7 p8 p9 p10 q1 q2 q3 q4 : Pos} (hk : 2 ≤ S.k) (F : FunD S.K nm qual params body scope [] [] f fd) (Sc : FnScope [x] [x] scope)
  (hb : body = [.Return (some (.Tuple [.BinOp (.Constant (.int 0) k1 p1) .Sub (.Subscript (.Name x p2) (.Constant (.int 0) k2 p3) p4) p5, .Subscript (.Name x p6) (.Constant (.int 1) k3 p7) p8] k4 p9)) p10])
  (hv : Vis scope x) (hd : (x == ("__debug__" : Str)) = false) (hcd : (x == ("__classdict__" : Str)) = false)
  (hs : ∀ env : Env, starEach [.BinOp (.Constant (.int 0) k1 p1) .Sub (.Subscript (.Name x p2) (.Constant (.int 0) k2 p3) p4) p5, .Subscript (.Name x p6) (.Constant (.int 1) k3 p7) p8] env = [(false, eval (.BinOp (.Constant (.int 0) k1 p1) .Sub (.Subscript (.Name x p2) (.Constant (.int 0) k2 p3) p4) p5) env), (false, eval (.Subscript (.Name x p6) (.Constant (.int 1) k3 p7) p8) env)])
  (hbnd : ∀ (s : Shared) (us : List Value), us.length = 1 → BindsTo s fd ⟨us, []⟩ ([x].zip us))
  (hg1 : S.sc.names.lookup ("sorted" : Str) = some .globalImplicit) (hm1 : S.mg ("sorted" : Str) = none) (hg2 : S.sc.names.lookup g = some .globalImplicit) (hm2 : S.mg g = some (.ref f)) (he : JE S e me) (hgd : (g == ("__debug__" : Str)) = false := by decide)
  (h1 : ∀ env : Env, backTo q4 (starEach [e] env) = (false, eval e env) :: backTo q4 (starEach [] env) := by intro _; rfl) (h2 : ∀ env : Env, (backTo q4 (starEach [e] env)).any (·.1) = false := by intro _; rfl) (h3 : ∀ env : Env, starEach [e] env = (false, eval e env) :: starEach [] env := by intro _; rfl)
  (h4 : ∀ env : Env, (backToKw q4 (keywordEach [⟨some (Str.ofString "key"), .Name g q2, q3⟩] env)).all (·.1.isSome) = true := by intro _; rfl) (h5 : ∀ env : Env, (backToKw q4 (keywordEach [⟨some (Str.ofString "key"), .Name g q2, q3⟩] env)).any (·.1.isNone) = false := by intro _; rfl) (h6 : ∀ env : Env, (backToKw q4 (keywordEach [⟨some (Str.ofString "key"), .Name g q2, q3⟩] env)).filterMap (·.1) = [Str.ofString "key"] := by intro _; rfl) :
  JE S (.Call (.Name ("sorted" : Str) q1) [e] [⟨some (Str.ofString "key"), .Name g q2, q3⟩] q4) (m9 jJ me) := fun X E cx xo => by
 have cr : CallRK X (.builtin "sorted") [Str.ofString "key"] (xO X.K f) := x6 (cx.room.mono hk) (by rw [cx.K]; exact F) Sc hb hv hd hcd hs hbnd
 have pg : PE X (.Name g q2) (tC (.ref f)) := pe_glob (u := .ref f) (by show X.env.scope.names.lookup _ = _; rw [cx.sc]; exact hg2) (by rw [cx.mg]; exact hm2) rfl hgd
 refine bP (pe_callBK cr (by show X.env.scope.names.lookup _ = _; rw [cx.sc]; exact hg1) (by rw [cx.mg]; exact hm1) rfl (pa_cons (he X E cx xo) pa_nil (h3 X.env)) (pk_cons pg pk_nil) (he := h1 X.env) (hpl := h2 X.env) (hall := h4 X.env) (hnone := h5 X.env) (hks := h6 X.env)) fun σ H Q ⟨I, F', G, ds, w, rel, rs, p⟩ => ?_
 refine a7 (f := fun _ => jJ) rel rs p fun I1 F1 H1 d w1 v e1 rel1 rs1 rv p1 => ?_
 unfold jJ at p1
 split at p1
 ·rename_i xs
  split at p1
  ·rename_i ps hps
   split at p1
   ·rename_i hl
    simp only [aF] at rv
    obtain ⟨a, us, rfl, hF, ru⟩ := rv
    obtain ⟨L, rfl, rfl, hL⟩ := uG hps ru
    rw [ax] at hl
    refine ⟨a, L, rfl, rfl, hl, .of (rel1.fz _ _ hF), fun q hq => .of (rel1.fz _ _ (hL q hq)), ?_⟩
    have em : ((L.map (·.2)).mergeSort oA).map aX = (L.mergeSort fun p q => oA p.2 q.2).map fun q => aX q.2 := by
     rw [← List.map_mergeSort (r := fun p q : P3 => oA p.2 q.2) (f := fun q : P3 => q.2) (fun _ _ _ _ => rfl), List.map_map]
     rfl
    rw [em] at p1
    exact fB rel1 (tL fun q hq => hL q ((List.mergeSort_perm L _).mem_iff.mp hq)) p1
   ·exact p1.elim
  ·exact p1.elim
 ·exact p1.elim
theorem wL {P : Program} {w : World} {K : PySem.W.Frag} {mg mb : Str → Option Value} {k : Nat} {fa a : Addr} {fd : FuncData} {x : Str} {m : MF} {s : Shared} {ns : List Int} (H : Hp)
  (kin : K.In s.heap) (glo : s.heap.Ns mainGlobals mg) (blt : s.heap.Ns builtinsNs mb) (boot : ∀ y : Str, y ≠ "__name__" → mb y = bootBuiltins y) (free : s.heap.NoLimit) (gens : s.gens = #[]) (room : Room k callerA)
  (prom : ∀ base : Heap, K.In base → base.Ns mainGlobals mg → h8 P w K mg base k fa fd [x] m) (bind : ∀ (t : Shared) (u : Value), BindsTo t fd ⟨[u], []⟩ [(x, u)]) (w' : W) (good : m [.fM (ns.map D.int)] [] = .ok (.bl true) w')
  (only : Only H) (held : SqL K H a (ns.map V.int)) (ok : HOk P w H s.heap) (nod : ∀ b o, s.heap.get? b = some o → H b ≠ none → ∀ es ep, o.data ≠ .dict es ep) (nok : ∀ b, H b ≠ none → K.lookup b = none) :
  codeAny (model P w) callerA (.call (.ref fa) ⟨[.ref a], []⟩) (fun r t => r = .ok (.ret (.bool true)) ∧ OldK s.heap t.heap ∧ t.os = s.os ∧ AllBare t.gens) s := by
 have low : ∀ {b : Addr} {o : Obj}, s.heap.get? b = some o → H b = none → (hidT s.heap H).get? b = some o := hidT_get
 have dicts : ∀ {b : Addr} {f : Str → Option Value}, s.heap.Ns b f → (hidT s.heap H).Ns b f := by
  rintro b f ⟨o, es, ep, h1, h2, h3⟩
  refine ⟨o, es, ep, low h1 ?_, h2, h3⟩
  by_cases q : H b = none
  ·exact q
  ·exact absurd h2 (nod b o h1 q es ep)
 have kb : K.In (hidT s.heap H) := fun b o h => low (kin b o h) (by
  by_cases q : H b = none
  ·exact q
  ·rw [nok b q] at h; cases h)
 obtain ⟨mc, c1, c2⟩ := free
 have e0 : Env0 P w K mg (hidT s.heap H) callerA [] s H := {
  frames := rfl
  mod := ⟨kb, dicts glo, ⟨mb, dicts blt, boot⟩, ⟨mc, dicts c1, c2⟩⟩
  bs := fun b o h => of_hidT h
  bsz := Nat.le_of_eq (hidT_size _ _)
  funs := trivial
  frf := fun b hb => by simp [frs] at hb
  hok := ok
  bare := .of_eq gens }
 have rel : Rel K [] H (fun _ => none) [] H := ⟨rfl, List.nodup_nil, fun i b o h => by simp at h, fun _ _ h => h, fun i b o h => by simp at h, fun _ _ h => (by cases h), fun _ _ h => (by cases h), fun _ _ h => (by cases h)⟩
 have sp : HI K m [V.ref a] H (fun v _ => v = .bl true) fun _ _ _ => False := by
  refine ⟨[], H, fun _ => none, [.fM (ns.map D.int)], [], rel, RepL.cons ?_ (by simp [RepL]), ?_⟩
  ·simp only [aF]; exact ⟨a, _, rfl, held, RepL.ints ns⟩
  ·rw [good]
   intro I' F' H' _ _ v rv
   simpa only [aF] using rv
 refine codeAny_mono ((prom _ kb (dicts glo)).run callerA [] s H ⟨[.ref a], []⟩ [.ref a] [.ref a] _ _ room rfl e0 (bind s (.ref a)) (.cons rfl .nil) rfl sp) fun r t h => ?_
 match r, h with
 | .error e, h =>
  obtain ⟨_, _, _, _, _, h⟩ := h
  simp at h
 | .ok (.ret u), h =>
  obtain ⟨v, H2, h1, h2, h3, h4, h5, h6⟩ := h
  subst h6
  obtain rfl : u = Value.bool true := h5
  refine ⟨rfl, OldK.of_keep fun b o hb => ?_, h1, h2⟩
  rcases only b with q | ⟨ob, xs, q⟩
  ·exact h3.keep b o hb q (by intro z; simp [frs] at z) (by simp)
  ·obtain ⟨g1, _⟩ := ok b _ q
   obtain ⟨g2, _⟩ := h4 b _ (h3.frzs b ob _ q)
   rw [hb] at g1; cases g1
   exact g2
 | .ok .next, h => exact h.elim
 | .ok .brk, h => exact h.elim
 | .ok .cont, h => exact h.elim
theorem wA {P : Program} {w : World} {K : PySem.W.Frag} {mg mb : Str → Option Value} {k : Nat} {fa a : Addr} {fd : FuncData} {x : Str} {m : MF} {s : Shared} {us : List Value} {ns : List Int}
  (kin : K.In s.heap) (glo : s.heap.Ns mainGlobals mg) (blt : s.heap.Ns builtinsNs mb) (boot : ∀ y : Str, y ≠ "__name__" → mb y = bootBuiltins y) (free : s.heap.NoLimit) (gens : s.gens = #[]) (room : Room k callerA)
  (laid : s.heap.get? a = some { cls := .type "list", data := .seq us.toArray }) (nums : IntsAre us ns) (few : ns.length ≤ sizeLine)
  (prom : ∀ base : Heap, K.In base → base.Ns mainGlobals mg → h8 P w K mg base k fa fd [x] m) (bind : ∀ (t : Shared) (u : Value), BindsTo t fd ⟨[u], []⟩ [(x, u)]) (w' : W) (good : m [.fM (ns.map D.int)] [] = .ok (.bl true) w') :
  codeAny (model P w) callerA (.call (.ref fa) ⟨[.ref a], []⟩) (fun r t => r = .ok (.ret (.bool true)) ∧ OldK s.heap t.heap ∧ t.os = s.os ∧ AllBare t.gens) s := by
 have vals := vals_ints nums
 cases hk : K.lookup a with
 | some o =>
  have h := kin a o hk
  rw [laid] at h
  cases h
  refine wL (fun _ => none) kin glo blt boot free gens room prom bind w' good (fun _ => .inl rfl) (.inr ⟨_, us.toArray, _, hk, rfl, rfl, rfl, ?_, by simpa using vals⟩) (fun _ _ h => by cases h) (fun _ _ _ h => absurd rfl h) fun _ h => absurd rfl h
  rw [List.size_toArray]; have := nums.length; omega
 | none =>
  let ob : Obj := { cls := .type "list", data := .seq us.toArray }
  let H : Hp := fun b => if b = a then some (.frz ob (.lst (ns.map V.int))) else none
  have at1 : H a = some (.frz ob (.lst (ns.map V.int))) := if_pos rfl
  have at2 : ∀ {b : Addr}, H b ≠ none → b = a := fun {b} h => by
   by_cases e : b = a
   ·exact e
   ·exact absurd (if_neg e) h
  refine wL H kin glo blt boot free gens room prom bind w' good (fun b => ?_) (.inl (.inr ⟨ob, at1⟩)) (fun b u h => ?_) (fun b o h hb es ep hd => ?_) fun b hb => by rw [at2 hb]; exact hk
  ·by_cases e : b = a
   ·exact .inr ⟨ob, _, if_pos e⟩
   ·exact .inl (if_neg e)
  ·obtain rfl := at2 (b := b) (by rw [h]; simp)
   rw [at1] at h
   cases h
   exact ⟨laid, by rw [ax]; exact few, us, _, vals, laid⟩
  ·obtain rfl := at2 hb
   rw [laid] at h
   cases h
   cases hd
theorem wX {l : PySem.W.OpenLaw} {n k : Nat} {q : Program} {loose : List Str} {XP : (Str → Option Value) → Heap → Prop} {YP : World → Heap → Prop} {d : DefRec} {x : Str}
  (hn : l.most = some n) (hn2 : n ≤ sizeLine) (hdf : d.params.defaults = []) (hr : Room k callerA)
  (F : ∀ (w : World) (mg : Str → Option Value) (fa : Addr) (h : Heap), YP w h → h.Ns mainGlobals mg → mg d.name = some (.ref fa) →
   ∃ (K : PySem.W.Frag) (fd : FuncData) (m : MF), K.In h ∧ (∀ (s : Shared) (u : Value), BindsTo s fd ⟨[u], []⟩ [(x, u)]) ∧ (∀ ns : List Int, ns.length ≤ n → ∃ w', m [.fM (ns.map D.int)] [] = .ok (.bl true) w') ∧
    ∀ base : Heap, K.In base → base.Ns mainGlobals mg → h8 l.prog w K mg base k fa fd [x] m) :
  PySem.W.WalkO q loose XP YP l.row.toRowW d [] (fun f vs => PySem.call f vs) :=
 Att.attach_call hn hdf fun w _ s mg _ fa _ _ _ _ _ us ns G Y _ _ _ hmg laid nums few gens => by
  obtain ⟨K, fd, m, kin, bind, good, prom⟩ := F w mg fa _ Y G.T.g hmg
  obtain ⟨w', hw⟩ := good ns few
  exact wA kin G.T.g G.T.b G.T.builtins G.T.nolimit gens hr laid nums (Nat.le_trans few hn2) prom bind w' hw
end Pc
namespace K09
open PySem PySem.Spec PyProof.Rows L2 Pc
def top (i : Nat) : Stmt := PySem.Challenge.pw_onemaster_k09_who_is_ahead.main.body.getD i (.Pass ⟨0, 0, 0, 0⟩)
structure bB where
 zz : Unit := ()
end K09
set_option maxHeartbeats 0
namespace K09H
open PySem PySem.Spec PyProof.Rows L2 Pc K09
def gX : He.DefD := ⟨("_law_deck", none), "_law_deck", "_law_deck", defArgs (top 3), defBody (top 3), defScope (top 3), [], []⟩
def gU : He.DefD := ⟨("_law_draw", none), "_law_draw", "_law_draw", defArgs (top 4), defBody (top 4), defScope (top 4), [], []⟩
def gN : He.DefD := ⟨("_law_pick", none), "_law_pick", "_law_pick", defArgs (top 5), defBody (top 5), defScope (top 5), [], []⟩
def f6 : He.DefD := ⟨("_law_place", none), "_law_place", "_law_place", defArgs (top 9), defBody (top 9), defScope (top 9), [], []⟩
def iL : He.DefD := ⟨("_law_due", none), "_law_due", "_law_due", defArgs (top 6), defBody (top 6), defScope (top 6), [], []⟩
def iK : He.DefD := ⟨("is_ahead", none), "is_ahead", "is_ahead", defArgs (top 1), defBody (top 1), defScope (top 1), [], []⟩
def gA : He.DefD := ⟨("_law_right", none), "_law_right", "_law_right", defArgs (top 7), defBody (top 7), defScope (top 7), [], []⟩
def dO : He.DefD := ⟨("_law_lot_right", none), "_law_lot_right", "_law_lot_right", defArgs (top 8), defBody (top 8), defScope (top 8), [], []⟩
def vV : He.DefD := ⟨("law", none), "law", "law", defArgs (top 10), defBody (top 10), defScope (top 10), [], []⟩
def fn : List He.DefD := [gX, gU, gN, f6, iL, iK, gA, dO, vV]
def fa : List He.Fa := [.free "len", .free "list", .free "range", .free "repr", .free "sorted", .free "sum", .glo "_law_deck", .glo "_law_draw", .glo "_law_pick", .glo "_law_place", .glo "_law_due", .glo "is_ahead", .glo "_law_right", .glo "_law_lot_right", .glo "law"]
def ts : List He.Tab := []
def HX (K : PySem.W.Frag) : List Bool := []
def ex (K : PySem.W.Frag) : Bool := (HX K).all id
def loose : List PySem.Str := (["is_ahead", "_law_deck", "_law_draw", "_law_pick", "_law_due", "_law_right", "_law_lot_right", "_law_place"] : List PySem.Str)
abbrev R : PySem.W.OpenRow := PySem.W.OpenLaw.row PySem.Challenge.rw_onemaster_k09_who_is_ahead
def as : List Nat := ([3, 6, 4, 21, 26, 33, 40, 47, 54, 59, 66, 71, 0, 20, 25, 32, 39, 46, 53, 58, 65, 70, 15, 17, 18, 19, 22, 24, 27, 29, 30, 31, 34, 36, 37, 38, 41, 43, 44, 45, 48, 50, 51, 52, 55, 57, 60, 62, 63, 64, 67, 69] : List Nat)
abbrev hk : PySem.W.Hook := He.AN as fa fn ts ex
def ob (s : PySem.W.SharedT) : He.DN := He.z0 as fa fn ts ex (HandSHeadRun.getT s)
theorem EU (s : PySem.W.SharedT) : ob s = hk.obs s.abs := He.y9 (HandSHeadRun.getT_eq s)
open PySem PySem.W PySem.Calls PyProof.Rows HandSHeadRun in
abbrev eF (w : World) (os : OsState) : Option SharedT := endF (stepQ (denQ tabQ) R.prog w) 8000 R.prog w os
open PySem PySem.W PySem.Calls PyProof.Rows in
theorem qC (w : World) (os : OsState) : (eF (w.withFollow "special-get-raises" false) os).map (fun s => (HandSHeadRun.looksF R.prog (boot_heap (w.withFollow "special-get-raises" false).params) s.abs, HandSHeadRun.seenQ (PySem.W.view R.prog [10]) loose (importedModules R.prog.main.body) (fun s => xlAt (PySem.W.view R.prog [10]) [] s && recOk R.toRowW.records s) s.abs)) = some (true, openGood (PySem.W.view R.prog [10]) loose) := by
 kernel_rfl
open PySem PySem.W PySem.Calls PyProof.Rows in
theorem r7 (w : World) (os : OsState) : (eF (w.withFollow "special-get-raises" false) os).map (ob) = some (hk.val (w.withFollow "special-get-raises" false)) := by
 kernel_rfl
theorem u6 (w : World) : HandSHeadRun.RunEq R (PySem.W.view R.prog [10]) hk ob 8000 loose (w.withFollow "special-get-raises" false) := fun os => He.AS (qC w os) (r7 w os)
open PySem PySem.W PySem.Calls PyProof.Rows in
theorem rE (w : World) (os : OsState) : (eF (w.withFollow "special-get-raises" true) os).map (fun s => (HandSHeadRun.looksF R.prog (boot_heap (w.withFollow "special-get-raises" true).params) s.abs, HandSHeadRun.seenQ (PySem.W.view R.prog [10]) loose (importedModules R.prog.main.body) (fun s => xlAt (PySem.W.view R.prog [10]) [] s && recOk R.toRowW.records s) s.abs)) = some (true, openGood (PySem.W.view R.prog [10]) loose) := by
 kernel_rfl
open PySem PySem.W PySem.Calls PyProof.Rows in
theorem uZ (w : World) (os : OsState) : (eF (w.withFollow "special-get-raises" true) os).map (ob) = some (hk.val (w.withFollow "special-get-raises" true)) := by
 kernel_rfl
theorem xN (w : World) : HandSHeadRun.RunEq R (PySem.W.view R.prog [10]) hk ob 8000 loose (w.withFollow "special-get-raises" true) := fun os => He.AS (rE w os) (uZ w os)
theorem run (w : World) : HandSHeadRun.RunEq R (PySem.W.view R.prog [10]) hk ob 8000 loose w := PySem.W.byRow2 "special-get-raises" (P := fun w => HandSHeadRun.RunEq R (PySem.W.view R.prog [10]) hk ob 8000 loose w) u6 xN w
section
 open PySem PySem.W PySem.Calls PyProof.Rows
def early : { E : Prop // E → PySem.Challenge.rw_onemaster_k09_who_is_ahead.Holds } := ⟨_, fun hc => by
 w_on; o_law
 refine HandSHeadRun.head_any (r := OpenLaw.row PySem.Challenge.rw_onemaster_k09_who_is_ahead) (q := view (OpenLaw.row PySem.Challenge.rw_onemaster_k09_who_is_ahead).prog [10]) (H := hk) (ob := ob) (M := 8000) (loose := loose) (d := HandSHeadRun.topDef (OpenLaw.row PySem.Challenge.rw_onemaster_k09_who_is_ahead).prog 10) (kwd := []) EU
  (by kernel_rfl) (fun s => by kernel_rfl) run (by kernel_rfl) (by kernel_rfl) (by kernel_rfl) (by rfl) (by first | assumption | decide +kernel) (by decide +kernel) ⟨rfl, rfl, rfl, rfl, rfl, by decide +kernel⟩ ?hw ?hc
 case hw => w_witness2
 case hc => exact hc⟩
end
end K09H
set_option maxHeartbeats 4000000
namespace Pc
open PySem PySem.Spec PyProof.Rows L2
def mZ : MS :=
 (aG (aK (aC a8 (aC aL (aB 0) (eC (.int 2))) (eC (.int 1))) (bK (aB 0) (eC (.int 2))))
 (aG (aK (aC aL (aB 0) (eC (.int 1))) (aN 2))
 (aG (b6 (aR (aC f7 (aC aL (aB 0) (eC (.int 0))) (iF aD))) (aG (aK (bF "list" sC (aC aL (aB 0) (eC (.int 0))) aD) (aN 2))
 (b6 (aR (aC yK (aB 2) (aC wO (eC (.int 10)) (eC (.int 18))))) (aG (bH (bF "list" bD (aC aL (aB 0) (eC (.int 0))) (aA (aC dZ (aB 2) (aB 1)) aD)))
 (aT (aC dE (aB 2) (aB 1)))) aP)) aP)
 (aG (aK (aC dE (aC mulM (aC a8 (aC a8 (aC dE (aB 2) (eC (.int 2147483629))) (aC mulM (eC (.int 15485863)) (aC aL (aB 0) (eC (.int 2))))) (eC (.int 5))) (eC (.int 48271))) (eC (.int 2147483647))) (aN 3))
 (aG (aK (aC dE (aC a8 (aC a8 (aC mulM (aB 3) (aB 3)) (aC mulM (eC (.int 69621)) (aB 3))) (aC aL (aB 0) (eC (.int 2)))) (eC (.int 2147483587))) (aN 3))
 (aT (aC dE (aC dZ (aC dE (aC mulM (aB 3) (aC a8 (aC dZ (aB 3) (eC (.int 7))) (eC (.int 39373)))) (eC (.int 2147483563))) (eC (.int 64))) (aB 1))))))))
def fL (w : W) (d c : Nat) : Prop := d ≠ c ∧ ∃ (cells : List Int) (sm n : Int), w[d]? = some (.lst [.ref c, .int sm, .int n]) ∧ w[c]? = some (.lst (cells.map .int)) ∧ cells.length ≤ 63
def Kept (w w' : W) (d c : Nat) : Prop := w'.length = w.length ∧ ∀ i, i ≠ d → i ≠ c → w'[i]? = w[i]?
theorem pU : ∀ cells : List Int, PyData.canLayAll0 (cells.map PyData.int) = true
 | [] => rfl
 | x :: xs => by simp [PyData.canLayAll0, PyData.canLay0, pU xs]
theorem rB : ∀ cells : List Int, PyData.depthAll (cells.map PyData.int) ≤ 1
 | [] => by simp [PyData.depthAll]
 | x :: xs => by
  have := rB xs
  simp only [List.map_cons, PyData.depthAll, PyData.depth]
  omega
theorem lay_ints (cells : List Int) : SeqAt.shaped (.list (cells.map PyData.int)) = true := by
 have h1 := pU cells
 have h2 := rB cells
 unfold SeqAt.shaped
 simp [PyData.canLay0, PyData.depth, h1]
 omega
theorem qP (f : Nat → Option PyData) (cells : List Int) : D.pysR f (cells.map D.int) = some (cells.map PyData.int) := by
 induction cells with
 | nil => rfl
 | cons x xs ih => simp [D.pysR, D.cW, ih]
theorem BL {w : W} {c : Nat} {cells : List Int} (h : w[c]? = some (.lst (cells.map D.int))) : D.py w (.ref c) = some (.list (cells.map PyData.int)) := by
 show pZ 8 w c = _
 simp [pZ, h, qP]
theorem ne_nil {w : W} {c : Nat} {cells : List Int} (h : w[c]? = some (.lst (cells.map D.int))) : f7 (.ref c) (.lst []) w = .ok (.bl (!cells.isEmpty)) w := by
 unfold f7 mK
 rw [BL h]
 have e : D.py w (.lst []) = some (.list []) := rfl
 rw [e]
 have l2 : SeqAt.shaped (.list []) = true := lay_ints []
 simp only [lay_ints, l2, and_self, ah]
 cases cells <;> simp [PyData.eqv, PyData.eqvAll]
theorem fX {a b : MS} {σ σ1 : Sg} {w w1 : W} (h : a σ w = .ok (.nx σ1) w1) : aG a b σ w = b σ1 w1 := by unfold aG; rw [h]; rfl
theorem CI {a b : MS} {σ : Sg} {w w1 : W} {d : D} (h : a σ w = .ok (.rt d) w1) : aG a b σ w = .ok (.rt d) w1 := by unfold aG; rw [h]; rfl
theorem C1 {mb : MS} {N : List Str} {ds : List D} {w w1 : W} {d : D} (h : mb (begin N ds) w = .ok (.rt d) w1) : aZ mb N ds w = .ok d w1 := by unfold aZ; rw [h]; rfl
theorem wD {t : MT} {a b : MS} {σ : Sg} {w w1 : W} (h : t σ w = .ok true w1) : b6 t a b σ w = a σ w1 := by unfold b6; rw [h]; rfl
theorem BC {t : MT} {a b : MS} {σ : Sg} {w w1 : W} (h : t σ w = .ok false w1) : b6 t a b σ w = b σ w1 := by unfold b6; rw [h]; rfl
theorem oL {e : ME} {i : Nat} {σ : Sg} {w w1 : W} {d : D} (h : e σ w = .ok d w1) : aK e (aN i) σ w = .ok (.nx (σ.set i (some d))) w1 := by unfold aK; rw [h]; rfl
theorem xG {e : ME} {σ : Sg} {w w1 : W} {d : D} (h : e σ w = .ok d w1) : aT e σ w = .ok (.rt d) w1 := by unfold aT; rw [h]; rfl
theorem zK {e : ME} {σ : Sg} {w w1 : W} {d : D} (h : e σ w = .ok d w1) : bH e σ w = .ok (.nx σ) w1 := by unfold bH; rw [h]; rfl
theorem gR {a b : ME} {f : D → D → W → Res D} {σ : Sg} {w w1 w2 : W} {x y : D} (h1 : a σ w = .ok x w1) (h2 : b σ w1 = .ok y w2) : aC f a b σ w = f x y w2 := by unfold aC; rw [h1]; show (b σ w1).bind _ = _; rw [h2]; rfl
theorem cB {σ : Sg} {w : W} {i : Nat} {d : D} (h : σ[i]? = some (some d)) : aB i σ w = .ok d w := by unfold aB; rw [h]
theorem fG {σ : Sg} {w : W} {d : D} : eC d σ w = .ok d w := rfl
theorem B4 {w : W} {i : Nat} {xs : List D} {k : Int} {d : D} (h : w[i]? = some (.lst xs)) (e : atI xs k = some d) : aL (.ref i) (.int k) w = .ok d w := by
 simp only [aL, h, vK, e]
theorem xW {m : ME} {σ : Sg} {w w1 : W} {b : Bool} (h : m σ w = .ok (.bl b) w1) : aR m σ w = .ok b w1 := by unfold aR; rw [h]; rfl
theorem BJ {a b : Int} {w : W} (h : fA a b = true) : mulM (.int a) (.int b) w = .ok (.int (a * b)) w := by simp [mulM, h]
theorem DJ {a b : Int} {w : W} (h : 0 < b) : dE (.int a) (.int b) w = .ok (.int (a % b)) w := by simp [dE, h]
theorem zG {a b : Int} {w : W} (h : 0 < b ∧ b < 1073741824) : dZ (.int a) (.int b) w = .ok (.int (a / b)) w := by simp [dZ, h]
section
variable {a b : ME} {σ : Sg} {w w1 w2 : W} {x y : Int}
theorem uY (h1 : a σ w = .ok (.int x) w1) (h2 : b σ w1 = .ok (.int y) w2) : aC a8 a b σ w = .ok (.int (x + y)) w2 := (gR h1 h2).trans rfl
theorem vO (h1 : a σ w = .ok (.int x) w1) (h2 : b σ w1 = .ok (.int y) w2) (h : fA x y = true) : aC mulM a b σ w = .ok (.int (x * y)) w2 := (gR h1 h2).trans (BJ h)
theorem bmod (h1 : a σ w = .ok (.int x) w1) (h2 : b σ w1 = .ok (.int y) w2) (h : 0 < y) : aC dE a b σ w = .ok (.int (x % y)) w2 := (gR h1 h2).trans (DJ h)
theorem xB (h1 : a σ w = .ok (.int x) w1) (h2 : b σ w1 = .ok (.int y) w2) (h : 0 < y ∧ y < 1073741824) : aC dZ a b σ w = .ok (.int (x / y)) w2 := (gR h1 h2).trans (zG h)
theorem C8 {i : Nat} {xs : List D} {d : D} (h1 : a σ w = .ok (.ref i) w1) (h2 : b σ w1 = .ok (.int y) w2) (h3 : w2[i]? = some (.lst xs)) (h4 : atI xs y = some d) : aC aL a b σ w = .ok d w2 := (gR h1 h2).trans (B4 h3 h4)
end
def lY : MS :=
 (aG (aK (aC dE (aC mulM (aC a8 (aC a8 (aC dE (aB 2) (eC (.int 2147483629))) (aC mulM (eC (.int 15485863)) (aC aL (aB 0) (eC (.int 2))))) (eC (.int 5))) (eC (.int 48271))) (eC (.int 2147483647))) (aN 3))
 (aG (aK (aC dE (aC a8 (aC a8 (aC mulM (aB 3) (aB 3)) (aC mulM (eC (.int 69621)) (aB 3))) (aC aL (aB 0) (eC (.int 2)))) (eC (.int 2147483587))) (aN 3))
 (aT (aC dE (aC dZ (aC dE (aC mulM (aB 3) (aC a8 (aC dZ (aB 3) (eC (.int 7))) (eC (.int 39373)))) (eC (.int 2147483563))) (eC (.int 64))) (aB 1)))))
theorem wB {w : W} {d : Nat} {x1 x2 : D} {size cell n : Int} (hd : w[d]? = some (.lst [x1, x2, .int n])) (h0 : 0 < size) :
  ∃ r, lY [some (.ref d), some (.int size), some (.int cell), none] w = .ok (.rt (.int r)) w ∧ 0 ≤ r ∧ r < size := by
 have at2 : atI [x1, x2, D.int n] 2 = some (.int n) := rfl
 have m1 : ∀ x : Int, fA x 48271 = true := fun x => by simp [fA]
 have m2 : ∀ x : Int, fA 15485863 x = true := fun x => by simp [fA]
 have m3 : ∀ x : Int, fA 69621 x = true := fun x => by simp [fA]
 have m4 : ∀ x : Int, 0 ≤ x → x < 2147483647 → ∀ y, fA x y = true := fun x hx hy y => by
  unfold fA
  rw [Bool.or_eq_true]
  left
  simp only [af, ak]
  omega
 obtain ⟨a, ha⟩ : ∃ a, (cell % 2147483629 + 15485863 * n + 5) * 48271 % 2147483647 = a := ⟨_, rfl⟩
 have a0 : 0 ≤ a := by rw [← ha]; exact Int.emod_nonneg _ (by decide)
 have a1 : a < 2147483647 := by rw [← ha]; exact Int.emod_lt_of_pos _ (by decide)
 obtain ⟨b, hb⟩ : ∃ b, (a * a + 69621 * a + n) % 2147483587 = b := ⟨_, rfl⟩
 have b0 : 0 ≤ b := by rw [← hb]; exact Int.emod_nonneg _ (by decide)
 have b1 : b < 2147483587 := by rw [← hb]; exact Int.emod_lt_of_pos _ (by decide)
 refine ⟨b * (b / 7 + 39373) % 2147483563 / 64 % size, ?_, Int.emod_nonneg _ (by omega), Int.emod_lt_of_pos _ h0⟩
 unfold lY
 have v0 : ∀ (z : Option D), aB 0 [some (D.ref d), some (.int size), some (.int cell), z] w = .ok (.ref d) w := fun _ => rfl
 have e1 := bmod (vO (uY (uY (bmod (a := aB 2) (σ := [some (.ref d), some (.int size), some (.int cell), none]) (w := w) (cB rfl) (fG (d := .int 2147483629)) (by decide)) (vO (fG (d := .int 15485863)) (C8 (a := aB 0) (cB rfl) (fG (d := .int 2)) hd at2) (m2 _))) (fG (d := .int 5))) (fG (d := .int 48271)) (m1 _)) (fG (d := .int 2147483647)) (by decide)
 rw [ha] at e1
 have e2 := bmod (uY (uY (vO (a := aB 3) (b := aB 3) (σ := [some (.ref d), some (.int size), some (.int cell), some (.int a)]) (w := w) (cB rfl) (cB rfl) (m4 a a0 a1 a)) (vO (b := aB 3) (fG (d := .int 69621)) (cB rfl) (m3 a))) (C8 (a := aB 0) (cB rfl) (fG (d := .int 2)) hd at2)) (fG (d := .int 2147483587)) (by decide)
 rw [hb] at e2
 have e3 := bmod (xB (bmod (vO (a := aB 3) (σ := [some (.ref d), some (.int size), some (.int cell), some (.int b)]) (w := w) (cB rfl) (uY (xB (a := aB 3) (cB rfl) (fG (d := .int 7)) (by decide)) (fG (d := .int 39373))) (m4 b b0 (by omega) _)) (fG (d := .int 2147483563)) (by decide)) (fG (d := .int 64)) (by decide)) (cB (i := 1) rfl) h0
 exact (fX (oL e1)).trans ((fX (oL e2)).trans (xG e3))
theorem zQ {w : W} {d c : Nat} {size : Int} (N : List Str) (hN : N.length = 4) (h : fL w d c) (h0 : 0 < size) (h1 : size < 1073741824) :
  ∃ r w', aZ mZ N [.ref d, .int size] w = .ok (.int r) w' ∧ 0 ≤ r ∧ r < size ∧ fL w' d c ∧ Kept w w' d c := by
 obtain ⟨hne, cells, sm, n, hd, hc, hl⟩ := h
 have dl : d < w.length := (ae.mp hd).1
 have cl : c < w.length := (ae.mp hc).1
 have hb : begin N [.ref d, .int size] = [some (.ref d), some (.int size), none, none] := by unfold begin; rw [hN]; rfl
 obtain ⟨w1, hw1⟩ : ∃ w1 : W, w1 = w.set d (.lst [.ref c, .int sm, .int (n + 1)]) := ⟨_, rfl⟩
 have hd1 : w1[d]? = some (.lst [.ref c, .int sm, .int (n + 1)]) := by rw [hw1]; exact aw dl
 have hc1 : w1[c]? = some (.lst (cells.map .int)) := by rw [hw1, aj hne]; exact hc
 have cl1 : c < w1.length := by rw [hw1, List.length_set]; exact cl
 have k1 : Kept w w1 d c := ⟨by rw [hw1, List.length_set], fun i h2 _ => by rw [hw1, aj (Ne.symm h2)]⟩
 have s1 : aK (aC a8 (aC aL (aB 0) (eC (.int 2))) (eC (.int 1))) (bK (aB 0) (eC (.int 2))) [some (.ref d), some (.int size), none, none] w = .ok (.nx [some (.ref d), some (.int size), none, none]) w1 := by
  have e := uY (C8 (a := aB 0) (σ := [some (.ref d), some (.int size), none, none]) (w := w) (cB rfl) (fG (d := .int 2)) hd rfl) (fG (d := .int 1))
  unfold aK
  rw [e]
  show (bK _ _ _ _ _).bind _ = _
  have z : setM (.ref d) (.int 2) (.int (n + 1)) w = .ok () w1 := by
   unfold setM
   simp only [hd]
   rw [hw1]
   rfl
  show ((setM (.ref d) (.int 2) (.int (n + 1)) w).bind _).bind _ = _
  rw [z]
  rfl
 have s2 : aK (aC aL (aB 0) (eC (.int 1))) (aN 2) [some (.ref d), some (.int size), none, none] w1 = .ok (.nx [some (.ref d), some (.int size), some (.int sm), none]) w1 := oL (C8 (cB rfl) (fG (d := .int 1)) hd1 rfl)
 have c3 : aR (aC f7 (aC aL (aB 0) (eC (.int 0))) (iF aD)) [some (.ref d), some (.int size), some (.int sm), none] w1 = .ok (!cells.isEmpty) w1 := by
  refine xW ((gR (C8 (cB rfl) (fG (d := .int 0)) hd1 rfl) (y := .lst []) (w2 := w1) rfl).trans (ne_nil hc1))
 have fin : ∀ (cell : Int) (w2 : W) (xs : List Int), w2[d]? = some (.lst [.ref c, .int sm, .int (n + 1)]) → w2[c]? = some (.lst (xs.map .int)) → xs.length ≤ 63 → Kept w w2 d c →
   ∃ r w', lY [some (.ref d), some (.int size), some (.int cell), none] w2 = .ok (.rt (.int r)) w' ∧ 0 ≤ r ∧ r < size ∧ fL w' d c ∧ Kept w w' d c := fun cell w2 xs g1 g2 g3 g4 => by
  obtain ⟨r, e, r0, r1⟩ := wB (cell := cell) g1 h0
  exact ⟨r, w2, e, r0, r1, ⟨hne, xs, sm, n + 1, g1, g2, g3⟩, g4⟩
 have go : ∀ r w', mZ [some (.ref d), some (.int size), none, none] w = .ok (.rt (.int r)) w' → aZ mZ N [.ref d, .int size] w = .ok (.int r) w' := fun r w' e => C1 (by rw [hb]; exact e)
 suffices main : ∃ r w', mZ [some (.ref d), some (.int size), none, none] w = .ok (.rt (.int r)) w' ∧ 0 ≤ r ∧ r < size ∧ fL w' d c ∧ Kept w w' d c by
  obtain ⟨r, w', e, r0, r1, r2, r3⟩ := main
  exact ⟨r, w', go r w' e, r0, r1, r2, r3⟩
 unfold mZ
 rw [fX s1, fX s2]
 rcases List.eq_nil_or_concat cells with rfl | ⟨init, x, rfl⟩
 ·rw [fX (BC c3)]
  exact fin sm w1 [] hd1 hc1 (by simp) k1
 ·have c3' : aR (aC f7 (aC aL (aB 0) (eC (.int 0))) (iF aD)) [some (.ref d), some (.int size), some (.int sm), none] w1 = .ok true w1 := by rw [c3]; simp
  obtain ⟨w2, hw2⟩ : ∃ w2 : W, w2 = w1.set c (.lst (init.map .int)) := ⟨_, rfl⟩
  have hd2 : w2[d]? = some (.lst [.ref c, .int sm, .int (n + 1)]) := by rw [hw2, aj (Ne.symm hne)]; exact hd1
  have hc2 : w2[c]? = some (.lst (init.map .int)) := by rw [hw2]; exact aw cl1
  have cl2 : c < w2.length := by rw [hw2, List.length_set]; exact cl1
  have k2 : Kept w w2 d c := ⟨by rw [hw2, List.length_set]; exact k1.1, fun i h2 h3 => by rw [hw2, aj (Ne.symm h3)]; exact k1.2 i h2 h3⟩
  have hli : init.length ≤ 62 := by simp at hl; omega
  have p1 : bF "list" sC (aC aL (aB 0) (eC (.int 0))) aD [some (.ref d), some (.int size), some (.int sm), none] w1 = .ok (.int x) w2 := by
   have e := C8 (a := aB 0) (b := eC (.int 0)) (σ := [some (.ref d), some (.int size), some (.int sm), none]) (w := w1) (cB rfl) (fG (d := .int 0)) hd1 rfl
   unfold bF
   rw [e]
   simp only [Res.tN, BH, hc1, ah, aD, sC]
   have z : ((init.concat x).map D.int)[((init.concat x).map D.int).length - 1]? = some (.int x) := by simp
   have z2 : ((init.concat x).map D.int).dropLast = init.map D.int := by simp
   rw [z, z2, hw2]
  have c4 : aR (aC yK (aB 2) (aC wO (eC (.int 10)) (eC (.int 18)))) [some (.ref d), some (.int size), some (.int x), none] w2 = .ok (decide ((10 : Int) ^ 18 ≤ x)) w2 := xW ((gR (cB rfl) ((gR (fG (d := .int 10)) (fG (d := .int 18))).trans rfl)).trans rfl)
  have e4 : aK (bF "list" sC (aC aL (aB 0) (eC (.int 0))) aD) (aN 2) [some (.ref d), some (.int size), some (.int sm), none] w1 = .ok (.nx [some (.ref d), some (.int size), some (.int x), none]) w2 := oL p1
  by_cases hx : (10 : Int) ^ 18 ≤ x
  ·rw [decide_eq_true hx] at c4
   obtain ⟨w3, hw3⟩ : ∃ w3 : W, w3 = w2.set c (.lst (init.map D.int ++ [.int (x / size)])) := ⟨_, rfl⟩
   have hd3 : w3[d]? = some (.lst [.ref c, .int sm, .int (n + 1)]) := by rw [hw3, aj (Ne.symm hne)]; exact hd2
   have hc3 : w3[c]? = some (.lst ((init ++ [x / size]).map .int)) := by rw [hw3, aw cl2]; simp
   have k3 : Kept w w3 d c := ⟨by rw [hw3, List.length_set]; exact k2.1, fun i h2 h3 => by rw [hw3, aj (Ne.symm h3)]; exact k2.2 i h2 h3⟩
   have p3 : bF "list" bD (aC aL (aB 0) (eC (.int 0))) (aA (aC dZ (aB 2) (aB 1)) aD) [some (.ref d), some (.int size), some (.int x), none] w2 = .ok .non w3 := by
    have e := C8 (a := aB 0) (b := eC (.int 0)) (σ := [some (.ref d), some (.int size), some (.int x), none]) (w := w2) (cB rfl) (fG (d := .int 0)) hd2 rfl
    have e2 := xB (a := aB 2) (b := aB 1) (σ := [some (.ref d), some (.int size), some (.int x), none]) (w := w2) (cB rfl) (cB rfl) ⟨h0, h1⟩
    have sl : (init.map D.int).length < sizeLine := by
     rw [ax, sizeLine_eq]; omega
    unfold bF
    rw [e]
    simp only [Res.tN, BH, hc2, ah, aA, e2, aD, bD, sl]
    rw [hw3]
   have e5 : aG (bH (bF "list" bD (aC aL (aB 0) (eC (.int 0))) (aA (aC dZ (aB 2) (aB 1)) aD))) (aT (aC dE (aB 2) (aB 1))) [some (.ref d), some (.int size), some (.int x), none] w2 = .ok (.rt (.int (x % size))) w3 := by
    rw [fX (zK p3)]
    exact xG (bmod (cB rfl) (cB rfl) h0)
   refine ⟨x % size, w3, ?_, Int.emod_nonneg _ (by omega), Int.emod_lt_of_pos _ h0, ⟨hne, _, sm, n + 1, hd3, hc3, by simp; omega⟩, k3⟩
   refine CI ?_
   rw [wD c3', fX e4, wD c4]
   exact e5
  ·rw [decide_eq_false hx] at c4
   rw [fX (σ1 := [some (.ref d), some (.int size), some (.int x), none]) (w1 := w2) (by rw [wD c3', fX e4, BC c4]; rfl)]
   exact fin x w2 init hd2 hc2 (by omega) k2
@[irreducible] def T {α : Type} (r : Res α) (P : α → W → Prop) : Prop := match r with
 | .ok a w => P a w
 | _ => False
section
variable {α β : Type} {P Q : α → W → Prop} {r : Res α}
theorem T.ex (h : T r P) : ∃ a w, r = .ok a w ∧ P a w := by
 unfold T at h
 cases r with
 | ok a w => exact ⟨a, w, rfl, h⟩
 | pM x w => exact h.elim
 | bad => exact h.elim
theorem T.of {a : α} {w : W} (h : r = .ok a w) (p : P a w) : T r P := by unfold T; rw [h]; exact p
theorem T.mono (h : T r P) (k : ∀ a w, r = .ok a w → P a w → Q a w) : T r Q := by
 obtain ⟨a, w, e, p⟩ := h.ex
 exact T.of e (k a w e p)
theorem cO {a : α} {w : W} : T (.ok a w) P = P a w := by unfold T; rfl
theorem aU {r : Res α} {f : α → W → Res β} {P : β → W → Prop} : T (r.bind f) P = T r fun a w => T (f a w) P := by cases r <;> (first | rfl | (unfold T; rfl) | (unfold Then; rfl))
theorem x5 : T r.zC P = T r P := by cases r <;> (first | rfl | (unfold T; rfl) | (unfold Then; rfl))
theorem nA {c : Prop} [Decidable c] {a b : Res α} : T (if c then a else b) P = (if c then T a P else T b P) := by split <;> (first | rfl | (unfold T; rfl) | (unfold Then; rfl))
theorem bW {c : Prop} [Decidable c] {a : Res α} : T (if c then a else .bad) P = (c ∧ T a P) := by
 by_cases h : c
 ·rw [if_pos h]; exact propext ⟨fun z => ⟨h, z⟩, fun z => z.2⟩
 ·rw [if_neg h]; exact propext ⟨fun z => by unfold T at z; exact z.elim, fun z => absurd z.1 h⟩
end
section
variable {σ : Sg} {w : W} {P : D → W → Prop} {PA : List D → W → Prop} {PB : Bool → W → Prop} {PF : Fl → W → Prop} {a b c : ME} {ma mk : MA} {ta tb : MT} {sa sb : MS} {g : MG} {gs : vZ} {f : D → D → W → Res D} {d x y : D}
theorem GA : T (eC d σ w) P = P d w := by unfold T; rfl
theorem FZ {i : Nat} : T (aB i σ w) P = (match σ[i]? with
 | some (some d) => P d w
 | _ => False) := by
 unfold aB
 cases h : σ[i]? with
 | none => unfold T; rfl
 | some o => cases o <;> (first | rfl | (unfold T; rfl) | (unfold Then; rfl))
theorem uD : T (aC f a b σ w) P = T (a σ w) fun x w1 => T (b σ w1) fun y w2 => T (f x y w2) P := by unfold aC; simp only [aU]
theorem E1 {f : D → W → Res D} : T (m9 f a σ w) P = T (a σ w) fun x w1 => T (f x w1) P := by unfold m9; simp only [aU]
theorem FF : T (gE a b σ w) P = T (a σ w) fun x w1 => T (bR x w1) fun c _ => if c = true then T (b σ w1) P else P x w1 := by unfold gE; simp only [aU, nA, cO]
theorem G9 : T (AM a b σ w) P = T (a σ w) fun x w1 => T (bR x w1) fun c _ => if c = true then P x w1 else T (b σ w1) P := by unfold AM; simp only [aU, nA, cO]
theorem GY : T (FX ta a b σ w) P = T (ta σ w) fun c w1 => if c = true then T (a σ w1) P else T (b σ w1) P := by unfold FX; simp only [aU, nA]
theorem nE : T (aD σ w) PA = PA [] w := by unfold T; rfl
theorem oD : T (aA a ma σ w) PA = T (a σ w) fun x w1 => T (ma σ w1) fun xs w2 => PA (x :: xs) w2 := by unfold aA; simp only [aU, cO]
theorem FG : T (a6 ma σ w) P = T (ma σ w) fun xs w1 => xs.length ≤ sizeLine ∧ P (.tup xs) w1 := by unfold a6; simp only [aU, bW, cO]
theorem FQ : T (iF ma σ w) P = T (ma σ w) fun xs w1 => xs.length ≤ sizeLine ∧ P (.lst xs) w1 := by unfold iF; simp only [aU, bW, cO]
theorem AH : T (eNew ma σ w) P = T (ma σ w) fun xs w1 => xs.length ≤ sizeLine ∧ P (.ref w1.length) (w1 ++ [.lst xs]) := by unfold eNew; simp only [aU, bW, cO]
theorem wU {m : MF} : T (aO m ma σ w) P = T (ma σ w) fun xs w1 => T (m xs w1) P := by unfold aO; simp only [aU]
theorem CQ {t : String} {m : yS} : T (bF t m a ma σ w) P = T (a σ w) fun d w1 => BH d w1 = some t ∧ T (ma σ w1) fun xs w2 => T (m d xs w2) P := by unfold bF; simp only [aU, bW]
theorem v5 {m : MF} {n : Nat} {gd : List D → List D → List D} : T (aH m n gd ma σ w) P = T (ma σ w) fun xs w1 => xs.length = n ∧ T (m (gd xs []) w1) P := by unfold aH; simp only [aU, bW]
theorem yX {m : MF} {n j : Nat} {gd : List D → List D → List D} : T (jL m n j gd ma mk σ w) P = T (ma σ w) fun xs w1 => T (mk σ w1) fun zs w2 => (xs.length = n ∧ zs.length = j) ∧ T (m (gd xs zs) w2) P := by unfold jL; simp only [aU, bW]
theorem CC {m : MF} {C : Addr} {n j : Nat} {gd : List D → List D → List D} : T (vQ C m n j gd ma mk σ w) P = T (ma σ w) fun xs w1 => T (mk σ w1) fun zs w2 => (xs.length = n ∧ zs.length = j) ∧ T (wK m C (fun s => gd (s ++ xs) zs) w2) P := by unfold vQ; simp only [aU, bW]
theorem EX {C : Addr} {z : Str} : T (bL C z a σ w) P = T (a σ w) fun x w1 => T (EV C z x w1) P := by unfold bL m9; simp only [aU]
theorem HE {g : D → D → W → Res D} : T (DW f g a b c σ w) P = T (a σ w) fun x w1 => T (b σ w1) fun y w2 => T (f x y w2) fun r w3 => match r with
 | .bl k => if k = true then T (c σ w3) fun z w4 => T (g y z w4) P else P (.bl false) w3
 | _ => False := by
 unfold DW
 simp only [aU]
 congr 1; funext x w1; congr 1; funext y w2; congr 1; funext r w3
 cases r <;> first | (unfold T; rfl) | skip
 rename_i k
 cases k
 ·unfold T; rfl
 ·exact aU
theorem FD : T (aR a σ w) PB = T (a σ w) fun x w1 => match x with
 | .bl k => PB k w1
 | _ => False := by
 unfold aR
 simp only [aU]
 congr 1; funext x w1
 cases x <;> (first | rfl | (unfold T; rfl) | (unfold Then; rfl))
theorem FP : T (dD a σ w) PB = T (a σ w) fun x w1 => T (bR x w1) PB := by unfold dD; simp only [aU]
theorem BN : T (c6 ta σ w) PB = T (ta σ w) fun k w1 => PB (!k) w1 := by unfold c6; simp only [aU, cO]
theorem DF : T (cZ ta tb σ w) PB = T (ta σ w) fun k w1 => if k = true then T (tb σ w1) PB else PB false w1 := by unfold cZ; simp only [aU, nA, cO]
theorem FL : T (hO ta tb σ w) PB = T (ta σ w) fun k w1 => if k = true then PB true w1 else T (tb σ w1) PB := by unfold hO; simp only [aU, nA, cO]
theorem tA : T (bG σ w) PB = PB true w := by unfold T; rfl
def Then (b : MS) (PF : Fl → W → Prop) : Fl → W → Prop := fun f w => match f with
 | .nx σ => T (b σ w) PF
 | f => PF f w
theorem dH : T (aG sa sb σ w) PF = T (sa σ w) (Then sb PF) := by
 unfold aG
 simp only [aU]
 congr 1; funext f w1
 cases f <;> (first | rfl | (unfold T; rfl) | (unfold Then; rfl))
theorem kJ {σ : Sg} : Then sb PF (.nx σ) w = T (sb σ w) PF := by first | rfl | (unfold Then; rfl)
theorem zX {d : D} : Then sb PF (.rt d) w = PF (.rt d) w := by first | rfl | (unfold Then; rfl)
theorem vS : T (aT a σ w) PF = T (a σ w) fun d w1 => PF (.rt d) w1 := by unfold aT; simp only [aU, cO]
theorem B9 : T (bH a σ w) PF = T (a σ w) fun _ w1 => PF (.nx σ) w1 := by unfold bH; simp only [aU, cO]
theorem E6 : T (b6 ta sa sb σ w) PF = T (ta σ w) fun k w1 => if k = true then T (sa σ w1) PF else T (sb σ w1) PF := by unfold b6; simp only [aU, nA]
theorem C9 : T (aP σ w) PF = PF (.nx σ) w := by unfold T; rfl
theorem A3 : T (aK a g σ w) PF = T (a σ w) fun d w1 => T (g d σ w1) fun s w2 => PF (.nx s) w2 := by unfold aK; simp only [aU, cO]
theorem o4 {i : Nat} {PS : Sg → W → Prop} : T (aN i d σ w) PS = PS (σ.set i (some d)) w := by unfold T; rfl
theorem C2 {PS : Sg → W → Prop} : T (bK a b d σ w) PS = T (a σ w) fun o w1 => T (b σ w1) fun i w2 => T (setM o i d w2) fun _ w3 => PS σ w3 := by unfold bK; simp only [aU, cO]
theorem DG {C : Addr} {z : Str} : T (i8 C z a b σ w) PF = T (b σ w) fun x w1 => T (a σ w1) fun d w2 => T (tW C z d x w2) fun _ w3 => PF (.nx σ) w3 := by unfold i8; simp only [aU, cO]
theorem BR {n : Nat} {xs : List D} {PS : Sg → W → Prop} : T (a9 n gs (.tup xs) σ w) PS = (xs.length = n ∧ T (gs xs σ w) PS) := by simp only [a9, bW]
theorem zN {n : Nat} {xs : List D} {PS : Sg → W → Prop} : T (a9 n gs (.i4 xs) σ w) PS = (xs.length = n ∧ T (gs xs σ w) PS) := by simp only [a9, bW]
theorem CU {PS : Sg → W → Prop} : T (a5 [] σ w) PS = PS σ w := by unfold T; rfl
theorem yO {xs : List D} {PS : Sg → W → Prop} : T (aE g gs (d :: xs) σ w) PS = T (g d σ w) fun s w1 => T (gs xs s w1) PS := by simp only [aE, aU]
theorem j4 {mb : MS} {N : List Str} {ds : List D} : T (aZ mb N ds w) P = T (mb (begin N ds) w) fun f w1 => match f with
 | .nx _ => P .non w1
 | .rt d => P d w1
 | _ => False := by
 unfold aZ
 simp only [aU]
 congr 1; funext f w1
 cases f <;> (first | rfl | (unfold T; rfl) | (unfold Then; rfl))
end
section
variable {w : W} {P : D → W → Prop} {a b : Int} {x y d : D}
theorem A2 : T (a8 (.int a) (.int b) w) P = P (.int (a + b)) w := by unfold T; rfl
theorem D8 : T (eH (.int a) (.int b) w) P = P (.int (a - b)) w := by unfold T; rfl
theorem A8 : T (mulM (.int a) (.int b) w) P = (fA a b = true ∧ P (.int (a * b)) w) := by unfold mulM; simp only [bW, cO]
theorem AV : T (dE (.int a) (.int b) w) P = (0 < b ∧ P (.int (a % b)) w) := by unfold dE; simp only [bW, cO]
theorem C3 : T (dZ (.int a) (.int b) w) P = ((0 < b ∧ b < 1073741824) ∧ P (.int (a / b)) w) := by unfold dZ; simp only [bW, cO]
theorem DU : T (oT (.int a) w) P = P (.int (-a)) w := by unfold T; rfl
theorem G4 : T (sL (.int a) (.int b) w) P = P (.bl (decide (a < b))) w := by unfold T; rfl
theorem GB : T (DZ (.int a) (.int b) w) P = P (.bl (decide (a ≤ b))) w := by unfold T; rfl
theorem GL : T (oX (.int a) (.int b) w) P = P (.bl (decide (b < a))) w := by unfold T; rfl
theorem G6 : T (yK (.int a) (.int b) w) P = P (.bl (decide (b ≤ a))) w := by unfold T; rfl
theorem CD {xs ys : List D} : T (a8 (.tup xs) (.tup ys) w) P = (xs.length + ys.length ≤ sizeLine ∧ P (.tup (xs ++ ys)) w) := by unfold a8; simp only [bW, cO]
theorem B7 {xs ys : List D} : T (a8 (.lst xs) (.lst ys) w) P = (xs.length + ys.length ≤ sizeLine ∧ P (.lst (xs ++ ys)) w) := by unfold a8; simp only [bW, cO]
theorem EM : T (DR x .non w) P = P (.bl x.isNon) w := by cases x <;> (first | rfl | (unfold T; rfl))
theorem FV {p q : Bool} : T (DR (.bl p) (.bl q) w) P = P (.bl (decide (p = q))) w := by unfold T; rfl
theorem vT : T (lU x .non w) P = P (.bl (!x.isNon)) w := by cases x <;> (first | rfl | (unfold T; rfl))
theorem xA {p q : Bool} : T (lU (.bl p) (.bl q) w) P = P (.bl (!decide (p = q))) w := by unfold T; rfl
theorem EE : T (notM x w) P = T (bR x w) fun c _ => P (.bl (!c)) w := by unfold notM; simp only [aU, cO]
theorem CA {p : Bool} {PB : Bool → W → Prop} : T (bR (.bl p) w) PB = PB p w := by unfold T; rfl
theorem DK {PB : Bool → W → Prop} : T (bR (.int a) w) PB = PB (a != 0) w := by unfold T; rfl
theorem CV {PB : Bool → W → Prop} : T (bR .non w) PB = PB false w := by unfold T; rfl
theorem A4 {xs : List D} : T (vK xs (.int a) w) P = ∃ d, atI xs a = some d ∧ P d w := by
 show T (match atI xs a with
  | some d => Res.ok d w
  | none => .bad) P = _
 cases atI xs a with
 | none => simp [T]
 | some d => simp [T]
theorem EK {xs : List D} : T (aL (.tup xs) y w) P = T (vK xs y w) P := by unfold T; rfl
theorem DX {xs : List D} : T (aL (.i4 xs) y w) P = T (vK xs y w) P := by unfold T; rfl
theorem AZ {xs : List D} : T (aL (.lst xs) y w) P = T (vK xs y w) P := by unfold T; rfl
theorem vF : T (cX x y w) P = ∃ r, mK x y w = some r ∧ P (.bl r) w := by
 unfold cX
 cases mK x y w with
 | none => simp [T]
 | some r => simp [T]
theorem yG : T (f7 x y w) P = ∃ r, mK x y w = some r ∧ P (.bl (!r)) w := by
 unfold f7
 cases mK x y w with
 | none => simp [T]
 | some r => simp [T]
theorem iQ : mK (.int a) (.int b) w = some (a == b) := by simp [mK, D.py, D.cW, SeqAt.shaped, PyData.canLay0, PyData.depth, PyData.eqv]
theorem o7 : T (cF [d] w) P = ∃ n, lI d w = some n ∧ P (.int n) w := by
 show T (match lI d w with
  | some n => Res.ok (D.int n) w
  | none => .bad) P = _
 cases lI d w with
 | none => simp [T]
 | some n => simp [T]
theorem B1 : T (hV [d] w) P = ∃ z, k7 d w = some z ∧ P (.str z) w := by
 show T (match k7 d w with
  | some n => Res.ok (D.str n) w
  | none => .bad) P = _
 cases k7 d w with
 | none => simp [T]
 | some n => simp [T]
end
theorem BV {it : gF} {g : MG} {body : MS} {P : Fl → W → Prop} (Inv : Nat → Sg → W → Prop) (ok : ∀ i σ w, Inv i σ w → it.ok w)
  (step : ∀ i x σ w, it.xs[i]? = some x → Inv i σ w → T (g x σ w) fun σ1 w1 => T (body σ1 w1) fun f w2 => match f with
   | .nx s => Inv (i + 1) s w2
   | .ct s => Inv (i + 1) s w2
   | .bk s => P (.nx s) w2
   | .rt d => P (.rt d) w2) (fin : ∀ σ w, Inv it.xs.length σ w → P (.nx σ) w) : ∀ {i : Nat} {σ : Sg} {w : W}, i ≤ it.xs.length → Inv i σ w → T (forL it g body (it.xs.drop i) σ w) P := by
 intro i
 generalize hn : it.xs.length - i = n
 induction n generalizing i with
 | zero =>
  intro σ w hi h
  have e : i = it.xs.length := by omega
  subst e
  rw [List.drop_length]
  unfold forL
  rw [if_pos (ok _ _ _ h)]
  rw [cO]; exact fin σ w h
 | succ n ih =>
  intro σ w hi h
  have hlt : i < it.xs.length := by omega
  rw [List.drop_eq_getElem_cons hlt]
  unfold forL
  rw [if_pos (ok _ _ _ h), aU]
  refine (step i _ σ w (ar hlt) h).mono fun s1 w1 _ q => ?_
  rw [aU]
  refine T.mono q fun f w2 _ q2 => ?_
  cases f with
  | nx s => exact ih (by omega) (by omega) q2
  | ct s => exact ih (by omega) (by omega) q2
  | bk s => rw [cO]; exact q2
  | rt d => rw [cO]; exact q2
theorem E2 {m : MI} {g : MG} {body : MS} {σ : Sg} {w : W} {P : Fl → W → Prop} : T (cV m g body σ w) P = T (m σ w) fun it w1 => T (forL it g body it.xs σ w1) P := by unfold cV; simp only [aU]
theorem oU {it : gF} {vs : List Nat} {g : MG} {t : MT} {e : ME} {σ : Sg} {P : List D → W → Prop} (Inv : Nat → List D → W → Prop) (ok : ∀ i acc w, Inv i acc w → it.ok w)
  (step : ∀ i x acc w, it.xs[i]? = some x → Inv i acc w → T (g x (e8 σ vs) w) fun σ1 w1 => T (t σ1 w1) fun b w2 => if b = true then T (e σ1 w2) fun y w3 => Inv (i + 1) (acc ++ [y]) w3 else Inv (i + 1) acc w2)
  (fin : ∀ acc w, Inv it.xs.length acc w → P acc w) : ∀ {i : Nat} {acc : List D} {w : W}, i ≤ it.xs.length → Inv i acc w → T (fD it vs g t e (it.xs.drop i) σ w) fun ys w1 => P (acc ++ ys) w1 := by
 intro i
 generalize hn : it.xs.length - i = n
 induction n generalizing i with
 | zero =>
  intro acc w hi h
  have e : i = it.xs.length := by omega
  subst e
  rw [List.drop_length]
  unfold fD
  rw [if_pos (ok _ _ _ h)]
  rw [cO, List.append_nil]
  exact fin acc w h
 | succ n ih =>
  intro acc w hi h
  have hlt : i < it.xs.length := by omega
  rw [List.drop_eq_getElem_cons hlt]
  unfold fD
  rw [if_pos (ok _ _ _ h), aU, x5]
  refine (step i _ acc w (ar hlt) h).mono fun s1 w1 _ q => ?_
  rw [aU, x5]
  refine T.mono q fun b w2 _ q2 => ?_
  cases b with
  | true =>
   simp only [ah] at q2 ⊢
   rw [aU, x5]
   refine T.mono q2 fun y w3 _ q3 => ?_
   rw [aU]
   refine (ih (by omega) (by omega) q3).mono fun ys w4 _ q4 => ?_
   rw [cO]
   simpa using q4
  | false =>
   simp only [Bool.false_eq_true, ai] at q2 ⊢
   exact ih (by omega) (by omega) q2
theorem x4 {m : MI} {vs : List Nat} {g : MG} {t : MT} {e : ME} {σ : Sg} {w : W} {P : D → W → Prop} : T (bA m vs g t e σ w) P = T (m σ w) fun it w1 => it.xs.length ≤ sizeLine ∧ T (fD it vs g t e it.xs σ w1) fun ys w2 => P (.lst ys) w2 := by
 unfold bA s9
 simp only [aU, bW, cO]
section
variable {w w1 w2 : W} {d c i : Nat} {o : MO}
theorem Kept.refl : Kept w w d c := ⟨rfl, fun _ _ _ => rfl⟩
theorem Kept.trans (a : Kept w w1 d c) (b : Kept w1 w2 d c) : Kept w w2 d c := ⟨b.1.trans a.1, fun i h1 h2 => (b.2 i h1 h2).trans (a.2 i h1 h2)⟩
theorem Kept.obj (a : Kept w w1 d c) (h : w[i]? = some o) (h1 : i ≠ d) (h2 : i ≠ c) : w1[i]? = some o := by rw [a.2 i h1 h2]; exact h
theorem fL.lt (h : fL w d c) : d < w.length ∧ c < w.length := by
 obtain ⟨_, cells, sm, n, h1, h2, _⟩ := h
 exact ⟨(ae.mp h1).1, (ae.mp h2).1⟩
theorem fL.set (h : fL w d c) (h1 : i ≠ d) (h2 : i ≠ c) : fL (w.set i o) d c := by
 obtain ⟨hne, cells, sm, n, g1, g2, g3⟩ := h
 exact ⟨hne, cells, sm, n, by rw [aj h1]; exact g1, by rw [aj h2]; exact g2, g3⟩
end
def A5 : List Str := [("_law_deck_here" : Str), ("_law_size" : Str), ("_law_cell" : Str), ("_law_number" : Str)]
def vY : MF := aZ mZ A5
theorem lP {w : W} {d c : Nat} {size : Int} {P : D → W → Prop} (h : fL w d c) (h0 : 0 < size) (h1 : size < 1073741824) (k : ∀ r w', 0 ≤ r → r < size → fL w' d c → Kept w w' d c → P (.int r) w') : T (vY [.ref d, .int size] w) P := by
 obtain ⟨r, w', e, r0, r1, r2, r3⟩ := zQ A5 rfl h h0 h1
 exact T.of e (k r w' r0 r1 r2 r3)
def BD : List Str := [("_law_deck_here" : Str), ("_law_some" : Str)]
def A9 : MS := (aT (aC aL (aB 1) (aH vY 2 aM (aA (aB 0) (aA (aO cF (aA (aB 1) aD)) aD)))))
def wQ : MF := aZ A9 BD
theorem atI_nat {xs : List D} {r : Int} (h0 : 0 ≤ r) (h1 : r < xs.length) : ∃ (i : Nat) (x : D), xs[i]? = some x ∧ atI xs r = some x ∧ (i : Int) = r := by
 have l : r.toNat < xs.length := by omega
 refine ⟨r.toNat, xs[r.toNat], ar l, ?_, by omega⟩
 unfold atI ixN
 rw [if_pos h0, if_pos h1]
 show xs[r.toNat]? = _
 exact ar l
theorem BO {w : W} {d c : Nat} {xs : List D} {P : D → W → Prop} (h : fL w d c) (h0 : xs ≠ []) (h1 : xs.length < 1073741824) (k : ∀ x w', x ∈ xs → fL w' d c → Kept w w' d c → P x w') : T (wQ [.ref d, .lst xs] w) P := by
 have b : begin BD [.ref d, .lst xs] = [some (.ref d), some (.lst xs)] := rfl
 have l0 : 0 < xs.length := List.length_pos_iff.mpr h0
 simp only [wQ, A9, b, j4, vS, uD, FZ, v5, oD, wU, nE, o7, lI, D.items, List.getElem?_cons_zero, List.getElem?_cons_succ, Option.map_some, List.length_cons, List.length_nil, aM, true_and]
 refine ⟨xs.length, rfl, lP h (by omega) (by omega) fun r w' r0 r1 r2 r3 => ?_⟩
 rw [AZ, A4]
 obtain ⟨i, x, e1, e2, _⟩ := atI_nat r0 r1
 exact ⟨x, e2, k x w' (bc e1) r2 r3⟩
section
variable {σ : Sg} {w : W} {PI : gF → W → Prop} {P : D → W → Prop}
theorem wR {m : ME} : T (bX m σ w) PI = T (m σ w) fun d w1 => T (iterM d w1) PI := by unfold bX; simp only [aU]
theorem BX {f : List D → W → Res gF} {ma : MA} : T (cD f ma σ w) PI = T (ma σ w) fun xs w1 => T (f xs w1) PI := by unfold cD; simp only [aU]
theorem E7 {i : Nat} {xs : List D} (h : w[i]? = some (.lst xs)) : T (iterM (.ref i) w) PI = PI ⟨xs, holds i (.lst xs)⟩ w := by simp only [iterM, h]; unfold T; rfl
theorem FT {xs : List D} : T (iterM (.tup xs) w) PI = PI ⟨xs, always⟩ w := by unfold T; rfl
theorem FN {xs : List D} : T (iterM (.lst xs) w) PI = PI ⟨xs, always⟩ w := by unfold T; rfl
theorem rQ {n : Int} (h : 0 ≤ n) (h2 : n < 1073741824) : T (eV [.int n] w) PI = PI (eJ 0 n.toNat) w := by
 simp only [eV]
 rw [if_pos (by constructor <;> omega)]
 unfold T; rfl
theorem DC {a b : Int} (h : -1073741824 ≤ a ∧ a < 1073741824) (h2 : -1073741824 ≤ b ∧ b < 1073741824) : T (uL [.int a, .int b] w) PI = PI (eJ a (b - a).toNat) w := by
 simp only [uL]
 rw [if_pos (by refine ⟨?_, ?_, ?_, ?_⟩ <;> omega)]
 unfold T; rfl
theorem t5 {PO : Option Int → W → Prop} : T (cU σ w) PO = PO none w := by unfold T; rfl
theorem uE {m : ME} {PO : Option Int → W → Prop} : T (cE m σ w) PO = T (m σ w) fun d w1 => match d with
 | .int i => PO (some i) w1
 | _ => False := by
 unfold cE
 simp only [aU]
 congr 1; funext d w1
 cases d <;> (unfold T; rfl)
theorem D5 {f : D → Option Int → Option Int → W → Res D} {a : ME} {lo hi : BI} : T (kL f a lo hi σ w) P = T (a σ w) fun x w1 => T (lo σ w1) fun l w2 => T (hi σ w2) fun u w3 => T (f x l u w3) P := by unfold kL; simp only [aU]
theorem g6 : ∀ ns : List Int, eO (ns.map D.int) = some ns
 | [] => rfl
 | n :: ns => by simp [eO, g6 ns]
theorem zU {ns : List Int} {lo hi : Option Int} : ∃ ms : List Int, cutD (ns.map D.int) lo hi = ms.map D.int ∧ ms.length ≤ ns.length := by
 unfold cutD
 rw [← List.map_drop, ← List.map_take]
 exact ⟨_, rfl, by simp; omega⟩
end
def AU : List Str := [("_law_script" : Str), ("_law_some" : Str), ("_law_cell" : Str)]
def AG : MS :=
 (aG (aK (m9 rM (aO lB (aA (kL j0 (aB 0) cU (cE (eC (.int 63)))) aD))) (aN 1))
 (aT (eNew (aA (aB 1) (aA (aC a8 (aO pB (aA (bA (bX (aB 1)) [2] (aN 2) bG (aC dE (aB 2) (eC (.int 2147483629)))) aD)) (aC mulM (eC (.int 13)) (aO cF (aA (aB 1) aD)))) (aA (eC (.int 0)) aD))))))
def wN : MF := aZ AG AU
theorem BS {ns : List Int} (hn : ns.length ≤ 63) : T (wN [.fM (ns.map D.int)] []) fun r w => r = .ref 1 ∧ w.length = 2 ∧ fL w 1 0 := by
 have b : begin AU [.fM (ns.map D.int)] = [some (.fM (ns.map D.int)), none, none] := rfl
 obtain ⟨ms, e1, e2⟩ := zU (ns := ns) (lo := none) (hi := some 63)
 have sl : j0 (.fM (ns.map D.int)) none (some 63) [] = .ok (.lst (ms.map D.int)) [] := by simp only [j0, e1]
 have lm : lB [.lst (ms.map D.int)] [] = .ok (.lst (ms.map D.int)) [] := rfl
 have rv : rM (.lst (ms.map D.int)) [] = .ok (.ref 0) [.lst (ms.reverse.map D.int)] := by simp only [rM, hX, List.map_reverse]; rfl
 obtain ⟨cells, hc⟩ : ∃ cells, ms.reverse = cells := ⟨_, rfl⟩
 have hl : cells.length ≤ 63 := by rw [← hc, List.length_reverse]; omega
 rw [hc] at rv
 have h0 : ([MO.lst (cells.map D.int)] : W)[0]? = some (.lst (cells.map D.int)) := rfl
 simp only [wN, AG, b, j4, dH, A3, E1, wU, oD, D5, FZ, t5, uE, GA, nE, sl, lm, rv, cO, o4, kJ, vS, AH, uD, x4, wR, E7 h0, o7, lI, List.getElem?_cons_zero, List.getElem?_cons_succ, List.set_cons_zero, List.set_cons_succ]
 refine ⟨by rw [ax, sizeLine_eq]; omega, ?_⟩
 have cl := oU (it := ⟨cells.map D.int, holds 0 (.lst (cells.map D.int))⟩) (vs := [2]) (g := aN 2) (t := bG) (e := aC dE (aB 2) (eC (.int 2147483629))) (σ := [some (.fM (ns.map D.int)), some (.ref 0), none])
  (P := fun ys w1 => w1 = [MO.lst (cells.map D.int)] ∧ ∃ ks : List Int, ys = ks.map D.int) (fun i acc w1 => w1 = [MO.lst (cells.map D.int)] ∧ ∃ ks : List Int, acc = ks.map D.int) (fun i acc w1 h => by rw [h.1]; exact h0)
  (fun i x acc w1 hx h => by
   obtain ⟨rfl, ks, rfl⟩ := h
   have hx' : (cells.map D.int)[i]? = some x := hx
   rw [bb] at hx'
   cases hz : cells[i]? with
   | none => rw [hz] at hx'; cases hx'
   | some z =>
    rw [hz] at hx'
    cases hx'
    simp only [o4, tA, ah, uD, FZ, GA, e8, List.set_cons_zero, List.set_cons_succ, List.getElem?_cons_zero, List.getElem?_cons_succ, AV]
    exact ⟨by decide, trivial, ks ++ [z % 2147483629], by simp⟩)
  (fun acc w1 h => h) (i := 0) (acc := []) (Nat.zero_le _) ⟨rfl, [], rfl⟩
 rw [List.drop_zero] at cl
 refine cl.mono fun ys w1 _ h => ?_
 rw [List.nil_append] at h
 obtain ⟨rfl, ks, rfl⟩ := h
 have sm : pB [.lst (ks.map D.int)] [MO.lst (cells.map D.int)] = .ok (.int ks.sum) [MO.lst (cells.map D.int)] := by simp only [pB, hX, Option.bind_some, g6]
 have ln : cF [.ref 0] [MO.lst (cells.map D.int)] = .ok (.int cells.length) [MO.lst (cells.map D.int)] := by simp [cF, lI]
 simp only [sm, cO, GA, ln, A8, A2, nE]
 exact ⟨(cells.map D.int).length, rfl, by simp [fA], by show 3 ≤ sizeLine; rw [sizeLine_eq]; decide, rfl, rfl, by decide, cells, _, 0, rfl, rfl, hl⟩
def jK (r : List Int) : D := .tup (r.map .int)
def HC (t : Int × Int × Int) : D := .tup [.int t.1, .int t.2.1, .int t.2.2]
structure Mo where
 bZ : List (List Int)
 iZ : Int
 nV : Int
 mA : Int
 bears : D
 gap : Int
 hold : Int
 takes : Bool
 xR : List (Int × Int × Int)
 gC : Int
def Mo.kvs (m : Mo) : List (Key × D) := [(.inr "ranks", .tup (m.bZ.map jK)), (.inr "every", .int m.iZ), (.inr "lost", .int m.nV), (.inr "slow", .int m.mA), (.inr "bears", m.bears), (.inr "gap", .int m.gap), (.inr "hold", .int m.hold),
 (.inr "takes", .bl m.takes), (.inr "ties", .tup (m.xR.map HC)), (.inr "hosts", .int m.gC)]
structure yQ (rs : List (List Int)) (h : Nat) : Prop where
 h1 : 1 ≤ h
 h6 : h ≤ 6
 row : ∀ r ∈ rs, r.length = h ∧ ∀ x ∈ r, 1 ≤ x ∧ x ≤ 12
structure BW (ts : List (Int × Int × Int)) (h : Nat) : Prop where
 few : ts.length ≤ 6
 each : ∀ t ∈ ts, (0 ≤ t.1 ∧ t.1 < h) ∧ (0 ≤ t.2.1 ∧ t.2.1 ≤ 9) ∧ (1 ≤ t.2.2 ∧ t.2.2 ≤ 11)
 up : ts.Pairwise fun a b => a.1 < b.1 ∨ (a.1 = b.1 ∧ a.2.1 < b.2.1)
theorem lA {n : Nat} {i : Nat} {x : D} {lo : Int} (h : (eJ lo n).xs[i]? = some x) : i < n ∧ x = .int (lo + i) := by
 have h' : ((List.range n).map fun k : Nat => D.int (lo + (k : Int)))[i]? = some x := h
 rw [bb] at h'
 by_cases hi : i < n
 ·rw [List.getElem?_range hi] at h'
  cases h'
  exact ⟨hi, rfl⟩
 ·rw [List.getElem?_eq_none (by simpa using hi)] at h'
  cases h'
theorem jQ {n : Nat} {lo : Int} : (eJ lo n).xs.length = n := by simp [eJ]
open PySem.W (dataLe)
def pairD (p : Int × Int) : D := .tup [.int p.1, .int p.2]
section
variable {σ : Sg} {w : W} {P : D → W → Prop} {PP : List (D × D) → W → Prop}
theorem DH : T (GF σ w) PP = PP [] w := by unfold T; rfl
theorem yV {a b : ME} {r : MP} : T (AW a b r σ w) PP = T (a σ w) fun k w1 => T (b σ w1) fun v w2 => T (r σ w2) fun ps w3 => PP ((k, v) :: ps) w3 := by unfold AW; simp only [aU, cO]
theorem E4 {m : MP} : T (EI m σ w) P = T (m σ w) fun ps w1 => ∃ kvs, keyed ps = some kvs ∧ kvs.length ≤ 15 ∧ P (.ref w1.length) (w1 ++ [.dK (sE [] kvs)]) := by
 unfold EI
 simp only [aU]
 congr 1; funext ps w1
 cases keyed ps with
 | none => simp [T]
 | some kvs => simp [bW, cO]
end
section
variable {α β : Type} {it : gF} {vs : List Nat} {g : MG} {t : MT} {e : ME} {σ : Sg} {w : W} {P : List D → W → Prop}
theorem kF (ys : List α) (enc : α → D) (f : α → D) (p : α → Bool) (hx : it.xs = ys.map enc) (hok : it.ok w)
  (h : ∀ y ∈ ys, T (g (enc y) (e8 σ vs) w) fun σ1 w1 => T (t σ1 w1) fun b w2 => (w2 = w ∧ b = p y) ∧ (p y = true → T (e σ1 w2) fun z w3 => z = f y ∧ w3 = w)) (k : P ((ys.filter p).map f) w) :
  T (fD it vs g t e it.xs σ w) P := by
 have cl := oU (it := it) (vs := vs) (g := g) (t := t) (e := e) (σ := σ) (P := P) (fun i acc w1 => w1 = w ∧ acc = ((ys.take i).filter p).map f) (fun _ _ _ q => by rw [q.1]; exact hok)
  (fun i x acc w1 hi q => by
   obtain ⟨rfl, rfl⟩ := q
   rw [hx, bb] at hi
   cases hy : ys[i]? with
   | none => rw [hy] at hi; cases hi
   | some y =>
    rw [hy] at hi
    cases hi
    refine (h y (bc hy)).mono fun σ1 w2 _ q => q.mono fun b w3 _ q => ?_
    obtain ⟨⟨rfl, rfl⟩, q⟩ := q
    rw [List.take_add_one, hy]
    by_cases hp : p y = true
    ·rw [if_pos hp]
     refine (q hp).mono fun z w4 _ q => ⟨q.2, ?_⟩
     rw [q.1]
     simp [List.filter_append, hp]
    ·rw [if_neg hp]
     refine ⟨rfl, ?_⟩
     simp [List.filter_append, hp])
  (fun acc w1 q => by
   obtain ⟨rfl, rfl⟩ := q
   rw [hx, ax, List.take_length]
   exact k) (i := 0) (acc := []) (w := w) (Nat.zero_le _) ⟨rfl, rfl⟩
 rw [List.drop_zero] at cl
 exact cl.mono fun _ _ _ q => by simpa using q
end
end Pc
namespace Lb
open PySem PySem.Spec PyProof.Rows L2 Pc
structure bB where
 bM : Addr
 DO : Addr
def rP : List Str := [("thing" : Str)]
def sO (k : bB) : MS :=
 (aT (gE (aO (vB uS) (aA (aB 0) (aA (eC (.ty "int")) aD))) (m9 notM (aO (vB uS) (aA (aB 0) (aA (eC (.ty "bool")) aD))))))
def lO (k : bB) : MF := aZ (sO k) rP
def qT : List Str := [("thing" : Str), ("least" : Str), ("most" : Str)]
def qB (k : bB) : MS :=
 (aT (gE (aH (lO k) 1 aM (aA (aB 0) aD)) (DW DZ DZ (aB 1) (aB 0) (aB 2))))
def b9 (k : bB) : MF := aZ (qB k) qT
def uP : List Str := [("plan" : Str), ("rank" : Str)]
def u4 (k : bB) : MS :=
 (aT (aC a8 (eC (.int 2)) (aC mulM (bL k.bM ("gap" : Str) (aB 0)) (aC eH (eC (.int 12)) (aB 1)))))
def vI (k : bB) : MF := aZ (u4 k) uP
def kU : List Str := [("plan" : Str), ("lost" : Str)]
def lK (k : bB) : MS :=
 (aT (aC a8 (aC mulM (aC a8 (aB 1) (eC (.int 1))) (bL k.bM ("every" : Str) (aB 0))) (bL k.bM ("slow" : Str) (aB 0))))
def lQ (k : bB) : MF := aZ (lK k) kU
def vA : List Str := [("plan" : Str), ("rank" : Str)]
def uR (k : bB) : MS :=
 (aT (aC a8 (aH (lQ k) 2 aM (aA (aB 0) (aA (bL k.bM ("bears" : Str) (aB 0)) aD))) (aC mulM (bL k.bM ("gap" : Str) (aB 0)) (aC eH (eC (.int 12)) (aB 1)))))
def mX (k : bB) : MF := aZ (uR k) vA
def sV : List Str := [("self" : Str)]
def sN (k : bB) : MS :=
 (aT (aO cF (aA (aC aL (bL k.bM ("ranks" : Str) (aB 0)) (eC (.int 0))) aD)))
def cL (k : bB) : MF := aZ (sN k) sV
section
variable {w : W} {P : D → W → Prop} (k : bB)
theorem sz (n : Nat) (h : n ≤ 1000) : n ≤ sizeLine := by rw [sizeLine_eq]; omega
theorem C4 {a b : Int} : T (cX (.int a) (.int b) w) P = P (.bl (a == b)) w := by
 rw [vF, iQ]
 simp
theorem DM {a b : Int} : T (f7 (.int a) (.int b) w) P = P (.bl (!(a == b))) w := by
 rw [yG, iQ]
 simp
theorem GQ {xs : List D} : T (cF [.tup xs] w) P = P (.int xs.length) w := by rw [o7]; simp [lI, D.items]
theorem E3 {xs : List D} : T (cF [.lst xs] w) P = P (.int xs.length) w := by rw [o7]; simp [lI, D.items]
theorem HF {xs : List D} : T (cF [.i4 xs] w) P = P (.int xs.length) w := by rw [o7]; simp [lI, D.items]
theorem HG {x : D} {xs : List D} : atI (x :: xs) 0 = some x := by
 unfold atI ixN
 rw [if_pos (by omega), if_pos (by simp)]
 rfl
end
section
variable {w : W} {P : D → W → Prop} (k : bB)
theorem z9 {a b : Str} (ha : PyData.strOk a = true) (hb : PyData.strOk b = true) : mK (.str a) (.str b) w = some (a == b) := by
 simp [mK, D.py, D.cW, SeqAt.shaped, PyData.canLay0, PyData.depth, PyData.eqv, ha, hb]
end
section
variable {w : W} {P : D → W → Prop} {PF : Fl → W → Prop} {PI : gF → W → Prop} {σ : Sg}
theorem xQ {m : ME} : T (tQ m σ w) PI = T (m σ w) fun d w1 => T (x9 d w1) PI := by unfold tQ; simp only [aU]
def Turn (next : Sg → W → Prop) (PF : Fl → W → Prop) : Fl → W → Prop := fun f w => match f with
 | .nx s => next s w
 | .ct s => next s w
 | .bk s => PF (.nx s) w
 | .rt d => PF (.rt d) w
open Classical in
open Classical in
structure H6 (m : Mo) (h : Nat) : Prop where
 bZ : yQ m.bZ h
 n1 : 1 ≤ m.bZ.length
 n4 : m.bZ.length ≤ 4
 iZ : 1 ≤ m.iZ ∧ m.iZ ≤ 5
 nV : 0 ≤ m.nV ∧ m.nV ≤ 3
 mA : 1 ≤ m.mA ∧ m.mA ≤ 4
 gap : 0 ≤ m.gap ∧ m.gap ≤ 3
 hold : 0 ≤ m.hold ∧ m.hold ≤ 20
 xR : BW m.xR h
 gC : 0 ≤ m.gC ∧ m.gC ≤ 4
variable (k : bB)
end
section
variable {w : W} {P : D → W → Prop} {PF : Fl → W → Prop} {PI : gF → W → Prop} {σ : Sg}
theorem IB : (0 ≤ sizeLine) = True := eq_true (sz _ (by omega))
theorem HR : (0 + 1 ≤ sizeLine) = True := eq_true (sz _ (by omega))
theorem IA : (0 + 1 + 1 ≤ sizeLine) = True := eq_true (sz _ (by omega))
theorem HU : (0 + 1 + 1 + 1 ≤ sizeLine) = True := eq_true (sz _ (by omega))
theorem HM : (0 + 1 + 1 + 1 + 1 ≤ sizeLine) = True := eq_true (sz _ (by omega))
theorem HW : (0 + 1 + 1 + 1 + 1 + 1 ≤ sizeLine) = True := eq_true (sz _ (by omega))
theorem H8 : (0 + 1 + 1 + 1 + 1 + 1 + 1 ≤ sizeLine) = True := eq_true (sz _ (by omega))
theorem HY : (0 + 1 + 1 + 1 + 1 + 1 + 1 + 1 ≤ sizeLine) = True := eq_true (sz _ (by omega))
theorem HK : (0 + 1 + 1 + 1 + 1 + 1 + 1 + 1 + 1 ≤ sizeLine) = True := eq_true (sz _ (by omega))
theorem IC : (0 + 1 + 1 + 1 + 1 + 1 + 1 + 1 + 1 + 1 ≤ sizeLine) = True := eq_true (sz _ (by omega))
theorem GW : (0 + 1 + 1 + 1 + 1 + 1 + 1 + 1 + 1 + 1 + 1 ≤ sizeLine) = True := eq_true (sz _ (by omega))
theorem GS : (0 + 1 + 1 + 1 + 1 + 1 + 1 + 1 + 1 + 1 + 1 + 1 ≤ sizeLine) = True := eq_true (sz _ (by omega))
theorem GC : (0 + 1 + 1 + 1 + 1 + 1 + 1 + 1 + 1 + 1 + 1 + 1 + 1 ≤ sizeLine) = True := eq_true (sz _ (by omega))
variable (k : bB)
variable {k} {p : Nat} {m : Mo} {b : Int}
def BE (m : Mo) (b r : Int) : Int := (b + 1) * m.iZ + m.mA + m.gap * (12 - r)
variable (k)
end
theorem fI (a b : Str) : PyData.strOk (a ++ b) = (PyData.strOk a && PyData.strOk b) := by
 show Array.all (a.cps ++ b.cps) _ = _
 unfold PyData.strOk
 rw [Array.all_append]
theorem dU (s : String) : PyData.strOk (Str.ofString s) = true := by
 rw [Str.ofString_eq_toList]
 unfold PyData.strOk
 rw [Array.all_eq_true_iff_forall_mem]
 intro c hc
 simp only [List.mem_toArray, List.mem_map] at hc
 obtain ⟨ch, _, rfl⟩ := hc
 have := ch.valid
 simp only [ak]
 have h2 : ch.toNat < 0x110000 := by
  have h3 : ch.toNat = ch.val.toNat := rfl
  rcases this with h | ⟨_, h⟩
  ·rw [h3]; exact Nat.lt_trans h (by decide)
  ·rw [h3]; exact h
 exact h2
theorem gH : ∀ (ts : List Str) (k : Nat) (acc : Str), PyData.strOk acc = true → (∀ t ∈ ts, PyData.strOk t = true) → PyData.strOk (textFrom k acc ts) = true
 | [], k, acc, h, _ => h
 | t :: ts, k, acc, h, ht => by
  unfold textFrom
  refine gH ts (k + 1) _ ?_ fun x hx => ht x (au _ hx)
  rw [fI, fI, h, ht t (ao ..), dU]
  rfl
theorem n9 (sep : Str) (hs : PyData.strOk sep = true) : ∀ ts : List Str, (∀ t ∈ ts, PyData.strOk t = true) → PyData.strOk (Str.join sep ts) = true
 | [], _ => by show PyData.strOk Str.empty = true; decide +kernel
 | [x], h => h x (ao ..)
 | x :: y :: r, h => by
  show PyData.strOk (x ++ sep ++ Str.join sep (y :: r)) = true
  rw [fI, fI, hs, h x (ao ..), n9 sep hs (y :: r) fun t ht => h t (au _ ht)]
  rfl
mutual
/-- data of short numbers and fine short texts, lists and tuples of such -/
def bJ : PyData → Bool
 | .none | .bool _ => true
 | .int i => decide (i.natAbs < 10 ^ 40)
 | .str x => PyData.strOk (reprText x) && PyData.strOk x && PyData.leavesShort 60 (.str x) && decide (x.length ≤ 100)
 | .list xs | .tuple xs => plainPs xs
 | .dict _ => false
def plainPs : List PyData → Bool
 | [] => true
 | x :: xs => bJ x && plainPs xs
end
mutual
theorem gY : ∀ p : PyData, bJ p = true → PyData.strOk p.shown = true
 | .none, _ => dU _
 | .bool b, _ => by cases b <;> exact dU _
 | .int i, _ => dU _
 | .str x, h => by
  simp only [bJ, af] at h
  exact h.1.1.1
 | .list xs, h => by
  rw [bJ] at h
  show PyData.strOk (textFrom 0 "[" (PyData.shownAll xs) ++ "]") = true
  rw [fI, gH _ _ _ (dU _) (plains_shown xs h), dU]
  rfl
 | .tuple xs, h => by
  rw [bJ] at h
  show PyData.strOk (tupleText (PyData.shownAll xs)) = true
  unfold tupleText
  rw [fI, fI, dU, n9 _ (dU _) _ (plains_shown xs h)]
  split <;> rw [dU] <;> rfl
 | .dict _, h => by simp [bJ] at h
theorem plains_shown : ∀ ps : List PyData, plainPs ps = true → ∀ t ∈ PyData.shownAll ps, PyData.strOk t = true
 | [], _, t, ht => by simp [PyData.shownAll] at ht
 | p :: ps, h, t, ht => by
  simp only [plainPs, af] at h
  simp only [PyData.shownAll, List.mem_cons] at ht
  rcases ht with rfl | ht
  ·exact gY p h.1
  ·exact plains_shown ps h.2 t ht
end
theorem m5 {i : Int} (h : i.natAbs < 10 ^ 40) : PyData.leavesShort 60 (.int i) = true := by
 have e := int_text_length_le10 (k := 40) (by decide) h
 simp only [PyData.leavesShort, ak]
 show (Str.ofString (toString i)).length ≤ 60
 rw [PySem.ofString_length]
 omega
theorem o8 {i : Int} (h : i.natAbs < 10 ^ 40) : PyData.showable (.int i) = true := by
 simp only [PyData.showable, ak]
 by_cases h0 : i.natAbs = 0
 ·rw [h0]; decide
 ·rw [Nat.log2_lt h0]
  exact Nat.lt_of_lt_of_le h (by decide +kernel)
mutual
theorem plain_all : ∀ p : PyData, bJ p = true → p.leavesShort 60 = true ∧ p.showable = true ∧ p.hasDict = false ∧ p.canLay0 = true
 | .none, _ => by simp [PyData.leavesShort, PyData.showable, PyData.hasDict, PyData.canLay0]
 | .bool b, _ => by simp [PyData.leavesShort, PyData.showable, PyData.hasDict, PyData.canLay0]
 | .int i, h => by
  simp only [bJ, ak] at h
  exact ⟨m5 h, o8 h, by simp [PyData.hasDict], by simp [PyData.canLay0]⟩
 | .str x, h => by
  simp only [bJ, af] at h
  exact ⟨h.1.2, by simp [PyData.showable], by simp [PyData.hasDict], by simp [PyData.canLay0, h.1.1.2]⟩
 | .list xs, h => by
  rw [bJ] at h
  have := plains_all xs h
  simp only [PyData.leavesShort, PyData.showable, PyData.hasDict, PyData.canLay0]
  exact this
 | .tuple xs, h => by
  rw [bJ] at h
  have := plains_all xs h
  simp only [PyData.leavesShort, PyData.showable, PyData.hasDict, PyData.canLay0]
  exact this
 | .dict _, h => by simp [bJ] at h
theorem plains_all : ∀ p : List PyData, plainPs p = true → PyData.leavesShortAll 60 p = true ∧ PyData.showableAll p = true ∧ PyData.hasDictAll p = false ∧ PyData.canLayAll0 p = true
 | [], _ => by simp [PyData.leavesShortAll, PyData.showableAll, PyData.hasDictAll, PyData.canLayAll0]
 | p :: ps, h => by
  simp only [plainPs, af] at h
  obtain ⟨a1, a2, a3, a4⟩ := plain_all p h.1
  obtain ⟨b1, b2, b3, b4⟩ := plains_all ps h.2
  simp only [PyData.leavesShortAll, PyData.showableAll, PyData.hasDictAll, PyData.canLayAll0, a1, a2, a3, a4, b1, b2, b3, b4]
  simp
end
structure z6 (p : PyData) : Prop where
 plain : bJ p = true
 bulk : p.bulk ≤ 200000
 deep : p.depth ≤ 40
section
variable {w : W} {P : D → W → Prop} {x y : D} {p q : PyData}
theorem z6.shaped (h : z6 p) : SeqAt.shaped p = true := by
 have h1 := (plain_all p h.plain).2.2.2
 have h2 := h.deep
 unfold SeqAt.shaped
 simp [h1]
 omega
theorem xZ (e : x.py w = some p) (h : z6 p) : k7 x w = some p.shown := by
 obtain ⟨a1, a2, a3, a4⟩ := plain_all p h.plain
 unfold k7
 rw [e]
 have b := PyData.shown_le_bulk 60 (by decide) p a1
 have d := h.deep
 have z := h.bulk
 simp only []
 rw [if_pos]
 refine ⟨a2, a3, by omega, ?_⟩
 have := sizeLine_eq
 have : (60 + 2) * p.bulk ≤ 62 * 200000 := Nat.mul_le_mul_left _ z
 omega
theorem BU (e : x.py w = some p) (h : z6 p) : T (hV [x] w) P = P (.str p.shown) w := by
 rw [B1, xZ e h]
 simp
theorem w9 {a b : Str} (ha : PyData.strOk a = true) (hb : PyData.strOk b = true) : mK (.str a) (.str b) w = some (decide (a = b)) := by
 rw [z9 ha hb]
 rfl
theorem wV (h : z6 p) (g : z6 q) : T (f7 (.str p.shown) (.str q.shown) w) P = P (.bl (!decide (p.shown = q.shown))) w := by
 rw [yG, w9 (gY p h.plain) (gY q g.plain)]
 simp
end
theorem lE {it : gF} {g : MG} {body : MS} {P : Fl → W → Prop} {σ : Sg} {w : W} (Inv : Nat → Sg → W → Prop) (ok : ∀ i σ w, Inv i σ w → it.ok w) (init : Inv 0 σ w)
  (step : ∀ i x σ w, it.xs[i]? = some x → Inv i σ w → T (g x σ w) fun σ1 w1 => T (body σ1 w1) (Turn (Inv (i + 1)) P)) (fin : ∀ σ w, Inv it.xs.length σ w → P (.nx σ) w) : T (forL it g body it.xs σ w) P := by
 have fl := BV (it := it) (g := g) (body := body) (P := P) Inv ok (fun i x σ w h1 h2 => (step i x σ w h1 h2).mono fun s1 w1 _ q => q.mono fun f w2 _ q2 => by cases f <;> exact q2) fin (i := 0) (σ := σ) (w := w) (Nat.zero_le _) init
 rw [List.drop_zero] at fl
 exact fl
theorem y8 {it : gF} {vs : List Nat} {g : MG} {t : MT} {e : ME} {σ : Sg} {w : W} {P : List D → W → Prop} (Inv : Nat → List D → W → Prop) (ok : ∀ i acc w, Inv i acc w → it.ok w) (init : Inv 0 [] w)
  (step : ∀ i x acc w, it.xs[i]? = some x → Inv i acc w → T (g x (e8 σ vs) w) fun σ1 w1 => T (t σ1 w1) fun b w2 => if b = true then T (e σ1 w2) fun y w3 => Inv (i + 1) (acc ++ [y]) w3 else Inv (i + 1) acc w2)
  (fin : ∀ acc w, Inv it.xs.length acc w → P acc w) : T (fD it vs g t e it.xs σ w) P := by
 have cl := oU (it := it) (vs := vs) (g := g) (t := t) (e := e) (σ := σ) (P := P) Inv ok step fin (i := 0) (acc := []) (w := w) (Nat.zero_le _) init
 rw [List.drop_zero] at cl
 exact cl.mono fun _ _ _ q => by simpa using q
section
variable {w : W} {P : D → W → Prop} {k : bB} {p h : Nat} {m : Mo} {b : Int}
def t8 (m : Mo) : Int := (m.nV + 1) * m.iZ + m.mA - 1
end
inductive Role where
 | rests | AJ | vR
deriving DecidableEq
def Role.s : Role → Str
 | .rests => "rests"
 | .AJ => "waits"
 | .vR => "serves"
structure r5 where
 left : Int
 a : Int
 s : Int
 r : Int
 rank : Int
structure t9 where
 living : List Int
 parts : List Int
 downs : List Int
 bZ : List (List Int)
 bO : List (List (Role × Int))
 kI : List r5
 jY : List (List (List Int))
 tables : List (List Int)
 asks : List (Int × Int)
def DE (p : Role × Int) : D := .tup [.str p.1.s, .int p.2]
def EH (r : List (Role × Int)) : D := .tup (r.map DE)
def BF (l : r5) : D := .tup [.int l.left, .int l.a, .int l.s, .int l.r, .int l.rank]
def AY (l : List (List Int)) : D := .tup (l.map jK)
section
variable {w : W} {P : D → W → Prop} {k : bB} {p h : Nat} {m : Mo} {b : Int}
theorem D0 (n : Nat) (h : n ≤ 1000000) : n ≤ sizeLine := by rw [sizeLine_eq]; omega
end
section
variable {w : W} {P : D → W → Prop} {k : bB} {p h : Nat} {m : Mo} {b : Int}
theorem rY {α : Type} {f : α → D} {xs : List α} {j : Nat} {d : D} (e : (xs.map f)[j]? = some d) : ∃ x, xs[j]? = some x ∧ d = f x := by
 rw [bb] at e
 cases hz : xs[j]? with
 | none => rw [hz] at e; cases e
 | some x => rw [hz] at e; cases e; exact ⟨x, rfl, rfl⟩
theorem DA {xs : List D} {j : Nat} {d : D} (e : xs[j]? = some d) : atI xs (j : Int) = some d := by
 have hl := (ae.mp e).1
 unfold atI ixN
 rw [if_pos (by omega), if_pos (by omega)]
 exact e
end
section
variable {w : W} {P : D → W → Prop} {k : bB} {p h : Nat} {m : Mo} {b : Int}
def first (m : Mo) (b : Int) (h : Nat) : t9 where
 living := List.replicate h 1
 parts := List.replicate (h + m.gC.toNat) 0
 downs := []
 bZ := m.bZ
 bO := m.bZ.map fun r => r.map fun x => (.AJ, BE m b x + m.hold)
 kI := []
 jY := m.bZ.map fun _ => List.replicate h (List.replicate (h + m.gC.toNat) 0)
 tables := List.replicate m.gC.toNat (List.replicate m.bZ.length (-1))
 asks := List.replicate m.gC.toNat (0, 0)
end
structure cY (n d : Nat) (x : D) : Prop where
 ex : ∃ q, (∀ f, x.cW f = some q) ∧ bJ q = true ∧ q.bulk ≤ n ∧ q.depth ≤ d
structure c7 (n d : Nat) (xs : List D) : Prop where
 ex : ∃ qs, (∀ f, D.pysR f xs = some qs) ∧ plainPs qs = true ∧ PyData.bulkAll qs ≤ n ∧ PyData.depthAll qs ≤ d
section
variable {n n' d d' : Nat} {x : D} {xs : List D}
theorem cY.mono (h : cY n d x) (h1 : n ≤ n') (h2 : d ≤ d') : cY n' d' x := by
 obtain ⟨q, a, b, c, e⟩ := h.ex
 exact ⟨q, a, b, by omega, by omega⟩
theorem cY.int {i : Int} (h : i.natAbs < 10 ^ 40) : cY 0 1 (.int i) := ⟨.int i, fun _ => rfl, by simp only [bJ, ak]; exact h, by simp [PyData.bulk], by simp [PyData.depth]⟩
theorem cY.bl {b : Bool} : cY 0 1 (.bl b) := ⟨.bool b, fun _ => rfl, by simp [bJ], by simp [PyData.bulk], by simp [PyData.depth]⟩
theorem cY.str {s : Str} (h : bJ (.str s) = true) : cY 100 1 (.str s) := by
 refine ⟨.str s, fun _ => rfl, h, ?_, by simp [PyData.depth]⟩
 simp only [bJ, af, ak] at h
 exact h.2
theorem c7.nil : c7 0 0 [] := ⟨[], fun _ => rfl, rfl, by simp [PyData.bulkAll], by simp [PyData.depthAll]⟩
theorem c7.cons (h : cY n d x) (t : c7 n' d xs) : c7 (n + 1 + n') d (x :: xs) := by
 obtain ⟨q, a1, a2, a3, a4⟩ := h.ex
 obtain ⟨qs, b1, b2, b3, b4⟩ := t.ex
 refine ⟨q :: qs, fun f => by simp [D.pysR, a1, b1], by simp [plainPs, a2, b2], by simp only [PyData.bulkAll]; omega, ?_⟩
 simp only [PyData.depthAll]
 omega
theorem c7.mono (h : c7 n d xs) (h1 : n ≤ n') (h2 : d ≤ d') : c7 n' d' xs := by
 obtain ⟨q, a, b, c, e⟩ := h.ex
 exact ⟨q, a, b, by omega, by omega⟩
theorem c7.all : ∀ {xs : List D}, (∀ x ∈ xs, cY n d x) → c7 (xs.length * (n + 1)) d xs
 | [], _ => c7.nil.mono (Nat.zero_le _) (Nat.zero_le _)
 | x :: xs, h => by
  refine (c7.cons (h x (ao ..)) (c7.all fun y hy => h y (au _ hy))).mono ?_ (az _)
  rw [List.length_cons, Nat.succ_mul]
  omega
theorem cY.tup (h : c7 n d xs) : cY n (d + 1) (.tup xs) := by
 obtain ⟨qs, b1, b2, b3, b4⟩ := h.ex
 refine ⟨.tuple qs, fun f => by simp [D.cW, b1], by rw [bJ]; exact b2, by rw [PyData.bulk]; exact b3, by rw [PyData.depth]; omega⟩
theorem cY.lst (h : c7 n d xs) : cY n (d + 1) (.lst xs) := by
 obtain ⟨qs, b1, b2, b3, b4⟩ := h.ex
 refine ⟨.list qs, fun f => by simp [D.cW, b1], by rw [bJ]; exact b2, by rw [PyData.bulk]; exact b3, by rw [PyData.depth]; omega⟩
theorem cY.DB {c : Nat} (h : ∀ x ∈ xs, cY n d x) (hl : xs.length ≤ c) : cY (c * (n + 1)) (d + 1) (.tup xs) :=
 (cY.tup (c7.all h)).mono (Nat.mul_le_mul_right _ hl) (az _)
theorem cY.fit (h : cY n d x) (h1 : n ≤ 200000) (h2 : d ≤ 40) : ∃ q, (∀ w, x.py w = some q) ∧ z6 q := by
 obtain ⟨q, a, b, c, e⟩ := h.ex
 exact ⟨q, fun w => a _, b, by omega, by omega⟩
theorem cY.row {xs : List Int} {c : Nat} (h : ∀ x ∈ xs, x.natAbs < 10 ^ 40) (hl : xs.length ≤ c) : cY c 2 (jK xs) := by
 refine (cY.DB (n := 0) (d := 1) (c := c) (fun y hy => ?_) (by rw [ax]; exact hl)).mono (by omega) (az _)
 obtain ⟨x, hx, rfl⟩ := List.mem_map.mp hy
 exact cY.int (h x hx)
theorem cY.role (r : Role) : cY 100 1 (.str r.s) := cY.str (by cases r <;> decide +kernel)
end
def zZ := And.intro @j4 (And.intro @kJ (And.intro @zX (And.intro @vS (And.intro @B9 (And.intro @E6 (And.intro @C9 (And.intro @A3 (And.intro @o4 (And.intro @C2 (And.intro @DG (And.intro @BR (And.intro @zN (And.intro @CU (And.intro @yO (And.intro @GA (And.intro @FZ (And.intro @uD (And.intro @E1 (And.intro @FF (And.intro @G9 (And.intro @GY (And.intro @nE (And.intro @oD (And.intro @FG (And.intro @FQ (And.intro @AH (And.intro @wU (And.intro @CQ (And.intro @v5 (And.intro @yX (And.intro @CC (And.intro @EX (And.intro @HE (And.intro @FD (And.intro @FP (And.intro @BN (And.intro @DF (And.intro @FL (And.intro @tA (And.intro @A2 (And.intro @D8 (And.intro @A8 (And.intro @AV (And.intro @C3 (And.intro @DU (And.intro @G4 (And.intro @GB (And.intro @GL (And.intro @G6 (And.intro @EM (And.intro @FV (And.intro @vT (And.intro @xA (And.intro @EE (And.intro @CA (And.intro @DK (And.intro @CV (And.intro @cO (And.intro @x4 (And.intro @wR (And.intro @BX (And.intro @D5 (And.intro @t5 (And.intro @uE (And.intro @E2 (And.intro @CD (And.intro @B7 (And.intro @FT (And.intro @FN (And.intro @EK (And.intro @AZ (And.intro @DX (And.intro @A4 (And.intro @IB (And.intro @HR (And.intro @IA (And.intro @HU (And.intro @HM (And.intro @HW (And.intro @H8 (And.intro @HY (And.intro @HK (And.intro @IC (And.intro @GW (And.intro @GS (And.intro @GC (And.intro @E4 (And.intro @yV (And.intro @DH (And.intro @GQ (And.intro @E3 (And.intro @HF (And.intro @C4 (And.intro @DM (@xQ)))))))))))))))))))))))))))))))))))))))))))))))))))))))))))))))))))))))))))))))))))))))))))))))
theorem zH {xs ys : List D} : aM xs ys = xs := rfl
def zY := And.intro zZ (And.intro @List.getElem?_cons_zero.{0} (And.intro @List.getElem?_cons_succ.{0} (And.intro @List.set_cons_zero.{0} (And.intro @List.set_cons_succ.{0} (And.intro @List.length_cons.{0} (And.intro @List.length_nil.{0} (And.intro @zH (And.intro @true_and (And.intro @and_true (And.intro @Bool.false_eq_true (And.intro @Bool.not_true (And.intro @Bool.not_false (And.intro @Bool.true_eq_false (And.intro @exists_eq_left'.{1} @aa.{0}))))))))))))))
def qQ : Nat → D → Bool
 | 0, _ => false
 | _ + 1, .non => true
 | _ + 1, .bl _ => true
 | _ + 1, .int i => decide (i ≤ 100000000000000000000000000000000000000000000000000)
 | _ + 1, .str x => PyData.strOk x
 | n + 1, .tup xs => xs.all (qQ n) && decide (xs.length ≤ 70000)
 | n + 1, .lst xs => xs.all (qQ n) && decide (xs.length ≤ 70000)
 | _ + 1, _ => false
section
variable {w : W} {P : D → W → Prop} {k : bB} {p h n : Nat} {m : Mo} {b : Int} {d : D}
theorem zO {xs : List D} (e : qQ (n + 1) (.tup xs) = true) : (∀ x ∈ xs, qQ n x = true) ∧ xs.length ≤ 70000 := by
 simp only [qQ, af, List.all_eq_true, ak] at e
 exact e
theorem yZ {xs : List D} (e : qQ (n + 1) (.lst xs) = true) : (∀ x ∈ xs, qQ n x = true) ∧ xs.length ≤ 70000 := by
 simp only [qQ, af, List.all_eq_true, ak] at e
 exact e
end
section
variable {w : W} {P : D → W → Prop} {k : bB} {p h n : Nat} {m : Mo} {b : Int} {d : D}
def j3 (ls : List D) : List D := (List.range ls.length).zipWith (fun i x => D.tup [.int (i : Nat), x]) ls
end
theorem kG {w : W} : ∀ {n : Nat} {xs : List D}, (∀ d, qQ n d = true → ∃ p, d.py w = some p ∧ p.canLay0 = true ∧ p.depth ≤ n) → (∀ x ∈ xs, qQ n x = true) → ∃ ps, D.pysR (pZ 8 w) xs = some ps ∧ ps.length = xs.length ∧ PyData.canLayAll0 ps = true ∧ PyData.depthAll ps ≤ n
 | n, [], h, hx => ⟨[], rfl, rfl, rfl, Nat.zero_le _⟩
 | n, x :: xs, h, hx => by
  obtain ⟨p, p1, p2, p3⟩ := h x (hx x (ao ..))
  obtain ⟨ps, q1, q0, q2, q3⟩ := kG h fun y hy => hx y (au _ hy)
  refine ⟨p :: ps, ?_, by simp [q0], ?_, ?_⟩
  ·unfold D.py at p1
   unfold D.pysR
   rw [p1, q1]
  ·simp [PyData.canLayAll0, p2, q2]
  ·rw [PyData.depthAll]; omega
theorem rR {w : W} : ∀ {n : Nat} {d : D}, qQ n d = true → ∃ p, d.py w = some p ∧ p.canLay0 = true ∧ p.depth ≤ n
 | 0, _, e => by simp [qQ] at e
 | n + 1, d, e => by
  cases d
  case tup xs =>
   obtain ⟨e1, _⟩ := zO e
   obtain ⟨ps, q1, _, q2, q3⟩ := kG (w := w) (fun d hd => rR hd) e1
   exact ⟨.tuple ps, by unfold D.py D.cW; rw [q1]; rfl, by rw [PyData.canLay0]; exact q2, by rw [PyData.depth]; omega⟩
  case lst xs =>
   obtain ⟨e1, _⟩ := yZ e
   obtain ⟨ps, q1, _, q2, q3⟩ := kG (w := w) (fun d hd => rR hd) e1
   exact ⟨.list ps, by unfold D.py D.cW; rw [q1]; rfl, by rw [PyData.canLay0]; exact q2, by rw [PyData.depth]; omega⟩
  case str x => exact ⟨.str x, rfl, by simpa [qQ, PyData.canLay0] using e, by simp [PyData.depth]⟩
  case int i => exact ⟨.int i, rfl, rfl, by simp [PyData.depth]⟩
  case bl b => exact ⟨.bool b, rfl, rfl, by simp [PyData.depth]⟩
  case non => exact ⟨.none, rfl, rfl, by simp [PyData.depth]⟩
  all_goals simp [qQ] at e
section
variable {w : W} {P : D → W → Prop} {k : bB} {p h n i : Nat} {m : Mo} {b : Int} {d : D}
theorem uC {ys : List D} (h : ∀ y ∈ ys, qQ n y = true) (hn : n ≤ 60) : mK (.lst ys) (.lst []) w = some ys.isEmpty := by
 obtain ⟨ps, q1, q0, q2, q3⟩ := kG (w := w) (fun d hd => rR hd) h
 have e1 : D.py w (.lst ys) = some (.list ps) := by unfold D.py D.cW; rw [q1]; rfl
 have e2 : D.py w (.lst []) = some (.list []) := rfl
 unfold mK
 rw [e1, e2]
 have s1 : SeqAt.shaped (.list ps) = true := by
  unfold SeqAt.shaped
  rw [af, ak, PyData.canLay0, PyData.depth]
  exact ⟨q2, by omega⟩
 have s2 : SeqAt.shaped (.list []) = true := by decide
 simp only [s1, s2, and_self, ah]
 cases ps with
 | nil => cases ys with
  | nil => rfl
  | cons y ys => simp at q0
 | cons a ps => cases ys with
  | nil => simp at q0
  | cons y ys => rfl
theorem ne_nil {ys : List D} (h : ∀ y ∈ ys, qQ n y = true) (hn : n ≤ 60) : T (f7 (.lst ys) (.lst []) w) P = P (.bl (!ys.isEmpty)) w := by
 rw [yG, uC h hn]
 simp
theorem eq_nil {ys : List D} (h : ∀ y ∈ ys, qQ n y = true) (hn : n ≤ 60) : T (cX (.lst ys) (.lst []) w) P = P (.bl ys.isEmpty) w := by
 rw [vF, uC h hn]
 simp
end
section
variable {w : W} {P : D → W → Prop} {k : bB} {p h n i : Nat} {m : Mo} {b : Int} {d : D}
theorem g6 : ∀ {l : List Int}, eO (l.map D.int) = some l
 | [] => rfl
 | a :: l => by simp [eO, g6 (l := l)]
end
def vE : List (Str × Option D) := [(("fall" : Str), some (.int 1)), (("stop" : Str), some (.int 1)), (("rise" : Str), some (.int 1)), (("down" : Str), some (.int 1)), (("up" : Str), some (.int 1)), (("rank" : Str), some (.int 3)), (("tear" : Str), some (.int 2)), (("heal" : Str), some (.int 0)), (("ask" : Str), some (.int 2))]
def l9 : List Str := [("plan" : Str), ("state" : Str), ("host" : Str), ("address" : Str), ("told" : Str)]
def l8 (k : bB) : MS :=
 (aG (aK (aC aL (aC aL (aC aL (aB 1) (eC (.int 7))) (aB 2)) (aB 3)) (aN 4))
 (aG (b6 (hO (aR (aC sL (aB 4) (eC (.int 0)))) (aR (aC f7 (aC aL (aC aL (aB 1) (eC (.int 1))) (aB 4)) (aC aL (aC aL (aB 1) (eC (.int 1))) (aC a8 (aO (q5 k.bM (cL k)) (aA (aB 0) aD)) (aB 2)))))) (aT (eC (.bl false))) aP)
 (aT (aC cX (aC aL (aC aL (aC aL (aC aL (aB 1) (eC (.int 4))) (aB 3)) (aB 4)) (eC (.int 0))) (eC (.str ("serves" : Str)))))))
def mD (k : bB) : MF := aZ (l8 k) l9
def EL : List Str := [("row" : Str), ("at" : Str), ("thing" : Str)]
def ET (k : bB) : MS :=
 (aT (aC a8 (aC a8 (kL j0 (aB 0) cU (cE (aB 1))) (a6 (aA (aB 2) aD))) (kL j0 (aB 0) (cE (aC a8 (aB 1) (eC (.int 1)))) cU)))
def eT (k : bB) : MF := aZ (ET k) EL
def sI : List Str := [("plan" : Str), ("state" : Str), ("host" : Str), ("address" : Str), ("many" : Str), ("dropped" : Str), ("told" : Str)]
def sG (k : bB) : MS :=
 (aG (aK (aC aL (aC aL (aB 1) (eC (.int 8))) (aB 2)) (a9 2 (aE (aN 4) (aE (aN 5) a5))))
 (aG (aK (a6 (aA (aC a8 (aB 4) (eC (.int 1))) (aA (aC a8 (aB 5) (aO uK (aA (m9 notM (aH (mD k) 4 aM (aA (aB 0) (aA (aB 1) (aA (aB 2) (aA (aB 3) aD)))))) aD))) aD))) (aN 6))
 (aT (aH (eT k) 3 aM (aA (aB 1) (aA (eC (.int 8)) (aA (aH (eT k) 3 aM (aA (aC aL (aB 1) (eC (.int 8))) (aA (aB 2) (aA (aB 6) aD)))) aD)))))))
def r6 (k : bB) : MF := aZ (sG k) sI
def jO : List Str := [("plan" : Str)]
def jP (k : bB) : MS :=
 (aT (aO cF (aA (bL k.bM ("ranks" : Str) (aB 0)) aD)))
def bN (k : bB) : MF := aZ (jP k) jO
def pJ : List Str := [("state" : Str), ("house" : Str), ("lives" : Str)]
def pC (k : bB) : MS :=
 (aT (aH (eT k) 3 aM (aA (aB 0) (aA (eC (.int 0)) (aA (aH (eT k) 3 aM (aA (aC aL (aB 0) (eC (.int 0))) (aA (aB 1) (aA (aB 2) aD)))) aD)))))
def jW (k : bB) : MF := aZ (pC k) pJ
def l6 : List Str := [("state" : Str), ("house" : Str), ("stands" : Str), ("rows" : Str), ("row" : Str), ("stand" : Str)]
def l5 (k : bB) : MS :=
 (aG (aK (aO cH (aA (bA (cD HS (aA (aC aL (aB 0) (eC (.int 4))) (aA (aB 2) aD))) [4, 5] (a9 2 (aE (aN 4) (aE (aN 5) a5))) bG (aH (eT k) 3 aM (aA (aB 4) (aA (aB 1) (aA (aB 5) aD))))) aD)) (aN 3))
 (aT (aH (eT k) 3 aM (aA (aB 0) (aA (eC (.int 4)) (aA (aB 3) aD))))))
def hQ (k : bB) : MF := aZ (l5 k) l6
def xS : List Str := [("plan" : Str), ("state" : Str), ("house" : Str)]
def yB (k : bB) : MS :=
 (aT (aH (hQ k) 3 aM (aA (aH (jW k) 3 aM (aA (aB 1) (aA (aB 2) (aA (eC (.int 0)) aD)))) (aA (aB 2) (aA (aC mulM (iF (aA (a6 (aA (eC (.str ("rests" : Str))) (aA (eC (.int 0)) aD))) aD)) (aH (bN k) 1 aM (aA (aB 0) aD))) aD)))))
def qE (k : bB) : MF := aZ (yB k) xS
def rG : List Str := [("plan" : Str), ("state" : Str), ("address" : Str), ("house" : Str), ("downs" : Str), ("ranks" : Str), ("taken" : Str), ("one" : Str), ("tie" : Str), ("less" : Str)]
def sA (k : bB) : MS :=
 (aG (aK (a6 (aA (aC aL (aB 1) (eC (.int 2))) (aA (aC aL (aB 1) (eC (.int 3))) aD))) (a9 2 (aE (aN 4) (aE (aN 5) a5))))
 (aG (aK (aO pB (aA (bA (bX (bL k.bM ("ties" : Str) (aB 0))) [7, 8, 9] (a9 3 (aE (aN 7) (aE (aN 8) (aE (aN 9) a5)))) (cZ (aR (aC cX (aB 7) (aB 3))) (aR (aC wM (aB 8) (aB 4)))) (aB 9)) aD)) (aN 6))
 (aT (aO max2 (aA (eC (.int 1)) (aA (aC eH (aC aL (aC aL (aB 5) (aB 2)) (aB 3)) (aB 6)) aD))))))
def eL (k : bB) : MF := aZ (sA k) rG
def mP : List Str := [("plan" : Str), ("state" : Str), ("address" : Str), ("house" : Str)]
def mH (k : bB) : MS :=
 (aT (aC a8 (aH (mX k) 2 aM (aA (aB 0) (aA (aH (eL k) 4 aM (aA (aB 0) (aA (aB 1) (aA (aB 2) (aA (aB 3) aD))))) aD))) (bL k.bM ("hold" : Str) (aB 0))))
def fE (k : bB) : MF := aZ (mH k) mP
def mG : List Str := [("plan" : Str), ("ahead" : Str), ("state" : Str), ("address" : Str), ("house" : Str), ("role" : Str), ("clock" : Str), ("row" : Str)]
def mE (k : bB) : MS :=
 (aG (cV (cD eV (aA (aH (bN k) 1 aM (aA (aB 0) aD)) aD)) (aN 3) (cV (cD eV (aA (aO (q5 k.bM (cL k)) (aA (aB 0) aD)) aD)) (aN 4) (aG (aK (aC aL (aC aL (aC aL (aB 2) (eC (.int 4))) (aB 3)) (aB 4)) (a9 2 (aE (aN 5) (aE (aN 6) a5))))
 (b6 (cZ (aR (aC cX (aB 5) (eC (.str ("waits" : Str))))) (aR (aC oX (aH (eL k) 4 aM (aA (aB 0) (aA (aB 2) (aA (aB 3) (aA (aB 4) aD))))) (aH (eL k) 4 aM (aA (aB 0) (aA (aB 1) (aA (aB 3) (aA (aB 4) aD)))))))) (aG (aK (aO max2 (aA (aB 6) (aA (aH (fE k) 4 aM (aA (aB 0) (aA (aB 2) (aA (aB 3) (aA (aB 4) aD))))) aD))) (aN 6))
 (aG (aK (aH (eT k) 3 aM (aA (aC aL (aC aL (aB 2) (eC (.int 4))) (aB 3)) (aA (aB 4) (aA (a6 (aA (aB 5) (aA (aB 6) aD))) aD)))) (aN 7))
 (aK (aH (eT k) 3 aM (aA (aB 2) (aA (eC (.int 4)) (aA (aH (eT k) 3 aM (aA (aC aL (aB 2) (eC (.int 4))) (aA (aB 3) (aA (aB 7) aD)))) aD)))) (aN 2)))) aP))))
 (aT (aB 2)))
def fF (k : bB) : MF := aZ (mE k) mG
def zI : List Str := [("plan" : Str), ("state" : Str), ("house" : Str), ("stands" : Str), ("address" : Str)]
def y7 (k : bB) : MS :=
 (aG (aK (bA (cD eV (aA (aH (bN k) 1 aM (aA (aB 0) aD)) aD)) [4] (aN 4) bG (a6 (aA (eC (.str ("waits" : Str))) (aA (aH (fE k) 4 aM (aA (aB 0) (aA (aB 1) (aA (aB 4) (aA (aB 2) aD))))) aD)))) (aN 3))
 (aT (aH (hQ k) 3 aM (aA (aH (jW k) 3 aM (aA (aB 1) (aA (aB 2) (aA (eC (.int 1)) aD)))) (aA (aB 2) (aA (aB 3) aD))))))
def zB (k : bB) : MF := aZ (y7 k) zI
def sQ : List Str := [("lacks" : Str), ("sent" : Str), ("fates" : Str), ("found" : Str), ("address" : Str), ("sender" : Str), ("receiver" : Str), ("rank" : Str), ("lost" : Str), ("rows" : Str), ("own" : Str), ("houses" : Str), ("row" : Str), ("many" : Str)]
def sS (k : bB) : MS :=
 (aG (aK nU (aN 3))
 (aG (cV (bX (aB 1)) (a9 4 (aE (aN 4) (aE (aN 5) (aE (aN 6) (aE (aN 7) a5))))) (aG (aK (aC cX (bF "dict" getM (aB 2) (aA (a6 (aA (aB 4) (aA (aB 5) (aA (aB 6) aD)))) (aA (eC (.int 1)) aD))) (eC (.int 0))) (aN 8))
 (aK (FX (dD (aB 8)) (aC a8 (aC aL (aC aL (aC aL (aB 0) (aB 4)) (aB 5)) (aB 6)) (eC (.int 1))) (eC (.int 0))) (bK (aB 3) (a6 (aA (aB 4) (aA (aB 5) (aA (aB 6) aD))))))))
 (aG (b6 (aR (aC HQ (aB 3) nU)) (aT (aB 0)) aP)
 (aG (aK (eNew aD) (aN 9))
 (aG (cV (cD k9 (aA (aB 0) aD)) (a9 2 (aE (aN 4) (aE (aN 10) a5))) (aG (aK (eNew aD) (aN 11))
 (aG (cV (cD k9 (aA (aB 10) aD)) (a9 2 (aE (aN 5) (aE (aN 12) a5))) (bH (bF "list" bD (aB 11) (aA (aO cH (aA (bA (cD k9 (aA (aB 12) aD)) [6, 13] (a9 2 (aE (aN 6) (aE (aN 13) a5))) bG (bF "dict" getM (aB 3) (aA (a6 (aA (aB 4) (aA (aB 5) (aA (aB 6) aD)))) (aA (aB 13) aD)))) aD)) aD))))
 (bH (bF "list" bD (aB 9) (aA (aO cH (aA (aB 11) aD)) aD))))))
 (aT (aO cH (aA (aB 9) aD))))))))
def k8 (k : bB) : MF := aZ (sS k) sQ
def nQ : List Str := [("sent" : Str), ("fates" : Str), ("found" : Str), ("address" : Str), ("sender" : Str), ("receiver" : Str), ("rank" : Str), ("fate" : Str)]
def oC (k : bB) : MS :=
 (aG (aK (eNew aD) (aN 2))
 (aG (cV (bX (aB 0)) (a9 4 (aE (aN 3) (aE (aN 4) (aE (aN 5) (aE (aN 6) a5))))) (aG (aK (bF "dict" getM (aB 1) (aA (a6 (aA (aB 3) (aA (aB 4) (aA (aB 5) aD)))) (aA (eC (.int 1)) aD))) (aN 7))
 (b6 (aR (aC oX (aB 7) (eC (.int 0)))) (bH (bF "list" bD (aB 2) (aA (a6 (aA (aB 7) (aA (aB 3) (aA (aB 4) (aA (aB 5) (aA (aB 6) aD)))))) aD))) aP)))
 (aT (aO cH (aA (aB 2) aD)))))
def i1 (k : bB) : MF := aZ (oC k) nQ
def lS : List Str := [("plan" : Str), ("state" : Str), ("house" : Str), ("living" : Str), ("parts" : Str), ("found" : Str), ("receiver" : Str), ("part" : Str)]
def lX (k : bB) : MS :=
 (aG (yI 3 4 (aA (aC aL (aB 1) (eC (.int 0))) (aA (aC aL (aB 1) (eC (.int 1))) aD)))
 (aG (aK (eNew aD) (aN 5))
 (aG (cV (cD k9 (aA (aB 4) aD)) (a9 2 (aE (aN 6) (aE (aN 7) a5))) (b6 (cZ (aR (aC f7 (aB 6) (aB 2))) (cZ (aR (aC cX (aB 7) (aC aL (aB 4) (aB 2)))) (hO (aR (aC yK (aB 6) (aO (q5 k.bM (cL k)) (aA (aB 0) aD)))) (aR (aC cX (aC aL (aB 3) (aB 6)) (eC (.int 1))))))) (bH (bF "list" bD (aB 5) (aA (aB 6) aD))) aP))
 (aT (aO cH (aA (aB 5) aD))))))
def gO (k : bB) : MF := aZ (lX k) lS
def kZ : List Str := [("plan" : Str), ("state" : Str), ("address" : Str), ("house" : Str), ("rank" : Str), ("fates" : Str), ("sent" : Str), ("letters" : Str), ("receiver" : Str)]
def lZ (k : bB) : MS :=
 (aG (aK (bA (bX (aH (gO k) 3 aM (aA (aB 0) (aA (aB 1) (aA (aB 3) aD))))) [8] (aN 8) bG (a6 (aA (aB 2) (aA (aB 3) (aA (aB 8) (aA (aB 4) aD)))))) (aN 6))
 (aG (aK (aC a8 (aC aL (aB 1) (eC (.int 5))) (aH (i1 k) 2 aM (aA (aB 6) (aA (aB 5) aD)))) (aN 7))
 (aT (aC a8 (aC a8 (kL j0 (aB 1) cU (cE (eC (.int 5)))) (a6 (aA (aB 7) (aA (aH (k8 k) 3 aM (aA (aC aL (aB 1) (eC (.int 6))) (aA (aB 6) (aA (aB 5) aD)))) aD)))) (kL j0 (aB 1) (cE (aC a8 (eC (.int 6)) (eC (.int 1)))) cU)))))
def kY (k : bB) : MF := aZ (lZ k) kZ
def uN : List Str := [("plan" : Str), ("state" : Str), ("house" : Str), ("fates" : Str), ("address" : Str), ("row" : Str)]
def uH (k : bB) : MS :=
 (aG (cV (cD k9 (aA (aC aL (aB 1) (eC (.int 4))) aD)) (a9 2 (aE (aN 4) (aE (aN 5) a5))) (b6 (aR (aC cX (aC aL (aC aL (aB 5) (aB 2)) (eC (.int 0))) (eC (.str ("serves" : Str))))) (aK (aH (kY k) 6 aM (aA (aB 0) (aA (aB 1) (aA (aB 4) (aA (aB 2) (aA (eC (.int 0)) (aA (aB 3) aD))))))) (aN 1)) aP))
 (aT (aH (qE k) 3 aM (aA (aB 0) (aA (aB 1) (aA (aB 2) aD))))))
def vG (k : bB) : MF := aZ (uH k) uN
def o6 : List Str := [("plan" : Str), ("state" : Str), ("houses" : Str), ("hosts" : Str), ("there" : Str), ("host" : Str), ("place" : Str)]
def oZ (k : bB) : MS :=
 (aG (aK (aC a8 (aB 2) (aO cH (aA (bA (bX (aB 3)) [5] (aN 5) bG (aC a8 (aO (q5 k.bM (cL k)) (aA (aB 0) aD)) (aB 5))) aD))) (aN 4))
 (aT (aH (eT k) 3 aM (aA (aB 1) (aA (eC (.int 1)) (aA (aO cH (aA (bA (cD eV (aA (aO cF (aA (aC aL (aB 1) (eC (.int 1))) aD)) aD)) [6] (aN 6) bG (aO uK (aA (aC wM (aB 6) (aB 4)) aD))) aD)) aD))))))
def jT (k : bB) : MF := aZ (oZ k) o6
def pK : List Str := [("plan" : Str), ("state" : Str), ("deed" : Str), ("fates" : Str), ("word" : Str), ("rest" : Str), ("downs" : Str), ("address" : Str), ("house" : Str), ("rank" : Str), ("ranks" : Str), ("tie" : Str)]
def o9 (k : bB) : MS :=
 (aG (aK (aB 2) (tP 1 (aE (aN 4) (aE (aN 5) a5))))
 (aG (b6 (aR (aC cX (aB 4) (eC (.str ("fall" : Str))))) (aT (aH (qE k) 3 aM (aA (aB 0) (aA (aB 1) (aA (aC aL (aB 5) (eC (.int 0))) aD))))) aP)
 (aG (b6 (aR (aC cX (aB 4) (eC (.str ("stop" : Str))))) (aT (aH (vG k) 4 aM (aA (aB 0) (aA (aB 1) (aA (aC aL (aB 5) (eC (.int 0))) (aA (aB 3) aD)))))) aP)
 (aG (b6 (aR (aC cX (aB 4) (eC (.str ("rise" : Str))))) (aT (aH (zB k) 3 aM (aA (aB 0) (aA (aB 1) (aA (aC aL (aB 5) (eC (.int 0))) aD))))) aP)
 (aG (b6 (aR (aC cX (aB 4) (eC (.str ("down" : Str))))) (aT (aH (fF k) 3 aM (aA (aB 0) (aA (aB 1) (aA (aH (eT k) 3 aM (aA (aB 1) (aA (eC (.int 2)) (aA (aO cH (aA (aO yR (aA (aC a8 (aC aL (aB 1) (eC (.int 2))) (a6 (aA (aC aL (aB 5) (eC (.int 0))) aD))) aD)) aD)) aD)))) aD))))) aP)
 (aG (b6 (aR (aC cX (aB 4) (eC (.str ("up" : Str))))) (aG (aK (aO cH (aA (bA (bX (aC aL (aB 1) (eC (.int 2)))) [11] (aN 11) (aR (aC f7 (aB 11) (aC aL (aB 5) (eC (.int 0))))) (aB 11)) aD)) (aN 6))
 (aT (aH (fF k) 3 aM (aA (aB 0) (aA (aB 1) (aA (aH (eT k) 3 aM (aA (aB 1) (aA (eC (.int 2)) (aA (aB 6) aD)))) aD)))))) aP)
 (aG (b6 (aR (aC cX (aB 4) (eC (.str ("rank" : Str))))) (aG (aK (aB 5) (AQ 3 (aE (aN 7) (aE (aN 8) (aE (aN 9) a5)))))
 (aG (aK (aH (eT k) 3 aM (aA (aC aL (aB 1) (eC (.int 3))) (aA (aB 7) (aA (aH (eT k) 3 aM (aA (aC aL (aC aL (aB 1) (eC (.int 3))) (aB 7)) (aA (aB 8) (aA (aB 9) aD)))) aD)))) (aN 10))
 (aT (aH (fF k) 3 aM (aA (aB 0) (aA (aB 1) (aA (aH (eT k) 3 aM (aA (aB 1) (aA (eC (.int 3)) (aA (aB 10) aD)))) aD))))))) aP)
 (aG (b6 (aR (aC cX (aB 4) (eC (.str ("tear" : Str))))) (aT (aH (jT k) 4 aM (aA (aB 0) (aA (aB 1) (aA (aC aL (aB 5) (eC (.int 0))) (aA (aC aL (aB 5) (eC (.int 1))) aD)))))) aP)
 (aG (b6 (aR (aC cX (aB 4) (eC (.str ("heal" : Str))))) (aT (aH (jT k) 4 aM (aA (aB 0) (aA (aB 1) (aA (a6 aD) (aA (a6 aD) aD)))))) aP)
 (aT (aH (r6 k) 4 aM (aA (aB 0) (aA (aB 1) (aA (aC aL (aB 5) (eC (.int 0))) (aA (aC aL (aB 5) (eC (.int 1))) aD)))))))))))))))
def qF (k : bB) : MF := aZ (o9 k) pK
def sP : List Str := [("thing" : Str), ("many" : Str), ("one" : Str), ("other" : Str)]
def sH (k : bB) : MS :=
 (aG (b6 (hO (c6 (dD (aO (vB uS) (aA (aB 0) (aA (eC (.ty "tuple")) aD))))) (c6 (dD (aO allM (aA (bA (bX (aB 0)) [2] (aN 2) bG (aH (b9 k) 3 aM (aA (aB 2) (aA (eC (.int 0)) (aA (aC eH (aB 1) (eC (.int 1))) aD))))) aD))))) (aT (eC (.bl false))) aP)
 (aT (aO allM (aA (bA (cD HZ (aA (kL j0 (aB 0) cU (cE (m9 oT (eC (.int 1))))) (aA (kL j0 (aB 0) (cE (eC (.int 1))) cU) aD))) [2, 3] (a9 2 (aE (aN 2) (aE (aN 3) a5))) bG (aC sL (aB 2) (aB 3))) aD))))
def kQ (k : bB) : MF := aZ (sH k) sP
def sD : List Str := [("plan" : Str), ("state" : Str), ("houses" : Str), ("hosts" : Str)]
def rS (k : bB) : MS :=
 (aG (b6 (hO (dD (aO anyM (aA (aC aL (aB 1) (eC (.int 1))) aD))) (hO (c6 (dD (aH (kQ k) 2 aM (aA (aB 2) (aA (aO (q5 k.bM (cL k)) (aA (aB 0) aD)) aD))))) (c6 (dD (aH (kQ k) 2 aM (aA (aB 3) (aA (bL k.bM ("hosts" : Str) (aB 0)) aD))))))) (aT (eC (.bl false))) aP)
 (aT (DW sL sL (eC (.int 0)) (aO cF (aA (aB 2) aD)) (aO (q5 k.bM (cL k)) (aA (aB 0) aD)))))
def r9 (k : bB) : MF := aZ (rS k) sD
def lN : List Str := [("plan" : Str), ("address" : Str), ("house" : Str), ("rank" : Str)]
def lR (k : bB) : MS :=
 (aG (b6 (hO (c6 (dD (aH (b9 k) 3 aM (aA (aB 1) (aA (eC (.int 0)) (aA (aC eH (aH (bN k) 1 aM (aA (aB 0) aD)) (eC (.int 1))) aD)))))) (c6 (dD (aH (b9 k) 3 aM (aA (aB 2) (aA (eC (.int 0)) (aA (aC eH (aO (q5 k.bM (cL k)) (aA (aB 0) aD)) (eC (.int 1))) aD))))))) (aT (eC (.bl false))) aP)
 (aT (aH (b9 k) 3 aM (aA (aB 3) (aA (eC (.int 1)) (aA (eC (.int 12)) aD))))))
def kW (k : bB) : MF := aZ (lR k) lN
def k6 : List Str := [("plan" : Str), ("thing" : Str), ("house" : Str), ("tie" : Str), ("less" : Str)]
def kX (k : bB) : MS :=
 (aT (gE (aH (b9 k) 3 aM (aA (aB 1) (aA (eC (.int 0)) (aA (eC (.int 9)) aD)))) (aC wM (aB 1) (bA (bX (bL k.bM ("ties" : Str) (aB 0))) [2, 3, 4] (a9 3 (aE (aN 2) (aE (aN 3) (aE (aN 4) a5)))) bG (aB 3)))))
def lD (k : bB) : MF := aZ (kX k) k6
def u9 : List Str := [("plan" : Str), ("state" : Str), ("thing" : Str), ("word" : Str), ("rest" : Str)]
def vC (k : bB) (tS : Addr) : MS :=
 (aG (b6 (hO (c6 (dD (aO (vB uS) (aA (aB 2) (aA (eC (.ty "tuple")) aD))))) (hO (aR (aC cX (aB 2) (a6 aD))) (c6 (dD (aO (vB uS) (aA (aC aL (aB 2) (eC (.int 0))) (aA (eC (.ty "str")) aD))))))) (aT (eC (.bl false))) aP)
 (aG (aK (aB 2) (tP 1 (aE (aN 3) (aE (aN 4) a5))))
 (aG (b6 (aR (aC f7 (aO cF (aA (aB 4) aD)) (EA tS vE (eC (.con tS)) (aA (aB 3) (aA (m9 oT (eC (.int 1))) aD))))) (aT (eC (.bl false))) aP)
 (aG (b6 (aR (aC wM (aB 3) (a6 (aA (eC (.str ("fall" : Str))) (aA (eC (.str ("stop" : Str))) (aA (eC (.str ("rise" : Str))) aD)))))) (aT (gE (aH (b9 k) 3 aM (aA (aC aL (aB 4) (eC (.int 0))) (aA (eC (.int 0)) (aA (aC eH (aO (q5 k.bM (cL k)) (aA (aB 0) aD)) (eC (.int 1))) aD)))) (aC cX (aC aL (aC aL (aB 1) (eC (.int 0))) (aC aL (aB 4) (eC (.int 0)))) (aO uK (aA (aC f7 (aB 3) (eC (.str ("rise" : Str)))) aD))))) aP)
 (aG (b6 (aR (aC wM (aB 3) (a6 (aA (eC (.str ("down" : Str))) (aA (eC (.str ("up" : Str))) aD))))) (aT (gE (aH (lD k) 2 aM (aA (aB 0) (aA (aC aL (aB 4) (eC (.int 0))) aD))) (aC cX (aC wM (aC aL (aB 4) (eC (.int 0))) (aC aL (aB 1) (eC (.int 2)))) (aC cX (aB 3) (eC (.str ("up" : Str))))))) aP)
 (aG (b6 (aR (aC cX (aB 3) (eC (.str ("rank" : Str))))) (aT (aH (kW k) 4 aM (aA (aB 0) (aA (aC aL (aB 4) (eC (.int 0))) (aA (aC aL (aB 4) (eC (.int 1))) (aA (aC aL (aB 4) (eC (.int 2))) aD)))))) aP)
 (aG (b6 (aR (aC cX (aB 3) (eC (.str ("tear" : Str))))) (aT (aH (r9 k) 4 aM (aA (aB 0) (aA (aB 1) (aA (aC aL (aB 4) (eC (.int 0))) (aA (aC aL (aB 4) (eC (.int 1))) aD)))))) aP)
 (aG (b6 (aR (aC cX (aB 3) (eC (.str ("heal" : Str))))) (aT (aO anyM (aA (aC aL (aB 1) (eC (.int 1))) aD))) aP)
 (aT (gE (aH (b9 k) 3 aM (aA (aC aL (aB 4) (eC (.int 0))) (aA (eC (.int 0)) (aA (aC eH (bL k.bM ("hosts" : Str) (aB 0)) (eC (.int 1))) aD)))) (aH (b9 k) 3 aM (aA (aC aL (aB 4) (eC (.int 1))) (aA (eC (.int 0)) (aA (aC eH (aH (bN k) 1 aM (aA (aB 0) aD)) (eC (.int 1))) aD))))))))))))))
def vJ (k : bB) (tS : Addr) : MF := aZ (vC k tS) u9
end Lb
namespace Lw
open PySem PySem.Spec PyProof.Rows L2 Pc Lb
def pA : List Str := [("_law_model_here" : Str), ("_law_world_here" : Str), ("_law_a" : Str), ("_law_h" : Str), ("_law_down" : Str), ("_law_house" : Str), ("_law_tie" : Str), ("_law_less" : Str)]
def pD (k : bB) : MS :=
 (aG (aK (aO pB (aA (bA (bX (aC aL (aB 0) (eC (.str ("ties" : Str))))) [5, 6, 7] (a9 3 (aE (aN 5) (aE (aN 6) (aE (aN 7) a5)))) (cZ (aR (aC cX (aB 5) (aB 3))) (aR (aC wM (aB 6) (aC aL (aB 1) (eC (.str ("downs" : Str))))))) (aB 7)) aD)) (aN 4))
 (aT (aO max2 (aA (eC (.int 1)) (aA (aC eH (aC aL (aC aL (aC aL (aB 1) (eC (.str ("ranks" : Str)))) (aB 2)) (aB 3)) (aB 4)) aD)))))
def dW (k : bB) : MF := aZ (pD k) pA
def qZ : List Str := [("_law_model_here" : Str), ("_law_rank_here" : Str), ("_law_whole" : Str)]
def pF (k : bB) : MS :=
 (aG (aK (aC a8 (aC mulM (aC a8 (aC aL (aB 0) (eC (.str ("bears" : Str)))) (eC (.int 1))) (aC aL (aB 0) (eC (.str ("every" : Str))))) (aC aL (aB 0) (eC (.str ("slow" : Str))))) (aN 2))
 (aT (aC a8 (aB 2) (aC mulM (aC aL (aB 0) (eC (.str ("gap" : Str)))) (aC eH (eC (.int 12)) (aB 1))))))
def j5 (k : bB) : MF := aZ (pF k) qZ
def oP : List Str := [("_law_model_here" : Str), ("_law_world_here" : Str), ("_law_a" : Str), ("_law_h" : Str)]
def nZ (k : bB) : MS :=
 (aT (eNew (aA (eC (.str ("waits" : Str))) (aA (aC a8 (aH (j5 k) 2 aM (aA (aB 0) (aA (aH (dW k) 4 aM (aA (aB 0) (aA (aB 1) (aA (aB 2) (aA (aB 3) aD))))) aD))) (aC aL (aB 0) (eC (.str ("hold" : Str))))) aD))))
def fZ (k : bB) : MF := aZ (nZ k) oP
def iV : List Str := [("_law_lots" : Str), ("_law_one" : Str)]
def jB (k : bB) : MS :=
 (aT (aO FA (aA (bA (bX (aB 0)) [1] (aN 1) bG (a6 (aA (kL j0 (aB 1) cU (cE (eC (.int 3)))) (aA (aC aL (aB 1) (eC (.int 3))) aD)))) aD)))
def iS (k : bB) : MF := aZ (jB k) iV
def nN : List Str := [("_law_world_here" : Str), ("_law_host" : Str), ("_law_a" : Str), ("_law_told" : Str), ("_law_many" : Str), ("_law_good" : Str)]
def oM (k : bB) : MS :=
 (aG (aK (aC aL (aC aL (aC aL (aB 0) (eC (.str ("tables" : Str)))) (aB 1)) (aB 2)) (aN 3))
 (aG (aK (aO cF (aA (aC aL (aB 0) (eC (.str ("living" : Str)))) aD)) (aN 4))
 (aG (aK (gE (aC yK (aB 3) (eC (.int 0))) (aC cX (aC aL (aC aL (aB 0) (eC (.str ("parts" : Str)))) (aB 3)) (aC aL (aC aL (aB 0) (eC (.str ("parts" : Str)))) (aC a8 (aB 4) (aB 1))))) (aN 5))
 (aG (aK (gE (aB 5) (aC cX (aC aL (aC aL (aC aL (aC aL (aB 0) (eC (.str ("stands" : Str)))) (aB 2)) (aB 3)) (eC (.int 0))) (eC (.str ("serves" : Str))))) (aN 5))
 (aK (eNew (aA (aC a8 (aC aL (aC aL (aC aL (aB 0) (eC (.str ("asks" : Str)))) (aB 1)) (eC (.int 0))) (eC (.int 1))) (aA (aC a8 (aC aL (aC aL (aC aL (aB 0) (eC (.str ("asks" : Str)))) (aB 1)) (eC (.int 1))) (aO uK (aA (m9 notM (aB 5)) aD))) aD))) (bK (aC aL (aB 0) (eC (.str ("asks" : Str)))) (aB 1)))))))
def n5 (k : bB) : MF := aZ (oM k) nN
def oR : List Str := [("_law_world_here" : Str), ("_law_h" : Str), ("_law_news" : Str), ("_law_a" : Str), ("_law_row" : Str)]
def oN (k : bB) : MS :=
 (aG (aK (eC (.int 0)) (bK (aC aL (aB 0) (eC (.str ("living" : Str)))) (aB 1)))
 (cV (cD j3 (aA (aC aL (aB 0) (eC (.str ("stands" : Str)))) aD)) (a9 2 (aE (aN 3) (aE (aN 4) a5))) (aG (aK (eNew (aA (eC (.str ("rests" : Str))) (aA (eC (.int 0)) aD))) (bK (aB 4) (aB 1)))
 (bH (bF "list" bD (aB 2) (aA (a6 (aA (aB 3) (aA (aB 1) (aA (eC (.str ("rests" : Str))) aD)))) aD))))))
def oQ (k : bB) : MF := aZ (oN k) oR
def pS : List Str := [("_law_world_here" : Str), ("_law_a" : Str), ("_law_s" : Str), ("_law_rank_here" : Str), ("_law_lots" : Str), ("_law_r" : Str), ("_law_fate" : Str)]
def qR (k : bB) : MS :=
 (cV (cD eV (aA (aO cF (aA (aC aL (aB 0) (eC (.str ("parts" : Str)))) aD)) aD)) (aN 5) (b6 (cZ (aR (aC f7 (aB 5) (aB 2))) (cZ (aR (aC cX (aC aL (aC aL (aB 0) (eC (.str ("parts" : Str)))) (aB 5)) (aC aL (aC aL (aB 0) (eC (.str ("parts" : Str)))) (aB 2)))) (aR (aC f7 (kL j0 (aC aL (aB 0) (eC (.str ("living" : Str)))) (cE (aB 5)) (cE (aC a8 (aB 5) (eC (.int 1))))) (iF (aA (eC (.int 0)) aD)))))) (aG (aK (bF "dict" getM (aB 4) (aA (a6 (aA (aB 1) (aA (aB 2) (aA (aB 5) aD)))) (aA (eC (.int 1)) aD))) (aN 6))
 (aG (aK (FX (aR (aC cX (aB 6) (eC (.int 0)))) (aC a8 (bF "dict" getM (aC aL (aB 0) (eC (.str ("lacks" : Str)))) (aA (a6 (aA (aB 1) (aA (aB 2) (aA (aB 5) aD)))) (aA (eC (.int 0)) aD))) (eC (.int 1))) (eC (.int 0))) (bK (aC aL (aB 0) (eC (.str ("lacks" : Str)))) (a6 (aA (aB 1) (aA (aB 2) (aA (aB 5) aD))))))
 (aG (bH (bF "list" bD (aC aL (aB 0) (eC (.str ("sent" : Str)))) (aA (a6 (aA (aB 1) (aA (aB 2) (aA (aB 5) aD)))) aD)))
 (b6 (aR (aC oX (aB 6) (eC (.int 0)))) (bH (bF "list" bD (aC aL (aB 0) (eC (.str ("under" : Str)))) (aA (a6 (aA (aB 6) (aA (aB 1) (aA (aB 2) (aA (aB 5) (aA (aB 3) aD)))))) aD))) aP)))) aP))
def jS (k : bB) : MF := aZ (qR k) pS
def mJ : List Str := [("_law_model_here" : Str), ("_law_world_here" : Str), ("_law_deed_here" : Str), ("_law_word" : Str), ("_law_rest" : Str), ("_law_many" : Str), ("_law_old" : Str), ("_law_a" : Str), ("_law_row" : Str), ("_law_h" : Str), ("_law_stand" : Str), ("_law_tie" : Str)]
def mC (k : bB) : MS :=
 (aG (aK (a6 (aA (aC aL (aB 2) (eC (.int 0))) (aA (kL j0 (aB 2) (cE (eC (.int 1))) cU) aD))) (a9 2 (aE (aN 3) (aE (aN 4) a5))))
 (aG (aK (aO cF (aA (aC aL (aB 1) (eC (.str ("living" : Str)))) aD)) (aN 5))
 (aG (aK (bA (cD eV (aA (aO cF (aA (aC aL (aB 0) (eC (.str ("ranks" : Str)))) aD)) aD)) [7] (aN 7) bG (bA (cD eV (aA (aB 5) aD)) [9] (aN 9) bG (aH (dW k) 4 aM (aA (aB 0) (aA (aB 1) (aA (aB 7) (aA (aB 9) aD))))))) (aN 6))
 (aG (b6 (aR (aC cX (aB 3) (eC (.str ("down" : Str))))) (bH (bF "list" bD (aC aL (aB 1) (eC (.str ("downs" : Str)))) (aA (aC aL (aB 4) (eC (.int 0))) aD))) aP)
 (aG (b6 (aR (aC cX (aB 3) (eC (.str ("up" : Str))))) (aK (sR (bX (aC aL (aB 1) (eC (.str ("downs" : Str))))) [11] (aN 11) (aR (aC f7 (aB 11) (aC aL (aB 4) (eC (.int 0))))) (aB 11)) (bK (aB 1) (eC (.str ("downs" : Str))))) aP)
 (aG (b6 (aR (aC cX (aB 3) (eC (.str ("rank" : Str))))) (aK (aC aL (aB 4) (eC (.int 2))) (bK (aC aL (aC aL (aB 1) (eC (.str ("ranks" : Str)))) (aC aL (aB 4) (eC (.int 0)))) (aC aL (aB 4) (eC (.int 1))))) aP)
 (cV (cD j3 (aA (aC aL (aB 1) (eC (.str ("stands" : Str)))) aD)) (a9 2 (aE (aN 7) (aE (aN 8) a5))) (cV (cD j3 (aA (aB 8) aD)) (a9 2 (aE (aN 9) (aE (aN 10) a5))) (b6 (cZ (aR (aC cX (aC aL (aB 10) (eC (.int 0))) (eC (.str ("waits" : Str))))) (aR (aC oX (aH (dW k) 4 aM (aA (aB 0) (aA (aB 1) (aA (aB 7) (aA (aB 9) aD))))) (aC aL (aC aL (aB 6) (aB 7)) (aB 9))))) (aK (aO max2 (aA (aC aL (aB 10) (eC (.int 1))) (aA (aC aL (aH (fZ k) 4 aM (aA (aB 0) (aA (aB 1) (aA (aB 7) (aA (aB 9) aD))))) (eC (.int 1))) aD))) (bK (aB 10) (eC (.int 1)))) aP)))))))))
def mI (k : bB) : MF := aZ (mC k) mJ
def pO : List Str := [("_law_model_here" : Str), ("_law_world_here" : Str), ("_law_deed_here" : Str), ("_law_lots" : Str), ("_law_news" : Str), ("_law_word" : Str), ("_law_rest" : Str), ("_law_a" : Str), ("_law_row" : Str), ("_law_many" : Str), ("_law_there" : Str), ("_law_host" : Str), ("_law_k" : Str)]
def qN (k : bB) : MS :=
 (aG (yI 5 6 (aA (aC aL (aB 2) (eC (.int 0))) (aA (kL j0 (aB 2) (cE (eC (.int 1))) cU) aD)))
 (aG (b6 (aR (aC cX (aB 5) (eC (.str ("stop" : Str))))) (cV (cD j3 (aA (aC aL (aB 1) (eC (.str ("stands" : Str)))) aD)) (a9 2 (aE (aN 7) (aE (aN 8) a5))) (b6 (aR (aC cX (aC aL (aC aL (aB 8) (aC aL (aB 6) (eC (.int 0)))) (eC (.int 0))) (eC (.str ("serves" : Str))))) (bH (aH (jS k) 5 aM (aA (aB 1) (aA (aB 7) (aA (aC aL (aB 6) (eC (.int 0))) (aA (eC (.int 0)) (aA (aB 3) aD))))))) aP)) aP)
 (aG (b6 (aR (aC wM (aB 5) (a6 (aA (eC (.str ("stop" : Str))) (aA (eC (.str ("fall" : Str))) aD))))) (bH (aH (oQ k) 3 aM (aA (aB 1) (aA (aC aL (aB 6) (eC (.int 0))) (aA (aB 4) aD))))) aP)
 (aG (b6 (aR (aC cX (aB 5) (eC (.str ("rise" : Str))))) (aG (aK (eC (.int 1)) (bK (aC aL (aB 1) (eC (.str ("living" : Str)))) (aC aL (aB 6) (eC (.int 0)))))
 (cV (cD j3 (aA (aC aL (aB 1) (eC (.str ("stands" : Str)))) aD)) (a9 2 (aE (aN 7) (aE (aN 8) a5))) (aK (aH (fZ k) 4 aM (aA (aB 0) (aA (aB 1) (aA (aB 7) (aA (aC aL (aB 6) (eC (.int 0))) aD))))) (bK (aB 8) (aC aL (aB 6) (eC (.int 0))))))) aP)
 (aG (b6 (aR (aC wM (aB 5) (a6 (aA (eC (.str ("down" : Str))) (aA (eC (.str ("up" : Str))) (aA (eC (.str ("rank" : Str))) aD)))))) (bH (aH (mI k) 3 aM (aA (aB 0) (aA (aB 1) (aA (aB 2) aD))))) aP)
 (aG (b6 (aR (aC wM (aB 5) (a6 (aA (eC (.str ("tear" : Str))) (aA (eC (.str ("heal" : Str))) aD))))) (aG (aK (aO cF (aA (aC aL (aB 1) (eC (.str ("living" : Str)))) aD)) (aN 9))
 (aG (aK (FX (aR (aC cX (aB 5) (eC (.str ("tear" : Str))))) (aC a8 (aO lB (aA (aC aL (aB 6) (eC (.int 0))) aD)) (bA (bX (aC aL (aB 6) (eC (.int 1)))) [11] (aN 11) bG (aC a8 (aB 9) (aB 11)))) (iF aD)) (aN 10))
 (aK (sR (cD eV (aA (aO cF (aA (aC aL (aB 1) (eC (.str ("parts" : Str)))) aD)) aD)) [12] (aN 12) bG (aO uK (aA (aC wM (aB 12) (aB 10)) aD))) (bK (aB 1) (eC (.str ("parts" : Str))))))) aP)
 (b6 (aR (aC cX (aB 5) (eC (.str ("ask" : Str))))) (bH (aH (n5 k) 3 aM (aA (aB 1) (aA (aC aL (aB 6) (eC (.int 0))) (aA (aC aL (aB 6) (eC (.int 1))) aD))))) aP)))))))
def q6 (k : bB) : MF := aZ (qN k) pO
def oG : List Str := [("_law_model_here" : Str), ("_law_world_here" : Str), ("_law_many" : Str), ("_law_receivers" : Str), ("_law_lacks" : Str), ("_law_a" : Str), ("_law_rows" : Str), ("_law_stands" : Str), ("_law_ranks" : Str), ("_law_tables" : Str), ("_law_asks" : Str), ("_law_parts" : Str), ("_law_downs" : Str), ("_law_s" : Str), ("_law_r" : Str), ("_law_row" : Str), ("_law_stand" : Str)]
def nO (k : bB) : MS :=
 (aG (aK (a6 (aA (aO cF (aA (aC aL (aB 1) (eC (.str ("living" : Str)))) aD)) (aA (aO cF (aA (aC aL (aB 1) (eC (.str ("parts" : Str)))) aD)) aD))) (a9 2 (aE (aN 2) (aE (aN 3) a5))))
 (aG (aK (eNew aD) (aN 4))
 (aG (cV (cD eV (aA (aO cF (aA (aC aL (aB 0) (eC (.str ("ranks" : Str)))) aD)) aD)) (aN 5) (aG (aK (bA (cD eV (aA (aB 2) aD)) [13] (aN 13) bG (aO cH (aA (bA (cD eV (aA (aB 3) aD)) [14] (aN 14) bG (bF "dict" getM (aC aL (aB 1) (eC (.str ("lacks" : Str)))) (aA (a6 (aA (aB 5) (aA (aB 13) (aA (aB 14) aD)))) (aA (eC (.int 0)) aD)))) aD))) (aN 6))
 (bH (bF "list" bD (aB 4) (aA (aO cH (aA (aB 6) aD)) aD)))))
 (aG (aK (aO cH (aA (bA (bX (aC aL (aB 1) (eC (.str ("stands" : Str))))) [15] (aN 15) bG (aO cH (aA (bA (bX (aB 15)) [16] (aN 16) bG (aO cH (aA (aB 16) aD))) aD))) aD)) (aN 7))
 (aG (aK (aO cH (aA (bA (bX (aC aL (aB 1) (eC (.str ("ranks" : Str))))) [15] (aN 15) bG (aO cH (aA (aB 15) aD))) aD)) (aN 8))
 (aG (yI 9 10 (aA (aO cH (aA (bA (bX (aC aL (aB 1) (eC (.str ("tables" : Str))))) [15] (aN 15) bG (aO cH (aA (aB 15) aD))) aD)) (aA (aO cH (aA (bA (bX (aC aL (aB 1) (eC (.str ("asks" : Str))))) [15] (aN 15) bG (aO cH (aA (aB 15) aD))) aD)) aD)))
 (aG (yI 11 12 (aA (aO cH (aA (aC aL (aB 1) (eC (.str ("parts" : Str)))) aD)) (aA (aO cH (aA (aO uF (aA (aC aL (aB 1) (eC (.str ("downs" : Str)))) aD)) aD)) aD)))
 (aT (a6 (aA (aO cH (aA (aC aL (aB 1) (eC (.str ("living" : Str)))) aD)) (aA (aB 11) (aA (aB 12) (aA (aB 8) (aA (aB 7) (aA (aO cH (aA (aC aL (aB 1) (eC (.str ("under" : Str)))) aD)) (aA (aO cH (aA (aB 4) aD)) (aA (aB 9) (aA (aB 10) aD))))))))))))))))))
def iU (k : bB) : MF := aZ (nO k) oG
end Lw
namespace Lb
open PySem PySem.Spec PyProof.Rows L2 Pc
def AB (s : t9) (a h : Nat) : Role × Int := ((s.bO[a]?).getD []).getD h (.rests, 0)
inductive vN where
 | uW | stop | rise | down | up | rank | sW | sZ | ask
deriving DecidableEq
def vN.s : vN → Str
 | .uW => "fall" | .stop => "stop" | .rise => "rise" | .down => "down" | .up => "up" | .rank => "rank" | .sW => "tear" | .sZ => "heal" | .ask => "ask"
inductive kA where
 | down (t : Int) | up (t : Int) | rank (a c : Nat) (r : Int) | sW (hs cs : List Int) | sZ | ask (c a : Nat)
 | uW (c : Nat) | stop (c : Nat) | rise (c : Nat)
def kA.word : kA → vN
 | .down _ => .down | .up _ => .up | .rank .. => .rank | .sW .. => .sW | .sZ => .sZ | .ask .. => .ask | .uW _ => .uW | .stop _ => .stop | .rise _ => .rise
def kA.args : kA → List D
 | .down t => [.int t] | .up t => [.int t] | .rank a c r => [.int (a : Nat), .int (c : Nat), .int r] | .sW hs cs => [jK hs, jK cs] | .sZ => [] | .ask c a => [.int (c : Nat), .int (a : Nat)]
 | .uW c => [.int (c : Nat)] | .stop c => [.int (c : Nat)] | .rise c => [.int (c : Nat)]
section
variable {w : W} {P : D → W → Prop} {PL : List (List Key × D) → W → Prop} {σ : Sg} {k : bB} {tS : Addr} {p h : Nat} {m : Mo} {b : Int} {s : t9}
def vN.size : vN → Int
 | .rank => 3
 | .sW => 2
 | .sZ => 0
 | .ask => 2
 | _ => 1
def w8 (n : Int) (xs : List Int) : Prop := (∀ x ∈ xs, 0 ≤ x ∧ x ≤ n - 1) ∧ xs.Pairwise (· < ·)
def Fits (m : Mo) (h : Nat) : kA → Prop
 | .down t => (0 ≤ t ∧ t ≤ 9) ∧ t ∈ m.xR.map fun t => t.2.1
 | .up t => (0 ≤ t ∧ t ≤ 9) ∧ t ∈ m.xR.map fun t => t.2.1
 | .rank a c r => a < m.bZ.length ∧ c < h ∧ 1 ≤ r ∧ r ≤ 12
 | .sW hs cs => (w8 h hs ∧ w8 m.gC cs) ∧ (hs.length ≤ 100 ∧ cs.length ≤ 100) ∧ 0 < hs.length ∧ hs.length < h
 | .sZ => True
 | .ask c a => (c : Int) < m.gC ∧ a < m.bZ.length
 | .uW c => c < h
 | .stop c => c < h
 | .rise c => c < h
end
end Lb
namespace Lw
open PySem PySem.Spec PyProof.Rows L2 Pc Lb
inductive gG where
 | dict | living | parts | downs | under | jY | bZ | bO | tables | asks | o5
 | wH (a : Nat) | sJ (a : Nat) | pP (a c : Nat) | v7 (c : Nat) | ask (c : Nat)
deriving DecidableEq
abbrev mR := gG → Nat
abbrev Con := gG → Option MO
def eR {α : Type} (f : gG → α) (l : gG) (x : α) : gG → α := fun q => if q = l then x else f q
theorem e7 {α : Type} {f : gG → α} {l : gG} {x : α} : eR f l x l = x := if_pos rfl
theorem bV {α : Type} {f : gG → α} {l q : gG} {x : α} (h : q ≠ l) : eR f l x q = f q := if_neg h
def z1 (S : gG → Bool) (C : Con) : Con := fun l => if S l then C l else none
def iG (n : Nat) (w : W) (A : mR) (C : Con) : Prop := ∀ l o, C l = some o → n ≤ A l ∧ w[A l]? = some o ∧ ∀ l' o', C l' = some o' → A l' = A l → l' = l
section
variable {n : Nat} {w w' : W} {A A' : mR} {C C' : Con} {l : gG} {o : MO}
theorem iG.get (h : iG n w A C) (e : C l = some o) : w[A l]? = some o := (h l o e).2.1
theorem iG.lt (h : iG n w A C) (e : C l = some o) : A l < w.length := (ae.mp (h.get e)).1
theorem iG.keep (h : iG n w A C) (hk : ∀ i, n ≤ i → i < w.length → w'[i]? = w[i]?) : iG n w' A C := fun l o e =>
 ⟨(h l o e).1, by rw [hk _ (h l o e).1 (h.lt e)]; exact h.get e, (h l o e).2.2⟩
theorem iG.set (h : iG n w A C) (e : C l = some o) (o1 : MO) : iG n (w.set (A l) o1) A (eR C l (some o1)) := fun q u eq => by
 have inj : ∀ l' o', eR C l (some o1) l' = some o' → ∃ o2, C l' = some o2 := fun l' o' e' => by
  by_cases c : l' = l
  ·subst c; exact ⟨o, e⟩
  ·rw [bV c] at e'; exact ⟨o', e'⟩
 obtain ⟨u2, e2⟩ := inj q u eq
 refine ⟨(h q u2 e2).1, ?_, fun l' o' e' ea => ?_⟩
 ·by_cases c : q = l
  ·subst c
   rw [e7] at eq
   cases eq
   rw [aw (h.lt e)]
  ·rw [bV c] at eq
   rw [aj (fun x => c ((h l o e).2.2 q u2 e2 x.symm))]
   exact h.get eq
 ·obtain ⟨o3, e3⟩ := inj l' o' e'
  exact (h q u2 e2).2.2 l' o3 e3 ea
theorem iG.new (h : iG n w A C) (hk : ∀ i, n ≤ i → i < w.length → w'[i]? = w[i]?) {r : Nat} (h1 : w.length ≤ r) (h0 : n ≤ w.length) (e : w'[r]? = some o) (l : gG) : iG n w' (eR A l r) (eR C l (some o)) := fun q u eq => by
 by_cases c : q = l
 ·subst c
  rw [e7] at eq ⊢
  cases eq
  refine ⟨Nat.le_trans h0 h1, e, fun l' o' e' ea => ?_⟩
  by_cases c' : l' = q
  ·exact c'
  ·rw [bV c'] at e' ea
   have := h.lt e'
   omega
 ·rw [bV c] at eq ⊢
  refine ⟨(h q u eq).1, by rw [hk _ (h q u eq).1 (h.lt eq)]; exact h.get eq, fun l' o' e' ea => ?_⟩
  by_cases c' : l' = l
  ·subst c'
   rw [e7] at ea
   have := h.lt eq
   omega
  ·rw [bV c'] at e' ea
   exact (h q u eq).2.2 l' o' e' ea
theorem iG.add (h : iG n w A C) (h0 : n ≤ w.length) (l : gG) (o : MO) : iG n (w ++ [o]) (eR A l w.length) (eR C l (some o)) :=
 h.new (fun i _ hl => aq hl) (az _) h0 (by rw [ay (az _)]; simp) l
theorem iG.sub (h : iG n w A C) (hs : ∀ l o, C' l = some o → C l = some o ∧ A' l = A l) : iG n w A' C' := fun l o e => by
 obtain ⟨e1, e2⟩ := hs l o e
 rw [e2]
 refine ⟨(h l o e1).1, h.get e1, fun l' o' e' ea => ?_⟩
 obtain ⟨e3, e4⟩ := hs l' o' e'
 rw [e4] at ea
 exact (h l o e1).2.2 l' o' e3 ea
theorem iG.nil : iG n w A fun _ => none := fun l o e => nomatch e
end
structure Wx where
 s : t9
 lk : List (List Key × D)
 o5 : List D
def qX (A : mR) : List (Key × D) := [(.inr "living", .ref (A .living)), (.inr "parts", .ref (A .parts)), (.inr "downs", .ref (A .downs)), (.inr "under", .ref (A .under)), (.inr "lacks", .ref (A .jY)),
 (.inr "ranks", .ref (A .bZ)), (.inr "stands", .ref (A .bO)), (.inr "tables", .ref (A .tables)), (.inr "asks", .ref (A .asks)), (.inr "sent", .ref (A .o5))]
def b8 (A : mR) (g : Nat → gG) (k : Nat) : List D := (List.range k).map fun i => .ref (A (g i))
def pV (xs : List Int) : MO := .lst (xs.map D.int)
def EY (q : Role × Int) : MO := .lst [.str q.1.s, .int q.2]
def G1 (q : Int × Int) : MO := .lst [.int q.1, .int q.2]
def cont (A : mR) (x : Wx) : Con
 | .dict => some (.dK (qX A))
 | .living => some (pV x.s.living)
 | .parts => some (pV x.s.parts)
 | .downs => some (pV x.s.downs)
 | .under => some (.lst (x.s.kI.map BF))
 | .jY => some (.dT x.lk)
 | .bZ => some (.lst (b8 A .wH x.s.bZ.length))
 | .bO => some (.lst (b8 A .sJ x.s.bO.length))
 | .tables => some (.lst (b8 A .v7 x.s.tables.length))
 | .asks => some (.lst (b8 A .ask x.s.asks.length))
 | .o5 => some (.lst x.o5)
 | .wH a => x.s.bZ[a]?.map pV
 | .sJ a => x.s.bO[a]?.map fun r => .lst (b8 A (.pP a) r.length)
 | .pP a c => (x.s.bO[a]?.bind (·[c]?)).map EY
 | .v7 c => x.s.tables[c]?.map pV
 | .ask c => x.s.asks[c]?.map G1
def World (n : Nat) (w : W) (A : mR) (x : Wx) : Prop := iG n w A (cont A x)
section
variable {n : Nat} {w w' : W} {A A' : mR} {x x' : Wx} {P : D → W → Prop} {PU : Unit → W → Prop} {l : gG} {o o1 : MO}
theorem World.set (h : World n w A x) (e : cont A x l = some o) (o1 : MO) (hc : ∀ q, cont A x' q = eR (cont A x) l (some o1) q) : World n (w.set (A l) o1) A x' := by
 unfold World
 rw [funext hc]
 exact iG.set h e o1
theorem u7 {g : Nat → gG} {k i v : Nat} (inj : ∀ i j, g i = g j → i = j) : (b8 A g k).set i (.ref v) = b8 (eR A (g i) v) g k := by
 refine List.ext_getElem? fun j => ?_
 rw [List.getElem?_set]
 unfold b8
 by_cases c : i = j
 ·subst c
  rw [if_pos rfl]
  by_cases h : i < k
  ·simp [h, e7]
  ·simp [h]
 ·rw [if_neg c]
  simp only [bb]
  cases e : (List.range k)[j]? with
  | none => rfl
  | some y =>
   have : y = j := by
    have := ae.mp e
    obtain ⟨_, h⟩ := this
    rw [List.getElem_range] at h
    exact h.symm
   subst this
   simp only [Option.map_some]
   rw [bV (fun z => c (inj _ _ z).symm)]
end
open PySem.W (dataLe)
section
variable {n : Nat} {w w' : W} {A A' : mR} {x x' : Wx} {P : D → W → Prop} {PU : Unit → W → Prop} {l : gG} {o o1 : MO} {k : bB} {i h : Nat} {m : Mo} {b : Int}
def uB (w : W) (i : Nat) (m : Mo) : Prop := w[i]? = some (.dK m.kvs)
end
def FE (lk : List (List Key × D)) : Prop := ∀ ks d, hY lk ks = some d → ∃ i, d = .int i
section
variable {n : Nat} {w w' : W} {A A' : mR} {C : Con} {x x' : Wx} {σ : Sg} {P : D → W → Prop} {PL : List D → W → Prop} {PF : Fl → W → Prop} {PU : Unit → W → Prop} {PI : gF → W → Prop} {l : gG} {o1 : MO} {k : bB} {i h : Nat} {m : Mo} {b : Int}
theorem iG.bind {S : gG → Bool} (h : iG n w A (z1 S (cont A x))) (hS : S .dict = true) (hn : n ≤ w.length) (hl : l ≠ .dict) (hc : cont (eR A l w.length) x' l = some o1)
  (hr : ∀ q, q ≠ .dict → q ≠ l → S q = true → cont (eR A l w.length) x' q = cont A x q) :
  iG n ((w ++ [o1]).set (A .dict) (.dK (qX (eR A l w.length)))) (eR A l w.length) (z1 (fun q => S q || q == l) (cont (eR A l w.length) x')) := by
 have h1 := h.add hn l o1
 have e : eR (z1 S (cont A x)) l (some o1) .dict = some (.dK (qX A)) := by
  rw [bV hl.symm, z1, hS]
  rfl
 have h3 := h1.set e (.dK (qX (eR A l w.length)))
 rw [bV hl.symm] at h3
 refine h3.sub fun q o e => ⟨?_, rfl⟩
 replace e : (if (S q || q == l) = true then cont (eR A l w.length) x' q else none) = some o := e
 by_cases c : q = .dict
 ·subst c
  rw [e7]
  rw [hS] at e
  exact e
 ·rw [bV c]
  by_cases c2 : q = l
  ·subst c2
   rw [e7]
   simp only [beq_self_eq_true, Bool.or_true, ah] at e
   rw [← hc]
   exact e
  ·rw [bV c2]
   unfold z1
   have c3 : (q == l) = false := by simpa using c2
   rw [c3, Bool.or_false] at e
   cases s : S q with
   | false => rw [s] at e; exact nomatch e
   | true =>
    rw [s] at e
    simp only [ah] at e ⊢
    rw [← hr q c c2 s]
    exact e
end
def gG.top : gG → Bool
 | .living => true | .parts => true | .downs => true | .under => true | .jY => true | .bZ => true | .bO => true | .tables => true | .asks => true | .o5 => true
 | _ => false
def dep : gG → gG → Prop
 | .dict, q => q.top = true
 | .bZ, q => ∃ a, q = .wH a
 | .bO, q => ∃ a, q = .sJ a
 | .tables, q => ∃ a, q = .v7 a
 | .asks, q => ∃ a, q = .ask a
 | .sJ a, q => ∃ c, q = .pP a c
 | _, _ => False
theorem d9 {A A' : mR} {g : Nat → gG} {k : Nat} (h : ∀ i, A (g i) = A' (g i)) : b8 A g k = b8 A' g k := by
 unfold b8
 exact List.map_congr_left fun i _ => by rw [h i]
theorem rW {A A' : mR} {x : Wx} {l : gG} (h : ∀ q, dep l q → A q = A' q) : cont A x l = cont A' x l := by
 cases l with
 | dict =>
  show some (MO.dK (qX A)) = some (MO.dK (qX A'))
  unfold qX
  rw [h .living rfl, h .parts rfl, h .downs rfl, h .under rfl, h .jY rfl, h .bZ rfl, h .bO rfl, h .tables rfl, h .asks rfl, h .o5 rfl]
 | bZ =>
  show some (MO.lst (b8 A .wH x.s.bZ.length)) = some (MO.lst (b8 A' .wH x.s.bZ.length))
  rw [d9 fun i => h _ ⟨i, rfl⟩]
 | bO =>
  show some (MO.lst (b8 A .sJ x.s.bO.length)) = some (MO.lst (b8 A' .sJ x.s.bO.length))
  rw [d9 fun i => h _ ⟨i, rfl⟩]
 | tables =>
  show some (MO.lst (b8 A .v7 x.s.tables.length)) = some (MO.lst (b8 A' .v7 x.s.tables.length))
  rw [d9 fun i => h _ ⟨i, rfl⟩]
 | asks =>
  show some (MO.lst (b8 A .ask x.s.asks.length)) = some (MO.lst (b8 A' .ask x.s.asks.length))
  rw [d9 fun i => h _ ⟨i, rfl⟩]
 | sJ a =>
  show x.s.bO[a]?.map (fun r => MO.lst (b8 A (.pP a) r.length)) = x.s.bO[a]?.map (fun r => MO.lst (b8 A' (.pP a) r.length))
  congr 1
  funext r
  rw [d9 fun i => h _ ⟨i, rfl⟩]
 | _ => rfl
section
variable {n : Nat} {w w' w0 : W} {A A' A1 : mR} {C : Con} {x x' : Wx} {σ : Sg} {P : D → W → Prop} {PL : List D → W → Prop} {PF : Fl → W → Prop} {PU : Unit → W → Prop} {PI : gF → W → Prop} {l : gG} {o1 : MO} {k : bB} {i h : Nat} {m : Mo} {b : Int}
theorem xK {v : Nat} {q : gG} (ht : l.top = true) (hq : q ≠ .dict) : cont (eR A l v) x q = cont A x q := rW fun r d => bV fun e => by
 subst e
 cases q <;> simp only [dep] at d
 case dict => exact hq rfl
 all_goals
  obtain ⟨a, rfl⟩ := d
  exact nomatch ht
end
section
variable {n : Nat} {w w' w0 : W} {A A' A1 : mR} {C : Con} {x x' : Wx} {σ : Sg} {P : D → W → Prop} {PL : List D → W → Prop} {PF : Fl → W → Prop} {PU : Unit → W → Prop} {PI : gF → W → Prop} {l : gG} {o1 : MO} {k : bB} {i h : Nat} {m : Mo} {b : Int}
theorem World.z1 (hW : World n w A x) : iG n w A (Lw.z1 (fun _ => true) (cont A x)) := hW
theorem World.le (hW : World n w A x) : n ≤ A .dict := (hW .dict _ rfl).1
theorem World.lt (hW : World n w A x) (l : gG) {o : MO} (e : cont A x l = some o) : A l < w.length := iG.lt hW e
theorem World.DS (hW : World n w A x) : n ≤ w.length := by
 have h1 := hW.le
 have h2 := hW.lt .dict rfl
 omega
theorem World.bind (hW : World n w A x) (l : gG) (ht : l.top = true) (hc : ∀ A, cont A x' l = some o1) (hr : ∀ A q, q ≠ .dict → q ≠ l → cont A x' q = cont A x q) :
  World n ((w ++ [o1]).set (A .dict) (.dK (qX (eR A l w.length)))) (eR A l w.length) x' := by
 have hl : l ≠ .dict := fun e => by subst e; exact nomatch ht
 have := iG.bind (x' := x') (l := l) (o1 := o1) hW.z1 rfl hW.DS hl (hc _) fun q q1 q2 _ => by rw [hr _ q q1 q2, xK ht q1]
 exact this.sub fun q o e => ⟨by unfold Lw.z1; exact e, rfl⟩
def Apart (A : mR) (x : Wx) (r : Nat) : Prop := ∀ l o, cont A x l = some o → A l ≠ r
theorem World.other (hW : World n w A x) {r : Nat} (ap : Apart A x r) (o : MO) : World n (w.set r o) A x := fun l u e => by
 obtain ⟨h1, h2, h3⟩ := hW l u e
 exact ⟨h1, by rw [aj (Ne.symm (ap l u e))]; exact h2, h3⟩
end
section
variable {n d0 : Nat} {w w' w0 : W} {A A' A1 : mR} {C : Con} {x x' : Wx} {σ : Sg} {P : D → W → Prop} {PL : List D → W → Prop} {PF : Fl → W → Prop} {PU : Unit → W → Prop} {PI : gF → W → Prop} {l : gG} {o o1 u : MO} {k : bB} {tS : Addr} {i h p : Nat} {m : Mo} {b : Int}
theorem Kept.wJ (kk : Pc.Kept w w' 1 0) (h2 : 2 ≤ n) (hW : World n w A x) : World n w' A x := iG.keep hW fun i h1 _ => kk.2 i (by omega) (by omega)
theorem Kept.mod (kk : Pc.Kept w w' 1 0) (i2 : 2 ≤ i) (hM : uB w i m) : uB w' i m := kk.obj hM (by omega) (by omega)
theorem World.row {par : gG} {gl : Nat → gG} {kk c r : Nat} (hW : World n w A x) (hk : ∀ i, n ≤ i → i < w.length → w'[i]? = w[i]?) (hr : w.length ≤ r) (er : w'[r]? = some o) (inj : ∀ i j, gl i = gl j → i = j) (hne : par ≠ gl c)
  (hpar : cont A x par = some (.lst (b8 A gl kk))) (hpar' : ∀ A', cont A' x' par = some (.lst (b8 A' gl kk))) (hrow : ∀ A', cont A' x' (gl c) = some o) (hoth : ∀ A' q, q ≠ par → q ≠ gl c → (∀ l, l ≠ gl c → A' l = A l) → cont A' x' q = cont A x q) :
  World n (w'.set (A par) (.lst ((b8 A gl kk).set c (.ref r)))) (eR A (gl c) r) x' := by
 have h1 := iG.new hW hk hr hW.DS er (gl c)
 have ee : eR (cont A x) (gl c) (some o) par = some (.lst (b8 A gl kk)) := by rw [bV hne]; exact hpar
 have h3 := h1.set ee (.lst ((b8 A gl kk).set c (.ref r)))
 rw [bV hne] at h3
 refine h3.sub fun q u e => ⟨?_, rfl⟩
 by_cases c1 : q = par
 ·subst c1
  rw [e7, u7 inj]
  rw [hpar'] at e
  exact e
 rw [bV c1]
 by_cases c2 : q = gl c
 ·subst c2
  rw [e7]
  rw [hrow] at e
  exact e
 rw [bV c2, ← e]
 exact (hoth _ q c1 c2 fun l hl => bV hl).symm
end
structure St (n i : Nat) (m : Mo) (w0 w : W) (A : mR) (x : Wx) : Prop where
 GI : fL w 1 0
 mod : uB w i m
 wJ : World n w A x
 n2 : 2 ≤ n
 i2 : 2 ≤ i
 hi : i < n
 le : w0.length ≤ w.length
 fd : ∀ j, j < n → j ≠ 1 → j ≠ 0 → w[j]? = w0[j]?
section
variable {n d0 : Nat} {w w' w0 : W} {A A' A1 : mR} {C : Con} {x x' : Wx} {σ : Sg} {P : D → W → Prop} {PL : List D → W → Prop} {PF : Fl → W → Prop} {PU : Unit → W → Prop} {PI : gF → W → Prop} {l : gG} {o o1 u : MO} {k : bB} {tS : Addr} {i h p : Nat} {m : Mo} {b : Int}
theorem St.kept (s : St n i m w0 w A x) (d : fL w' 1 0) (kk : Pc.Kept w w' 1 0) : St n i m w0 w' A x :=
 ⟨d, Kept.mod kk s.i2 s.mod, Kept.wJ kk s.n2 s.wJ, s.n2, s.i2, s.hi, by rw [kk.1]; exact s.le, fun j h1 h2 h3 => by rw [kk.2 j h2 h3]; exact s.fd j h1 h2 h3⟩
theorem St.set {j : Nat} (s : St n i m w0 w A x) (hj : n ≤ j) (hw : World n (w.set j o) A' x') : St n i m w0 (w.set j o) A' x' :=
 ⟨s.GI.set (by have := s.n2; omega) (by have := s.n2; omega), by unfold uB; rw [aj (by have := s.hi; omega)]; exact s.mod, hw, s.n2, s.i2, s.hi, by rw [List.length_set]; exact s.le, fun j' h1 h2 h3 => by rw [aj (by omega)]; exact s.fd j' h1 h2 h3⟩
end
abbrev yN := Nat → Nat → Nat → Int
structure yM where
 a : Nat
 s : Nat
 r : Nat
 rank : Int
section
variable {n B : Nat} {w w' : W} {x : Wx} {σ : Sg} {P : D → W → Prop} {PF : Fl → W → Prop} {PU : Unit → W → Prop} {PI : gF → W → Prop} {k : bB} {i h p f : Nat} {m : Mo} {b : Int} {s : t9} {ts : List yM} {kv : List (List Key × D)}
theorem m6 {xs : List D} : T (iterM (.lst xs) w) PI = PI ⟨xs, always⟩ w := by unfold T; rfl
end
def keyD (a c r : Nat) : D := .tup [.int (a : Nat), .int (c : Nat), .int (r : Nat)]
structure hH (m : Mo) (h B : Nat) (x : Wx) : Prop where
 living : x.s.living.length = h ∧ ∀ v ∈ x.s.living, 0 ≤ v ∧ v ≤ 1
 parts : (x.s.parts.length : Int) = h + m.gC
 bO : x.s.bO.length = m.bZ.length ∧ ∀ r ∈ x.s.bO, r.length = h
 lk : FE x.lk
 b1 : x.lk.length ≤ B
 b2 : x.o5.length ≤ B
 b3 : x.s.kI.length ≤ B
section
variable {n d0 B : Nat} {w w' w0 : W} {A A' A1 : mR} {C : Con} {x x' : Wx} {σ : Sg} {P : D → W → Prop} {PL : List D → W → Prop} {PF : Fl → W → Prop} {PU : Unit → W → Prop} {PI : gF → W → Prop} {l : gG} {o o1 u : MO} {k : bB} {i h p f : Nat} {m : Mo} {b : Int} {kv : List (List Key × D)} {fa : yN}
theorem hH.le (o : H6 m h) (ok : hH m h B x) : x.s.parts.length ≤ 10 := by
 have h6 := o.bZ.h6
 have ho := o.gC
 have := ok.parts
 omega
theorem hH.mono {B' : Nat} (ok : hH m h B x) (hB : B ≤ B') : hH m h B' x := ⟨ok.living, ok.parts, ok.bO, ok.lk, Nat.le_trans ok.b1 hB, Nat.le_trans ok.b2 hB, Nat.le_trans ok.b3 hB⟩
end
structure Bd where
 k : bB
 B : Addr
 S : Addr
def pT : List Str := [("self" : Str), ("address" : Str), ("house" : Str), ("role" : Str), ("rank" : Str), ("receiver" : Str)]
def pE (k : Bd) : MS :=
 (aG (b6 (aR (aC cX (aB 3) (eC (.str ("waits" : Str))))) (bH (bF "list" bD (bL k.B ("news_told" : Str) (aB 0)) (aA (a6 (aA (aB 1) (aA (aB 2) (aA (eC (.str ("serves" : Str))) aD)))) aD))) aP)
 (aG (aK (a6 (aA (eC (.str ("serves" : Str))) (aA (bL k.k.bM ("every" : Str) (bL k.B ("plan_here" : Str) (aB 0))) aD))) (bK (aC aL (bL k.B ("stands_now" : Str) (aB 0)) (aB 1)) (aB 2)))
 (aG (aK (aH (eL k.k) 4 aM (aA (bL k.B ("plan_here" : Str) (aB 0)) (aA (bL k.B ("state_here" : Str) (aB 0)) (aA (aB 1) (aA (aB 2) aD))))) (aN 4))
 (cV (bX (aH (gO k.k) 3 aM (aA (bL k.B ("plan_here" : Str) (aB 0)) (aA (bL k.B ("state_here" : Str) (aB 0)) (aA (aB 2) aD))))) (aN 5) (bH (bF "list" bD (bL k.B ("letters_sent" : Str) (aB 0)) (aA (a6 (aA (aB 1) (aA (aB 2) (aA (aB 5) (aA (aB 4) aD))))) aD)))))))
def qO (k : Bd) : MF := aZ (pE k) pT
def jA : List Str := [("self" : Str), ("address" : Str), ("row" : Str), ("house" : Str), ("role" : Str), ("clock" : Str)]
def i5 (k : Bd) : MS :=
 (cV (cD j3 (aA (bL k.B ("stands_now" : Str) (aB 0)) aD)) (a9 2 (aE (aN 1) (aE (aN 2) a5))) (cV (cD j3 (aA (aO lB (aA (aB 2) aD)) aD)) (a9 2 (aE (aN 3) (aE (a9 2 (aE (aN 4) (aE (aN 5) a5))) a5))) (b6 (cZ (aR (aC f7 (aB 4) (eC (.str ("rests" : Str))))) (aR (aC oX (aB 5) (eC (.int 1))))) (aK (a6 (aA (aB 4) (aA (aC eH (aB 5) (eC (.int 1))) aD))) (bK (aB 2) (aB 3))) (b6 (aR (aC f7 (aB 4) (eC (.str ("rests" : Str))))) (bH (jG k.B ("send" : Str) (qO k) 4 aM (aB 0) (aA (aB 1) (aA (aB 3) (aA (aB 4) aD))))) aP))))
def iP (k : Bd) : MF := aZ (i5 k) jA
def dJ : List Str := [("one" : Str), ("other" : Str), ("rank" : Str), ("number" : Str), ("other_rank" : Str), ("other_number" : Str)]
def eN (k : Bd) : MS :=
 (aG (aK (aB 0) (a9 2 (aE (aN 2) (aE (aN 3) a5))))
 (aG (aK (aB 1) (a9 2 (aE (aN 4) (aE (aN 5) a5))))
 (aT (AM (aC oX (aB 2) (aB 4)) (gE (aC cX (aB 2) (aB 4)) (aC sL (aB 3) (aB 5)))))))
def bE (k : Bd) : MF := aZ (eN k) dJ
def qI : List Str := [("self" : Str), ("address" : Str), ("sender" : Str), ("house" : Str), ("rank" : Str), ("role" : Str), ("clock" : Str), ("own" : Str), ("is_sender_ahead" : Str)]
def rD (k : Bd) : MS :=
 (aG (aK (aC aL (aC aL (bL k.B ("stands_now" : Str) (aB 0)) (aB 1)) (aB 3)) (a9 2 (aE (aN 5) (aE (aN 6) a5))))
 (aG (aK (aH (eL k.k) 4 aM (aA (bL k.B ("plan_here" : Str) (aB 0)) (aA (bL k.B ("state_here" : Str) (aB 0)) (aA (aB 1) (aA (aB 3) aD))))) (aN 7))
 (aG (aK (aH (bE k) 2 aM (aA (a6 (aA (aB 4) (aA (aB 2) aD))) (aA (a6 (aA (aB 7) (aA (aB 3) aD))) aD))) (aN 8))
 (b6 (aR (aC cX (aB 5) (eC (.str ("serves" : Str))))) (b6 (cZ (aR (aC oX (aB 4) (eC (.int 0)))) (dD (aB 8))) (aG (aK (a6 (aA (eC (.str ("waits" : Str))) (aA (aH (fE k.k) 4 aM (aA (bL k.B ("plan_here" : Str) (aB 0)) (aA (bL k.B ("state_here" : Str) (aB 0)) (aA (aB 1) (aA (aB 3) aD))))) aD))) (bK (aC aL (bL k.B ("stands_now" : Str) (aB 0)) (aB 1)) (aB 3)))
 (bH (bF "list" bD (bL k.B ("news_told" : Str) (aB 0)) (aA (a6 (aA (aB 1) (aA (aB 3) (aA (eC (.str ("yields" : Str))) aD)))) aD)))) aP) (b6 (aR (aC cX (aB 4) (eC (.int 0)))) (aK (a6 (aA (aB 5) (aA (aO min2 (aA (aB 6) (aA (aH (vI k.k) 2 aM (aA (bL k.B ("plan_here" : Str) (aB 0)) (aA (aB 7) aD))) aD))) aD))) (bK (aC aL (bL k.B ("stands_now" : Str) (aB 0)) (aB 1)) (aB 3))) (b6 (hO (dD (aB 8)) (c6 (dD (bL k.k.bM ("takes" : Str) (bL k.B ("plan_here" : Str) (aB 0)))))) (aK (a6 (aA (aB 5) (aA (aO max2 (aA (aB 6) (aA (aH (mX k.k) 2 aM (aA (bL k.B ("plan_here" : Str) (aB 0)) (aA (aB 7) aD))) aD))) aD))) (bK (aC aL (bL k.B ("stands_now" : Str) (aB 0)) (aB 1)) (aB 3))) aP))))))
def qL (k : Bd) : MF := aZ (rD k) qI
def l3 : List Str := [("self" : Str), ("address" : Str), ("sender" : Str), ("receiver" : Str), ("rank" : Str), ("living" : Str), ("parts" : Str), ("others" : Str)]
def mN (k : Bd) : MS :=
 (aG (aK (bL k.B ("state_here" : Str) (aB 0)) (tP 2 (aE (aN 5) (aE (aN 6) (aE (aN 7) a5)))))
 (aG (b6 (aR (aC f7 (aC aL (aB 6) (aB 2)) (aC aL (aB 6) (aB 3)))) (aT (eC .non)) aP)
 (b6 (aR (aC yK (aB 3) (aO cF (aA (aB 5) aD)))) (b6 (aR (aC oX (aB 4) (eC (.int 0)))) (aK (aB 2) (bK (aC aL (bL k.B ("tables_now" : Str) (aB 0)) (aC eH (aB 3) (aO cF (aA (aB 5) aD)))) (aB 1))) aP) (b6 (aR (aC cX (aC aL (aB 5) (aB 3)) (eC (.int 1)))) (bH (jG k.B ("hear" : Str) (qL k) 5 aM (aB 0) (aA (aB 1) (aA (aB 2) (aA (aB 3) (aA (aB 4) aD)))))) aP))))
def l4 (k : Bd) : MF := aZ (mN k) l3
def lW : List Str := [("self" : Str), ("letter" : Str), ("left" : Str), ("rest" : Str)]
def lJ (k : Bd) : MS :=
 (aG (aK (aB 1) (tP 1 (aE (aN 2) (aE (aN 3) a5))))
 (b6 (aR (aC oX (aB 2) (eC (.int 1)))) (bH (bF "list" bD (bL k.B ("still_under_way" : Str) (aB 0)) (aA (aC a8 (a6 (aA (aC eH (aB 2) (eC (.int 1))) aD)) (aO cH (aA (aB 3) aD))) aD))) (bH (jG k.B ("arrive" : Str) (l4 k) 5 aM (aB 0) (aA (aC aL (aB 3) (eC (.int 0))) (aA (aC aL (aB 3) (eC (.int 1))) (aA (aC aL (aB 3) (eC (.int 2))) (aA (aC aL (aB 3) (eC (.int 3))) aD))))))))
def kP (k : Bd) : MF := aZ (lJ k) lW
def pG : List Str := [("self" : Str), ("plan" : Str), ("state" : Str), ("many_old" : Str), ("living" : Str), ("parts" : Str), ("downs" : Str), ("ranks" : Str), ("stands" : Str), ("letters" : Str), ("lacks" : Str), ("tables" : Str), ("asks" : Str), ("letter" : Str), ("row" : Str)]
def pQ (k : Bd) : MS :=
 (aG (aK (aB 2) (a9 9 (aE (aN 4) (aE (aN 5) (aE (aN 6) (aE (aN 7) (aE (aN 8) (aE (aN 9) (aE (aN 10) (aE (aN 11) (aE (aN 12) a5)))))))))))
 (aG (i8 k.B ("plan_here" : Str) (aB 0) (aB 1))
 (aG (i8 k.B ("state_here" : Str) (aB 0) (aB 2))
 (aG (i8 k.B ("stands_now" : Str) (aB 0) (bA (bX (aB 8)) [14] (aN 14) bG (aO AO (aA (aB 14) aD))))
 (aG (i8 k.B ("tables_now" : Str) (aB 0) (bA (bX (aB 11)) [14] (aN 14) bG (aO AO (aA (aB 14) aD))))
 (aG (i8 k.B ("still_under_way" : Str) (aB 0) (eNew aD))
 (aG (i8 k.B ("letters_sent" : Str) (aB 0) (sR (bX (kL j0 (aB 9) (cE (aB 3)) cU)) [13] (aN 13) bG (kL j0 (aB 13) (cE (eC (.int 1))) cU)))
 (aG (i8 k.B ("news_told" : Str) (aB 0) (eNew aD))
 (aG (cV (bX (kL j0 (aB 9) cU (cE (aB 3)))) (aN 13) (bH (jG k.B ("move_on" : Str) (kP k) 2 aM (aB 0) (aA (aB 13) aD))))
 (bH (jG k.B ("end_clocks" : Str) (iP k) 1 aM (aB 0) aD)))))))))))
def qM (k : Bd) : MF := aZ (pQ k) pG
def kE : List Str := [("self" : Str), ("lacks" : Str), ("fates" : Str), ("living" : Str), ("parts" : Str), ("downs" : Str), ("ranks" : Str), ("stands" : Str), ("letters" : Str), ("others" : Str), ("tables" : Str), ("asks" : Str), ("row" : Str)]
def kD (k : Bd) : MS :=
 (aG (aK (bL k.B ("state_here" : Str) (aB 0)) (a9 9 (aE (aN 3) (aE (aN 4) (aE (aN 5) (aE (aN 6) (aE (aN 7) (aE (aN 8) (aE (aN 9) (aE (aN 10) (aE (aN 11) a5)))))))))))
 (aG (aK (aO cH (aA (bA (bX (bL k.B ("stands_now" : Str) (aB 0))) [12] (aN 12) bG (aO cH (aA (aB 12) aD))) aD)) (aN 7))
 (aG (aK (aC a8 (aO cH (aA (bL k.B ("still_under_way" : Str) (aB 0)) aD)) (aH (i1 k.k) 2 aM (aA (bL k.B ("letters_sent" : Str) (aB 0)) (aA (aB 2) aD)))) (aN 8))
 (aG (aK (aO cH (aA (bA (bX (bL k.B ("tables_now" : Str) (aB 0))) [12] (aN 12) bG (aO cH (aA (aB 12) aD))) aD)) (aN 10))
 (aT (a6 (aA (aB 3) (aA (aB 4) (aA (aB 5) (aA (aB 6) (aA (aB 7) (aA (aB 8) (aA (aH (k8 k.k) 3 aM (aA (aB 1) (aA (bL k.B ("letters_sent" : Str) (aB 0)) (aA (aB 2) aD)))) (aA (aB 10) (aA (aB 11) aD)))))))))))))))
def kB (k : Bd) : MF := aZ (kD k) kE
def uT : List Str := [("plan" : Str), ("lacks" : Str), ("sent_here" : Str), ("ahead" : Str), ("thing" : Str), ("address" : Str), ("sender" : Str), ("receiver" : Str), ("fate" : Str), ("part" : Str)]
def uX (k : Bd) : MS :=
 (aG (b6 (hO (c6 (dD (aO (vB uS) (aA (aB 4) (aA (eC (.ty "tuple")) aD))))) (hO (aR (aC f7 (aO cF (aA (aB 4) aD)) (eC (.int 4)))) (c6 (dD (aO allM (aA (bA (bX (aB 4)) [9] (aN 9) bG (aH (lO k.k) 1 aM (aA (aB 9) aD))) aD)))))) (aT (eC (.bl false))) aP)
 (aG (aK (aB 4) (a9 4 (aE (aN 5) (aE (aN 6) (aE (aN 7) (aE (aN 8) a5))))))
 (aG (b6 (hO (aR (aC yJ (kL j0 (aB 4) cU (cE (m9 oT (eC (.int 1))))) (aB 2))) (cZ (aR (aC f7 (aB 3) (a6 aD))) (aR (aC HL (kL j0 (aB 4) cU (cE (m9 oT (eC (.int 1))))) (kL j0 (aB 3) cU (cE (m9 oT (eC (.int 1))))))))) (aT (eC (.bl false))) aP)
 (aG (b6 (aR (aC cX (aB 8) (eC (.int 0)))) (aT (aC sL (aC aL (aC aL (aC aL (aB 1) (aB 5)) (aB 6)) (aB 7)) (bL k.k.bM ("lost" : Str) (aB 0)))) aP)
 (aT (DW DZ DZ (eC (.int 1)) (aB 8) (bL k.k.bM ("slow" : Str) (aB 0))))))))
def uQ (k : Bd) : MF := aZ (uX k) uT
def rN : List Str := [("plan" : Str), ("lacks" : Str), ("sent_here" : Str), ("fates" : Str), ("found" : Str), ("ahead" : Str), ("place" : Str), ("thing" : Str)]
def rL (k : Bd) : MS :=
 (aG (aK nU (aN 4))
 (aG (aK (a6 aD) (aN 5))
 (aG (cV (cD k9 (aA (aB 3) aD)) (a9 2 (aE (aN 6) (aE (aN 7) a5))) (aG (b6 (c6 (dD (aH (uQ k) 5 aM (aA (aB 0) (aA (aB 1) (aA (aB 2) (aA (aB 5) (aA (aB 7) aD)))))))) DQ aP)
 (aG (aK (aC aL (aB 7) (m9 oT (eC (.int 1)))) (bK (aB 4) (kL j0 (aB 7) cU (cE (m9 oT (eC (.int 1)))))))
 (aK (aB 7) (aN 5)))))
 (aT (aB 4)))))
def sY (k : Bd) : MF := aZ (rL k) rN
def r4 : List Str := [("plan" : Str), ("deed" : Str), ("address" : Str)]
def sU (k : Bd) : MS :=
 (aG (b6 (aR (aC yJ (aC aL (aB 1) (eC (.int 0))) (a6 (aA (eC (.str ("fall" : Str))) (aA (eC (.str ("stop" : Str))) aD))))) (aT (a6 aD)) aP)
 (aT (aO cH (aA (bA (cD eV (aA (aH (bN k.k) 1 aM (aA (aB 0) aD)) aD)) [2] (aN 2) bG (a6 (aA (aB 2) (aA (aC aL (aB 1) (eC (.int 1))) (aA (eC (.str ("rests" : Str))) aD))))) aD))))
def sT (k : Bd) : MF := aZ (sU k) r4
def nB : List Str := [("plan" : Str), ("state" : Str), ("deeds" : Str), ("news" : Str), ("place" : Str), ("deed" : Str)]
def oJ (k : Bd) : MS :=
 (aG (aK (eNew aD) (aN 3))
 (aG (cV (cD k9 (aA (aB 2) aD)) (a9 2 (aE (aN 4) (aE (aN 5) a5))) (aG (b6 (c6 (dD (aH (vJ k.k k.S) 3 aM (aA (aB 0) (aA (aB 1) (aA (aB 5) aD)))))) DQ aP)
 (aG (aK (aH (qF k.k) 4 aM (aA (aB 0) (aA (aB 1) (aA (aB 5) (aA nU aD))))) (aN 1))
 (bH (bF "list" zD (aB 3) (aA (aH (sT k) 2 aM (aA (aB 0) (aA (aB 5) aD))) aD))))))
 (aT (a6 (aA (aB 1) (aA (aO cH (aA (aB 3) aD)) aD))))))
def nJ (k : Bd) : MF := aZ (oJ k) nB
def wY : List Str := [("plan" : Str), ("state" : Str), ("deeds" : Str), ("fates" : Str), ("after" : Str), ("news" : Str), ("beat" : Str), ("sent_here" : Str), ("known" : Str), ("letter" : Str)]
def yF (k : Bd) : MS :=
 (aG (aK (aH (nJ k) 3 aM (aA (aB 0) (aA (aB 1) (aA (aB 2) aD)))) (a9 2 (aE (aN 4) (aE (aN 5) a5))))
 (aG (aK (ES k.B (qM k) 3 aM (aA (aB 0) (aA (aB 4) (aA (aO cF (aA (aC aL (aB 1) (eC (.int 5))) aD)) aD)))) (aN 6))
 (aG (aK (GZ (bX (bL k.B ("letters_sent" : Str) (aB 6))) [9] (aN 9) bG (kL j0 (aB 9) cU (cE (m9 oT (eC (.int 1))))) (eC (.bl true))) (aN 7))
 (aG (aK (aH (sY k) 4 aM (aA (aB 0) (aA (aC aL (aB 1) (eC (.int 6))) (aA (aB 7) (aA (aB 3) aD))))) (aN 8))
 (aT (a6 (aA (aC a8 (aB 5) (aO cH (aA (bL k.B ("news_told" : Str) (aB 6)) aD))) (aA (jG k.B ("state_by" : Str) (kB k) 3 aM (aB 6) (aA (aC aL (aB 1) (eC (.int 6))) (aA (aB 8) aD))) aD))))))))
def yA (k : Bd) : MF := aZ (yF k) wY
abbrev fR (k : Bd) : List D → List D → List D := fun xs zs => D1 [(0, 0), (0, 1), (1, 0), (1, 1)] xs zs []
def mF : List Str := [("_law_one" : Str), ("_law_other" : Str)]
def mL (k : bB) : MS :=
 (aT (AM (aC oX (aC aL (aB 0) (eC (.int 0))) (aC aL (aB 1) (eC (.int 0)))) (gE (aC cX (aC aL (aB 0) (eC (.int 0))) (aC aL (aB 1) (eC (.int 0)))) (aC sL (aC aL (aB 0) (eC (.int 1))) (aC aL (aB 1) (eC (.int 1)))))))
def hZ (k : bB) : MF := aZ (mL k) mF
def lC : List Str := [("_law_model_here" : Str), ("_law_world_here" : Str), ("_law_letter" : Str), ("_law_news" : Str), ("_law_left" : Str), ("_law_a" : Str), ("_law_s" : Str), ("_law_r" : Str), ("_law_rank_here" : Str), ("_law_many" : Str), ("_law_stand" : Str), ("_law_own" : Str)]
def kS (k : bB) : MS :=
 (aG (aK (aB 2) (a9 5 (aE (aN 4) (aE (aN 5) (aE (aN 6) (aE (aN 7) (aE (aN 8) a5)))))))
 (aG (aK (aO cF (aA (aC aL (aB 1) (eC (.str ("living" : Str)))) aD)) (aN 9))
 (aG (b6 (hO (aR (aC f7 (aC aL (aC aL (aB 1) (eC (.str ("parts" : Str)))) (aB 6)) (aC aL (aC aL (aB 1) (eC (.str ("parts" : Str)))) (aB 7)))) (cZ (aR (aC sL (aB 7) (aB 9))) (aR (aC cX (aC aL (aC aL (aB 1) (eC (.str ("living" : Str)))) (aB 7)) (eC (.int 0)))))) (aT (eC .non)) aP)
 (aG (b6 (aR (aC yK (aB 7) (aB 9))) (aG (b6 (aR (aC oX (aB 8) (eC (.int 0)))) (aK (aB 6) (bK (aC aL (aC aL (aB 1) (eC (.str ("tables" : Str)))) (aC eH (aB 7) (aB 9))) (aB 5))) aP)
 (aT (eC .non))) aP)
 (aG (yI 10 11 (aA (aC aL (aC aL (aC aL (aB 1) (eC (.str ("stands" : Str)))) (aB 5)) (aB 7)) (aA (a6 (aA (aH (dW k) 4 aM (aA (aB 0) (aA (aB 1) (aA (aB 5) (aA (aB 7) aD))))) (aA (aB 7) aD))) aD)))
 (b6 (cZ (aR (aC cX (aC aL (aB 10) (eC (.int 0))) (eC (.str ("serves" : Str))))) (cZ (aR (aC oX (aB 8) (eC (.int 0)))) (dD (aH (hZ k) 2 aM (aA (a6 (aA (aB 8) (aA (aB 6) aD))) (aA (aB 11) aD)))))) (aG (aK (aH (fZ k) 4 aM (aA (aB 0) (aA (aB 1) (aA (aB 5) (aA (aB 7) aD))))) (bK (aC aL (aC aL (aB 1) (eC (.str ("stands" : Str)))) (aB 5)) (aB 7)))
 (bH (bF "list" bD (aB 3) (aA (a6 (aA (aB 5) (aA (aB 7) (aA (eC (.str ("yields" : Str))) aD)))) aD)))) (b6 (cZ (aR (aC cX (aC aL (aB 10) (eC (.int 0))) (eC (.str ("waits" : Str))))) (aR (aC cX (aB 8) (eC (.int 0))))) (aK (aO min2 (aA (aC aL (aB 10) (eC (.int 1))) (aA (aC a8 (eC (.int 2)) (aC mulM (aC aL (aB 0) (eC (.str ("gap" : Str)))) (aC eH (eC (.int 12)) (aC aL (aB 11) (eC (.int 0)))))) aD))) (bK (aB 10) (eC (.int 1)))) (b6 (cZ (aR (aC cX (aC aL (aB 10) (eC (.int 0))) (eC (.str ("waits" : Str))))) (hO (c6 (dD (aC aL (aB 0) (eC (.str ("takes" : Str)))))) (dD (aH (hZ k) 2 aM (aA (a6 (aA (aB 8) (aA (aB 6) aD))) (aA (aB 11) aD)))))) (aK (aO max2 (aA (aC aL (aB 10) (eC (.int 1))) (aA (aH (j5 k) 2 aM (aA (aB 0) (aA (aC aL (aB 11) (eC (.int 0))) aD))) aD))) (bK (aB 10) (eC (.int 1)))) aP))))))))
def lV (k : bB) : MF := aZ (kS k) lC
def qD : List Str := [("_law_model_here" : Str), ("_law_world_here" : Str), ("_law_acts" : Str), ("_law_lots" : Str), ("_law_news" : Str), ("_law_letters" : Str), ("_law_deed_here" : Str), ("_law_one" : Str), ("_law_a" : Str), ("_law_h" : Str), ("_law_role" : Str), ("_law_clock" : Str)]
def pN (k : bB) : MS :=
 (aG (aK (a6 (aA (eNew aD) (aA (eNew aD) aD))) (a9 2 (aE (aN 4) (aE (bK (aB 1) (eC (.str ("sent" : Str)))) a5))))
 (aG (aK (a6 (aA (bA (bX (aC aL (aB 1) (eC (.str ("under" : Str))))) [7] (aN 7) bG (aC a8 (a6 (aA (aC eH (aC aL (aB 7) (eC (.int 0))) (eC (.int 1))) aD)) (kL j0 (aB 7) (cE (eC (.int 1))) cU))) (aA (eNew aD) aD))) (a9 2 (aE (aN 5) (aE (bK (aB 1) (eC (.str ("under" : Str)))) a5))))
 (aG (cV (bX (aB 2)) (aN 6) (bH (aH (q6 k) 5 aM (aA (aB 0) (aA (aB 1) (aA (aB 6) (aA (aB 3) (aA (aB 4) aD))))))))
 (aG (aK (aC D4 (bA (bX (aB 5)) [7] (aN 7) (aR (aC oX (aC aL (aB 7) (eC (.int 0))) (eC (.int 0)))) (aB 7)) (aC aL (aB 1) (eC (.str ("under" : Str))))) (bK (aB 1) (eC (.str ("under" : Str)))))
 (aG (cV (bX (aB 5)) (aN 7) (b6 (aR (aC cX (aC aL (aB 7) (eC (.int 0))) (eC (.int 0)))) (bH (aH (lV k) 4 aM (aA (aB 0) (aA (aB 1) (aA (aB 7) (aA (aB 4) aD)))))) aP))
 (aG (cV (cD eV (aA (aO cF (aA (aC aL (aB 0) (eC (.str ("ranks" : Str)))) aD)) aD)) (aN 8) (cV (cD eV (aA (aO cF (aA (aC aL (aB 1) (eC (.str ("living" : Str)))) aD)) aD)) (aN 9) (aG (aK (aC aL (aC aL (aC aL (aB 1) (eC (.str ("stands" : Str)))) (aB 8)) (aB 9)) (AQ 2 (aE (aN 10) (aE (aN 11) a5))))
 (aG (aK (eNew (aA (aB 10) (aA (aC eH (aB 11) (aO uK (aA (aC f7 (aB 10) (eC (.str ("rests" : Str)))) aD))) aD))) (bK (aC aL (aC aL (aB 1) (eC (.str ("stands" : Str)))) (aB 8)) (aB 9)))
 (b6 (cZ (aR (aC f7 (aB 10) (eC (.str ("rests" : Str))))) (aR (aC cX (aB 11) (eC (.int 1))))) (aG (b6 (aR (aC cX (aB 10) (eC (.str ("waits" : Str))))) (bH (bF "list" bD (aB 4) (aA (a6 (aA (aB 8) (aA (aB 9) (aA (eC (.str ("serves" : Str))) aD)))) aD))) aP)
 (aG (aK (eNew (aA (eC (.str ("serves" : Str))) (aA (aC aL (aB 0) (eC (.str ("every" : Str)))) aD))) (bK (aC aL (aC aL (aB 1) (eC (.str ("stands" : Str)))) (aB 8)) (aB 9)))
 (bH (aH (jS k) 5 aM (aA (aB 1) (aA (aB 8) (aA (aB 9) (aA (aH (dW k) 4 aM (aA (aB 0) (aA (aB 1) (aA (aB 8) (aA (aB 9) aD))))) (aA (aB 3) aD))))))))) aP)))))
 (aT (aO cH (aA (aB 4) aD)))))))))
def qS (k : bB) : MF := aZ (pN k) qD
structure Bt where
 bO : List (List (Role × Int))
 tables : List (List Int)
 under : List r5
 o5 : List yM
 news : List D
def D9 (y : Bt) (a c : Nat) : Role × Int := (y.bO.getD a []).getD c (.rests, 0)
def GK (t : yM) : List Key := [.inl (t.a : Int), .inl (t.s : Int), .inl (t.r : Int)]
section
variable {n B0 : Nat} {w w' : W} {A A' : mR} {x : Wx} {y y' : Bt} {σ : Sg} {P : D → W → Prop} {PL : List D → W → Prop} {PF : Fl → W → Prop} {PU : Unit → W → Prop} {PI : gF → W → Prop} {k : bB} {i h p f q news : Nat} {m : Mo} {b : Int} {s s1 s2 : t9} {l : gG} {o o1 : MO} {kv : List (List Key × D)} {nw : List D}
theorem eqZ {i j : Int} : T (cX (.int i) (.int j) w) P = P (.bl (i == j)) w := by simp only [vF, iQ, aa, exists_eq_left']
end
def Pos (y : Bt) : Prop := ∀ a c, (D9 y a c).1 ≠ .rests → 1 ≤ (D9 y a c).2
def cP : List Str := [("_law_model_here" : Str), ("_law_own_plan" : Str), ("_law_world_here" : Str), ("_law_acts" : Str), ("_law_lots" : Str), ("_law_state_here" : Str), ("_law_kept" : Str), ("_law_found" : Str), ("_law_news" : Str)]
def dC (k : Bd) : MS :=
 (aG (aK (aH (iU k.k) 2 aM (aA (aB 0) (aA (aB 2) aD))) (aN 5))
 (aG (aK (aO hV (aA (a6 (aA (aB 5) (aA (aB 3) (aA (aB 4) aD)))) aD)) (aN 6))
 (aG (aK (jL (yA k) 2 2 (fR k) (aA (aB 1) (aA (aB 5) aD)) (aA (aB 3) (aA (aB 4) aD))) (aN 7))
 (aG (aK (aH (qS k.k) 4 aM (aA (aB 0) (aA (aB 2) (aA (aB 3) (aA (aH (iS k.k) 1 aM (aA (aB 4) aD)) aD))))) (aN 8))
 (aT (gE (aC cX (aO hV (aA (aB 7) aD)) (aO hV (aA (a6 (aA (aB 8) (aA (aH (iU k.k) 2 aM (aA (aB 0) (aA (aB 2) aD))) aD))) aD))) (aC cX (aO hV (aA (a6 (aA (aB 5) (aA (aB 3) (aA (aB 4) aD)))) aD)) (aB 6))))))))
def cM (k : Bd) : MF := aZ (dC k) cP
section
variable {n B0 Q : Nat} {w w' w0 : W} {A A' A0 : mR} {x X X0 e : Wx} {y y' z : Bt} {P : D → W → Prop} {kb : Bd} {k : bB} {i h p f q news : Nat} {m : Mo} {b nV : Int} {s s1 s2 : t9} {l : r5} {o o1 : MO} {kv : List (List Key × D)} {nw : List D} {fa : yN} {t : yM} {ts t1 t2 ls : List yM} {L : List r5} {ds : List kA}
theorem pairs_of : ∀ ls : List yM, Pc.pairsOf (ls.map fun t => .tup [.tup [.int (t.a : Nat), .int (t.s : Nat), .int (t.r : Nat)], .int t.rank]) = some (ls.map fun t => (GK t, .int t.rank))
 | [] => rfl
 | t :: ls => by
  have ih := pairs_of ls
  rw [List.map_cons, List.map_cons]
  simp only [Pc.pairsOf, ih]
  rfl
end
def EJ (q : Role × Int) : Bool := decide (q.1 = .vR)
structure Nd where
 b : Bd
 N : Addr
section
variable {n n' nn Q : Nat} {w w' : W} {A : mR} {x : Wx} {P : D → W → Prop} {i h p q F S N r : Nat} {m : Mo} {b g l : Int} {ds : List kA} {ls : List yM} {ns : List (List D)} {nw : List D} {ys : List D}
theorem World.mono (hW : World n w A x) (h : n' ≤ n) : World n' w A x := fun l o e => by
 obtain ⟨h1, h2, h3⟩ := hW l o e
 exact ⟨by omega, h2, h3⟩
end
abbrev xJ := List kA × List yM
end Lw
namespace Pro
structure Dat where
 N : Nat
 mem : Nat → Prop
 R : Nat → Int
 takes : Bool
 iZ : Nat
 nV : Nat
 mA : Nat
 B : Nat
 wait : Nat → Int
 IE : Nat → Nat → Prop
 IF : Nat → Nat → Int
 snd : Nat → Nat → Prop
 hit : Nat → Nat → Nat → Prop
 lk : Nat → Nat → Nat → Nat
def Dat.ahead (D : Dat) (d c : Nat) : Prop := D.R d > D.R c ∨ (D.R d = D.R c ∧ d < c)
def Dat.P (D : Dat) : Nat := (D.nV + 1) * D.iZ + D.mA - 1
variable {D : Dat}
end Pro
namespace Lw
open PySem PySem.Spec PyProof.Rows L2 Pc Lb
section
variable {m : Mo} {b : Int} {h Q : Nat} {s : t9} {x e : Wx} {a c r : Nat} {q : Role × Int} {ds : List kA} {fa : yN} {l : r5}
def GV (m : Mo) (b : Int) : Int := BE m b 1 + m.hold
end
section
variable {m : Mo} {b : Int} {h Q : Nat} {s : t9} {x x' e : Wx} {a c d r t : Nat} {p : Int} {q : Role × Int} {ds : List kA} {fa : yN} {l : r5} {ts : List xJ}
open Classical in
def FR (m : Mo) (b : Int) (h : Nat) : Nat := (h + 1) * m.mA.toNat + (GV m b).toNat
def EF (m : Mo) : Nat := (m.nV.toNat + 1) * m.iZ.toNat + m.mA.toNat - 1
end
def xI (h : Nat) (s : t9) (v : Nat) : List Nat := (List.range h).filter fun c => s.living.getD c 0 == 1 && s.parts.getD c 0 == (v : Int)
section
variable {k : Nd} {m : Mo} {b : Int} {h n0 p q S N TT Q i a c r : Nat} {ss : List D} {ns : List (List D)} {w w' w0 : W} {x : Wx} {P : D → W → Prop} {PF : Fl → W → Prop} {ds : List kA} {ls : List yM} {dd ff : D}
theorem e6 (s : t9) : atI [jK s.living, jK s.parts, jK s.downs, .tup (s.bZ.map jK), .tup (s.bO.map EH), .tup (s.kI.map BF), .tup (s.jY.map AY), .tup (s.tables.map jK), .tup (s.asks.map Pc.pairD)] 6 = some (.tup (s.jY.map AY)) := rfl
end
end Lw
namespace Lw
open PySem PySem.Spec PyProof.Rows L2 Pc Lb TL
def tD (z : Str) : Prop := tl (reprText z) = 39 :: (tl z ++ [39]) ∧ 39 ∉ tl z
mutual
def bT : PyData → Prop
 | .int _ => True
 | .str z => tD z
 | .tuple xs => SimPs xs
 | _ => False
def SimPs : List PyData → Prop
 | [] => True
 | x :: xs => bT x ∧ SimPs xs
end
def dQ : List PyData → List Nat
 | [] => [41]
 | y :: t => 44 :: 32 :: (tl y.shown ++ dQ t)
def eB : List PyData → List Nat
 | [] => [41]
 | [x] => tl x.shown ++ [44, 41]
 | x :: y :: t => tl x.shown ++ (44 :: 32 :: (tl y.shown ++ dQ t))
theorem mY : ∀ (x : PyData) (t : List PyData), joinL [44, 32] ((PyData.shownAll (x :: t)).map tl) ++ [41] = tl x.shown ++ dQ t
 | x, [] => rfl
 | x, y :: t => by
  show (tl x.shown ++ ([44, 32] ++ joinL [44, 32] ((PyData.shownAll (y :: t)).map tl))) ++ [41] = _
  rw [av, av, mY y t]
  rfl
theorem iR (xs : List PyData) : tl (PyData.tuple xs).shown = 40 :: eB xs := by
 have e : (PyData.tuple xs).shown = ("(" : Str) ++ Str.join ", " (PyData.shownAll xs) ++ (if (PyData.shownAll xs).length == 1 then ",)" else ")" : String) := by
  simp only [PyData.shown]
  rfl
 have e1 : tl ("(" : Str) = [40] := by decide +kernel
 have e2 : tl (", " : Str) = [44, 32] := by decide +kernel
 have e3 : tl (Str.ofString ",)") = [44, 41] := by decide +kernel
 have e4 : tl (Str.ofString ")") = [41] := by decide +kernel
 rw [e, tl_append, tl_append, tl_join, e1, e2]
 match xs with
 | [] => simp only [PyData.shownAll, List.length_nil, List.map_nil]; exact congrArg _ e4
 | [x] =>
  show ([40] ++ tl x.shown) ++ tl (Str.ofString ",)") = _
  rw [e3]; rfl
 | x :: y :: t =>
  show ([40] ++ joinL [44, 32] ((PyData.shownAll (x :: y :: t)).map tl)) ++ tl (Str.ofString ")") = _
  rw [e4, av, mY]; rfl
theorem kK (n : Nat) : tl (PyData.int (Int.negSucc n)).shown = 45 :: numL (n + 1) := by
 have e : (PyData.int (Int.negSucc n)).shown = Str.ofString ("-" ++ toString ((n + 1 : Nat) : Int)) := by
  simp only [PyData.shown]
  rfl
 rw [e, tl_ofString, String.toList_append, List.map_append, ← tl_ofString, ← tl_ofString, tl_num]
 have : tl (Str.ofString "-") = [45] := by decide +kernel
 rw [this]
 rfl
theorem oK (n : Nat) : tl (PyData.int (n : Nat)).shown = numL n := by
 simp only [PyData.shown]
 exact tl_num n
def Dl (r : List Nat) : Prop := r = [] ∨ (∃ t, r = 44 :: t) ∨ ∃ t, r = 41 :: t
theorem CG : ∀ (a b : List Nat) {r r' : List Nat}, (∀ c ∈ a, 48 ≤ c ∧ c ≤ 57) → (∀ c ∈ b, 48 ≤ c ∧ c ≤ 57) → Dl r → Dl r' → a ++ r = b ++ r' → a = b ∧ r = r'
 | [], [], r, r', _, _, _, _, h => ⟨rfl, h⟩
 | x :: a, y :: b, r, r', ha, hb, d, d', h => by
  rw [List.cons_append, List.cons_append] at h
  injection h with h1 h2
  obtain ⟨e1, e2⟩ := CG a b (fun c hc => ha c (au _ hc)) (fun c hc => hb c (au _ hc)) d d' h2
  exact ⟨by rw [h1, e1], e2⟩
 | x :: a, [], r, r', ha, _, _, d', h => by
  exfalso
  have hx := ha x (ao ..)
  rw [List.nil_append] at h
  rcases d' with e | ⟨t, e⟩ | ⟨t, e⟩ <;> rw [e, List.cons_append] at h <;> injection h <;> omega
 | [], y :: b, r, r', _, hb, d, _, h => by
  exfalso
  have hy := hb y (ao ..)
  rw [List.nil_append] at h
  rcases d with e | ⟨t, e⟩ | ⟨t, e⟩ <;> rw [e, List.cons_append] at h <;> injection h <;> omega
theorem marks : ∀ (a b : List Nat) {r r' : List Nat}, 39 ∉ a → 39 ∉ b → a ++ 39 :: r = b ++ 39 :: r' → a = b ∧ r = r'
 | [], [], _, _, _, _, h => ⟨rfl, by injection h⟩
 | x :: a, y :: b, r, r', ha, hb, h => by
  rw [List.cons_append, List.cons_append] at h
  injection h with h1 h2
  obtain ⟨e1, e2⟩ := marks a b (fun c => ha (au _ c)) (fun c => hb (au _ c)) h2
  exact ⟨by rw [h1, e1], e2⟩
 | x :: a, [], r, r', ha, _, h => by
  rw [List.cons_append, List.nil_append] at h
  injection h with h1 h2
  exact absurd (by rw [h1]; exact ao ..) ha
 | [], y :: b, r, r', _, hb, h => by
  rw [List.cons_append, List.nil_append] at h
  injection h with h1 h2
  exact absurd (by rw [← h1]; exact ao ..) hb
theorem jE {z : Str} (h : tD z) : tl (PyData.str z).shown = 39 :: (tl z ++ [39]) := by
 simp only [PyData.shown]
 exact h.1
theorem g7 : ∀ (p : PyData), bT p → ∃ c l, tl p.shown = c :: l ∧ ((∃ n : Nat, p = .int (n : Nat)) ∧ (48 ≤ c ∧ c ≤ 57) ∨ (∃ n, p = .int (Int.negSucc n)) ∧ c = 45 ∨ (∃ z, p = .str z ∧ tD z) ∧ c = 39 ∨ (∃ xs, p = .tuple xs ∧ SimPs xs) ∧ c = 40)
 | .int (Int.ofNat n), _ => by
  have e : tl (PyData.int (Int.ofNat n)).shown = numL n := oK n
  obtain ⟨c, l, h⟩ := List.exists_cons_of_ne_nil (numL_ne n)
  refine ⟨c, l, e.trans h, .inl ⟨⟨n, rfl⟩, ?_⟩⟩
  have := numL_digits n c (by rw [h]; exact ao ..)
  omega
 | .int (Int.negSucc n), _ => ⟨45, _, kK n, .inr (.inl ⟨⟨n, rfl⟩, rfl⟩)⟩
 | .str z, h => by
  rw [bT] at h
  exact ⟨39, _, jE h, .inr (.inr (.inl ⟨⟨z, rfl, h⟩, rfl⟩))⟩
 | .tuple xs, h => by
  rw [bT] at h
  exact ⟨40, _, iR xs, .inr (.inr (.inr ⟨⟨xs, rfl, h⟩, rfl⟩))⟩
 | .none, h => by simp [bT] at h
 | .bool _, h => by simp [bT] at h
 | .list _, h => by simp [bT] at h
 | .dict _, h => by simp [bT] at h
theorem Dl.tail : ∀ (t : List PyData) (r : List Nat), Dl (dQ t ++ r)
 | [], r => .inr (.inr ⟨r, rfl⟩)
 | y :: t, r => .inr (.inl ⟨_, rfl⟩)
theorem g9 {p : PyData} (h : bT p) {s u : List Nat} (e : tl p.shown ++ s = 41 :: u) : False := by
 obtain ⟨c, l, e1, hc⟩ := g7 p h
 rw [e1, List.cons_append] at e
 injection e with e2 _
 rcases hc with ⟨_, hc⟩ | ⟨_, hc⟩ | ⟨_, hc⟩ | ⟨_, hc⟩ <;> omega
mutual
theorem eG : ∀ (p : PyData), bT p → ∀ (q : PyData), bT q → ∀ (r r' : List Nat), Dl r → Dl r' → tl p.shown ++ r = tl q.shown ++ r' → p = q ∧ r = r'
 | .int (Int.ofNat n), hp, q, hq, r, r', d, d', h => by
  have e : tl (PyData.int (Int.ofNat n)).shown = numL n := oK n
  have dg : ∀ n c, c ∈ numL n → 48 ≤ c ∧ c ≤ 57 := fun n c hc => by
   have := numL_digits n c hc
   omega
  obtain ⟨c', l', e', hc'⟩ := g7 (.int (Int.ofNat n)) hp
  obtain ⟨c, l, eq, hc⟩ := g7 q hq
  have hcc : c' = c := by rw [e', eq, List.cons_append, List.cons_append] at h; injection h
  have h48 : 48 ≤ c' ∧ c' ≤ 57 := dg n c' (by rw [← e, e']; exact ao ..)
  rcases hc with ⟨⟨k, rfl⟩, _⟩ | ⟨_, hc⟩ | ⟨_, hc⟩ | ⟨_, hc⟩
  ·rw [e, oK] at h
   obtain ⟨e1, e2⟩ := CG _ _ (dg n) (dg k) d d' h
   rw [numL_inj e1]
   exact ⟨rfl, e2⟩
  all_goals exfalso; omega
 | .int (Int.negSucc n), hp, q, hq, r, r', d, d', h => by
  have dg : ∀ n c, c ∈ numL n → 48 ≤ c ∧ c ≤ 57 := fun n c hc => by
   have := numL_digits n c hc
   omega
  obtain ⟨c, l, eq, hc⟩ := g7 q hq
  have hcc : 45 = c := by rw [kK, eq, List.cons_append, List.cons_append] at h; injection h
  rcases hc with ⟨_, hc⟩ | ⟨⟨k, rfl⟩, _⟩ | ⟨_, hc⟩ | ⟨_, hc⟩
  ·omega
  ·rw [kK, kK, List.cons_append, List.cons_append] at h
   injection h with _ h
   obtain ⟨e1, e2⟩ := CG _ _ (dg (n + 1)) (dg (k + 1)) d d' h
   have := numL_inj e1
   rw [show n = k by omega]
   exact ⟨rfl, e2⟩
  all_goals exfalso; omega
 | .str z, hp, q, hq, r, r', d, d', h => by
  rw [bT] at hp
  obtain ⟨c, l, eq, hc⟩ := g7 q hq
  have hcc : 39 = c := by rw [jE hp, eq, List.cons_append, List.cons_append] at h; injection h
  rcases hc with ⟨_, hc⟩ | ⟨_, hc⟩ | ⟨⟨k, rfl, hk⟩, _⟩ | ⟨_, hc⟩
  ·omega
  ·omega
  ·rw [jE hp, jE hk, List.cons_append, List.cons_append] at h
   injection h with _ h
   rw [av, av] at h
   obtain ⟨e1, e2⟩ := marks _ _ hp.2 hk.2 h
   rw [ext_tl e1]
   exact ⟨rfl, e2⟩
  ·omega
 | .tuple xs, hp, q, hq, r, r', d, d', h => by
  rw [bT] at hp
  obtain ⟨c, l, eq, hc⟩ := g7 q hq
  have hcc : 40 = c := by rw [iR, eq, List.cons_append, List.cons_append] at h; injection h
  rcases hc with ⟨_, hc⟩ | ⟨_, hc⟩ | ⟨_, hc⟩ | ⟨⟨ys, rfl, hk⟩, _⟩
  ·omega
  ·omega
  ·omega
  ·rw [iR, iR, List.cons_append, List.cons_append] at h
   injection h with _ h
   obtain ⟨e1, e2⟩ := tup_key xs hp ys hk r r' h
   exact ⟨by rw [e1], e2⟩
 | .none, h, _, _, _, _, _, _, _ => by simp [bT] at h
 | .bool _, h, _, _, _, _, _, _, _ => by simp [bT] at h
 | .list _, h, _, _, _, _, _, _, _ => by simp [bT] at h
 | .dict _, h, _, _, _, _, _, _, _ => by simp [bT] at h
theorem tup_key : ∀ (xs : List PyData), SimPs xs → ∀ (ys : List PyData), SimPs ys → ∀ (r r' : List Nat), eB xs ++ r = eB ys ++ r' → xs = ys ∧ r = r'
 | [], hx, [], hy, r, r', h => ⟨rfl, by simp only [eB, List.cons_append, List.nil_append] at h; injection h⟩
 | [], hx, [y], hy, r, r', h => by
  simp only [SimPs] at hy
  simp only [eB, List.cons_append, List.nil_append, av] at h
  exact (g9 hy.1 h.symm).elim
 | [], hx, y :: y2 :: ys, hy, r, r', h => by
  simp only [SimPs] at hy
  simp only [eB, List.cons_append, List.nil_append, av] at h
  exact (g9 hy.1 h.symm).elim
 | [x], hx, [], hy, r, r', h => by
  simp only [SimPs] at hx
  simp only [eB, List.cons_append, List.nil_append, av] at h
  exact (g9 hx.1 h).elim
 | [x], hx, [y], hy, r, r', h => by
  simp only [SimPs] at hx hy
  simp only [eB, List.cons_append, List.nil_append, av] at h
  obtain ⟨e1, e2⟩ := eG x hx.1 y hy.1 _ _ (.inr (.inl ⟨_, rfl⟩)) (.inr (.inl ⟨_, rfl⟩)) h
  injection e2 with _ e2
  injection e2 with _ e2
  exact ⟨by rw [e1], e2⟩
 | [x], hx, y :: y2 :: ys, hy, r, r', h => by
  simp only [SimPs] at hx hy
  simp only [eB, List.cons_append, List.nil_append, av] at h
  obtain ⟨e1, e2⟩ := eG x hx.1 y hy.1 _ _ (.inr (.inl ⟨_, rfl⟩)) (.inr (.inl ⟨_, rfl⟩)) h
  injection e2 with _ e2
  injection e2 with e2 _
  omega
 | x :: x2 :: xs, hx, [], hy, r, r', h => by
  simp only [SimPs] at hx
  simp only [eB, List.cons_append, List.nil_append, av] at h
  exact (g9 hx.1 h).elim
 | x :: x2 :: xs, hx, [y], hy, r, r', h => by
  simp only [SimPs] at hx hy
  simp only [eB, List.cons_append, List.nil_append, av] at h
  obtain ⟨e1, e2⟩ := eG x hx.1 y hy.1 _ _ (.inr (.inl ⟨_, rfl⟩)) (.inr (.inl ⟨_, rfl⟩)) h
  injection e2 with _ e2
  injection e2 with e2 _
  omega
 | x :: x2 :: xs, hx, y :: y2 :: ys, hy, r, r', h => by
  simp only [SimPs] at hx hy
  simp only [eB, List.cons_append, List.nil_append, av] at h
  obtain ⟨e1, e2⟩ := eG x hx.1 y hy.1 _ _ (.inr (.inl ⟨_, rfl⟩)) (.inr (.inl ⟨_, rfl⟩)) h
  injection e2 with _ e2
  injection e2 with _ e2
  obtain ⟨e3, e4⟩ := eG x2 hx.2.1 y2 hy.2.1 _ _ (Dl.tail _ _) (Dl.tail _ _) e2
  obtain ⟨e5, e6⟩ := tail_key xs hx.2.2 ys hy.2.2 r r' e4
  exact ⟨by rw [e1, e3, e5], e6⟩
theorem tail_key : ∀ (xs : List PyData), SimPs xs → ∀ (ys : List PyData), SimPs ys → ∀ (r r' : List Nat), dQ xs ++ r = dQ ys ++ r' → xs = ys ∧ r = r'
 | [], _, [], _, r, r', h => ⟨rfl, by simp only [dQ, List.cons_append, List.nil_append] at h; injection h⟩
 | [], _, y :: ys, _, r, r', h => by
  simp only [dQ, List.cons_append, List.nil_append] at h
  injection h with h _
  omega
 | x :: xs, _, [], _, r, r', h => by
  simp only [dQ, List.cons_append, List.nil_append] at h
  injection h with h _
  omega
 | x :: xs, hx, y :: ys, hy, r, r', h => by
  simp only [SimPs] at hx hy
  simp only [dQ, List.cons_append, List.nil_append, av] at h
  injection h with _ h
  injection h with _ h
  obtain ⟨e1, e2⟩ := eG x hx.1 y hy.1 _ _ (Dl.tail _ _) (Dl.tail _ _) h
  obtain ⟨e3, e4⟩ := tail_key xs hx.2 ys hy.2 r r' e2
  exact ⟨by rw [e1, e3], e4⟩
end
mutual
theorem AE : ∀ (p : PyData), bT p → ∀ (q : PyData), bT q → (PyData.eqv p q = true ↔ p = q)
 | .int i, _, .int j, _ => by simp [PyData.eqv]
 | .str x, _, .str y, _ => by simp [PyData.eqv]
 | .tuple xs, hp, .tuple ys, hq => by
  rw [bT] at hp hq
  rw [PyData.eqv, eqvs_sim xs hp ys hq]
  simp
 | .int i, _, .str y, _ => by simp [PyData.eqv]
 | .int i, _, .tuple y, _ => by simp [PyData.eqv]
 | .str i, _, .int y, _ => by simp [PyData.eqv]
 | .str i, _, .tuple y, _ => by simp [PyData.eqv]
 | .tuple i, _, .int y, _ => by simp [PyData.eqv]
 | .tuple i, _, .str y, _ => by simp [PyData.eqv]
 | .none, h, _, _ => by simp [bT] at h
 | .bool _, h, _, _ => by simp [bT] at h
 | .list _, h, _, _ => by simp [bT] at h
 | .dict _, h, _, _ => by simp [bT] at h
 | _, _, .none, h => by simp [bT] at h
 | _, _, .bool _, h => by simp [bT] at h
 | _, _, .list _, h => by simp [bT] at h
 | _, _, .dict _, h => by simp [bT] at h
theorem eqvs_sim : ∀ (xs : List PyData), SimPs xs → ∀ (ys : List PyData), SimPs ys → (PyData.eqvAll xs ys = true ↔ xs = ys)
 | [], _, [], _ => by simp [PyData.eqvAll]
 | [], _, y :: ys, _ => by simp [PyData.eqvAll]
 | x :: xs, _, [], _ => by simp [PyData.eqvAll]
 | x :: xs, hx, y :: ys, hy => by
  simp only [SimPs] at hx hy
  rw [PyData.eqvAll, af, AE x hx.1 y hy.1, eqvs_sim xs hx.2 ys hy.2, List.cons.injEq]
end
mutual
def bU : D → Prop
 | .int _ => True
 | .str z => tD z
 | .tup xs => SimDs xs
 | _ => False
def SimDs : List D → Prop
 | [] => True
 | x :: xs => bU x ∧ SimDs xs
end
mutual
theorem nY : ∀ (d : D) {f : Nat → Option PyData} {p : PyData}, bU d → d.cW f = some p → bT p
 | .int i, f, p, _, h1 => by
  simp only [D.cW, aa] at h1
  subst h1
  simp [bT]
 | .str i, f, p, s1, h1 => by
  simp only [D.cW, aa] at h1
  simp only [bU] at s1
  subst h1
  simp [bT, s1]
 | .tup i, f, p, s1, h1 => by
  simp only [D.cW, ab] at h1
  obtain ⟨ps, h1, rfl⟩ := h1
  simp only [bU] at s1
  simp only [bT]
  exact simps_of i s1 h1
 | .non, _, _, h, _ => by simp [bU] at h
 | .bl _, _, _, h, _ => by simp [bU] at h
 | .ty _, _, _, h, _ => by simp [bU] at h
 | .con _, _, _, h, _ => by simp [bU] at h
 | .lst _, _, _, h, _ => by simp [bU] at h
 | .fM _, _, _, h, _ => by simp [bU] at h
 | .i4 _, _, _, h, _ => by simp [bU] at h
 | .uA _ _, _, _, h, _ => by simp [bU] at h
 | .ref _, _, _, h, _ => by simp [bU] at h
theorem simps_of : ∀ (xs : List D) {f : Nat → Option PyData} {ps : List PyData}, SimDs xs → D.pysR f xs = some ps → SimPs ps
 | [], f, ps, _, h1 => by
  simp only [D.pysR, aa] at h1
  subst h1
  simp [SimPs]
 | x :: xs, f, ps, s1, h1 => by
  simp only [D.pysR] at h1
  split at h1
  ·rename_i p ps e1 e2
   cases h1
   simp only [SimDs] at s1
   simp only [SimPs]
   exact ⟨nY x s1.1 e1, simps_of xs s1.2 e2⟩
  ·cases h1
end
mutual
theorem DI : ∀ (d e : D) {f g : Nat → Option PyData} {p q : PyData}, bU d → bU e → d.cW f = some p → e.cW g = some q → bT p ∧ bT q ∧ (p = q ↔ d = e)
 | .int i, .int j, f, g, p, q, _, _, h1, h2 => by
  simp only [D.cW, aa] at h1 h2
  subst h1 h2
  simp [bT]
 | .str i, .str j, f, g, p, q, s1, s2, h1, h2 => by
  simp only [D.cW, aa] at h1 h2
  simp only [bU] at s1 s2
  subst h1 h2
  simp [bT, s1, s2]
 | .tup i, .tup j, f, g, p, q, s1, s2, h1, h2 => by
  simp only [D.cW, ab] at h1 h2
  obtain ⟨ps, h1, rfl⟩ := h1
  obtain ⟨qs, h2, rfl⟩ := h2
  simp only [bU] at s1 s2
  obtain ⟨a1, a2, a3⟩ := pys_sim i j s1 s2 h1 h2
  simp only [bT, PyData.tuple.injEq, D.tup.injEq]
  exact ⟨a1, a2, a3⟩
 | .int i, .str j, f, g, p, q, s1, s2, h1, h2 => by
  simp only [D.cW, aa] at h1 h2
  simp only [bU] at s1 s2
  subst h1 h2
  simp [bT, s2]
 | .str i, .int j, f, g, p, q, s1, s2, h1, h2 => by
  simp only [D.cW, aa] at h1 h2
  simp only [bU] at s1 s2
  subst h1 h2
  simp [bT, s1]
 | .tup i, .int j, f, g, p, q, s1, s2, h1, h2 => by
  simp only [D.cW, aa, ab] at h1 h2
  obtain ⟨ps, h1, rfl⟩ := h1
  subst h2
  simp only [bU] at s1 s2
  have a1 := simps_of i s1 h1
  simp [bT, a1]
 | .tup i, .str j, f, g, p, q, s1, s2, h1, h2 => by
  simp only [D.cW, aa, ab] at h1 h2
  obtain ⟨ps, h1, rfl⟩ := h1
  subst h2
  simp only [bU] at s1 s2
  have a1 := simps_of i s1 h1
  simp [bT, a1, s2]
 | .int i, .tup j, f, g, p, q, s1, s2, h1, h2 => by
  simp only [D.cW, aa, ab] at h1 h2
  obtain ⟨ps, h2, rfl⟩ := h2
  subst h1
  simp only [bU] at s1 s2
  have a1 := simps_of j s2 h2
  simp [bT, a1]
 | .str i, .tup j, f, g, p, q, s1, s2, h1, h2 => by
  simp only [D.cW, aa, ab] at h1 h2
  obtain ⟨ps, h2, rfl⟩ := h2
  subst h1
  simp only [bU] at s1 s2
  have a1 := simps_of j s2 h2
  simp [bT, a1, s1]
 | .non, _, _, _, _, _, h, _, _, _ => by simp [bU] at h
 | .bl _, _, _, _, _, _, h, _, _, _ => by simp [bU] at h
 | .ty _, _, _, _, _, _, h, _, _, _ => by simp [bU] at h
 | .con _, _, _, _, _, _, h, _, _, _ => by simp [bU] at h
 | .lst _, _, _, _, _, _, h, _, _, _ => by simp [bU] at h
 | .fM _, _, _, _, _, _, h, _, _, _ => by simp [bU] at h
 | .i4 _, _, _, _, _, _, h, _, _, _ => by simp [bU] at h
 | .uA _ _, _, _, _, _, _, h, _, _, _ => by simp [bU] at h
 | .ref _, _, _, _, _, _, h, _, _, _ => by simp [bU] at h
 | _, .non, _, _, _, _, _, h, _, _ => by simp [bU] at h
 | _, .bl _, _, _, _, _, _, h, _, _ => by simp [bU] at h
 | _, .ty _, _, _, _, _, _, h, _, _ => by simp [bU] at h
 | _, .con _, _, _, _, _, _, h, _, _ => by simp [bU] at h
 | _, .lst _, _, _, _, _, _, h, _, _ => by simp [bU] at h
 | _, .fM _, _, _, _, _, _, h, _, _ => by simp [bU] at h
 | _, .i4 _, _, _, _, _, _, h, _, _ => by simp [bU] at h
 | _, .uA _ _, _, _, _, _, _, h, _, _ => by simp [bU] at h
 | _, .ref _, _, _, _, _, _, h, _, _ => by simp [bU] at h
theorem pys_sim : ∀ (xs ys : List D) {f g : Nat → Option PyData} {ps qs : List PyData}, SimDs xs → SimDs ys → D.pysR f xs = some ps → D.pysR g ys = some qs → SimPs ps ∧ SimPs qs ∧ (ps = qs ↔ xs = ys)
 | [], [], f, g, ps, qs, s1, s2, h1, h2 => by
  simp only [D.pysR, aa] at h1 h2
  subst h1 h2
  simp [SimPs]
 | x :: xs, [], f, g, ps, qs, s1, s2, h1, h2 => by
  simp only [D.pysR, aa] at h1 h2
  subst h2
  split at h1
  ·rename_i p ps e1 e2
   cases h1
   simp only [SimDs] at s1
   have a1 := nY x s1.1 e1
   have b1 := simps_of xs s1.2 e2
   simp [SimPs, a1, b1]
  ·cases h1
 | [], y :: ys, f, g, ps, qs, s1, s2, h1, h2 => by
  simp only [D.pysR, aa] at h1 h2
  subst h1
  split at h2
  ·rename_i p ps e1 e2
   cases h2
   simp only [SimDs] at s2
   have a1 := nY y s2.1 e1
   have b1 := simps_of ys s2.2 e2
   simp [SimPs, a1, b1]
  ·cases h2
 | x :: xs, y :: ys, f, g, ps, qs, s1, s2, h1, h2 => by
  simp only [D.pysR] at h1 h2
  split at h1
  ·split at h2
   ·rename_i p ps e1 e2 _ _ q qs e3 e4
    cases h1
    cases h2
    simp only [SimDs] at s1 s2
    obtain ⟨a1, a2, a3⟩ := DI x y s1.1 s2.1 e1 e3
    obtain ⟨b1, b2, b3⟩ := pys_sim xs ys s1.2 s2.2 e2 e4
    exact ⟨⟨a1, b1⟩, ⟨a2, b2⟩, by rw [List.cons.injEq, List.cons.injEq, a3, b3]⟩
   ·cases h2
  ·cases h1
end
section
variable {w : W} {d e : D} {u v : PyData}
theorem SimDs.all : ∀ {xs : List D}, (∀ x ∈ xs, bU x) → SimDs xs
 | [], _ => by simp only [SimDs]
 | x :: xs, h => by
  simp only [SimDs]
  exact ⟨h x (ao ..), SimDs.all fun y hy => h y (au _ hy)⟩
end
mutual
/-- plain things, empty dicts among them -/
def cG : PyData → Bool
 | .none | .bool _ => true
 | .int i => decide (i.natAbs < 10 ^ 40)
 | .str x => PyData.strOk (reprText x) && PyData.strOk x && PyData.leavesShort 60 (.str x) && decide (x.length ≤ 100)
 | .list xs | .tuple xs => plainXs xs
 | .dict kvs => kvs.isEmpty
def plainXs : List PyData → Bool
 | [] => true
 | x :: xs => cG x && plainXs xs
end
mutual
theorem nD : ∀ p : PyData, cG p = true → PyData.strOk p.shown = true
 | .none, _ => dU _
 | .bool b, _ => by cases b <;> exact dU _
 | .int i, _ => dU _
 | .str x, h => by
  simp only [cG, af] at h
  exact h.1.1.1
 | .list xs, h => by
  rw [cG] at h
  show PyData.strOk (textFrom 0 "[" (PyData.shownAll xs) ++ "]") = true
  rw [fI, gH _ _ _ (dU _) (plainXs_shown xs h), dU]
  rfl
 | .tuple xs, h => by
  rw [cG] at h
  show PyData.strOk (tupleText (PyData.shownAll xs)) = true
  unfold tupleText
  rw [fI, fI, dU, n9 _ (dU _) _ (plainXs_shown xs h)]
  split <;> rw [dU] <;> rfl
 | .dict [], _ => by decide +kernel
 | .dict (_ :: _), h => by simp [cG] at h
theorem plainXs_shown : ∀ ps : List PyData, plainXs ps = true → ∀ t ∈ PyData.shownAll ps, PyData.strOk t = true
 | [], _, t, ht => by simp [PyData.shownAll] at ht
 | p :: ps, h, t, ht => by
  simp only [plainXs, af] at h
  simp only [PyData.shownAll, List.mem_cons] at ht
  rcases ht with rfl | ht
  ·exact nD p h.1
  ·exact plainXs_shown ps h.2 t ht
end
mutual
theorem rX : ∀ p : PyData, cG p = true → p.leavesShort 60 = true ∧ p.showable = true
 | .none, _ => by simp [PyData.leavesShort, PyData.showable]
 | .bool b, _ => by simp [PyData.leavesShort, PyData.showable]
 | .int i, h => by
  simp only [cG, ak] at h
  exact ⟨m5 h, o8 h⟩
 | .str x, h => by
  simp only [cG, af] at h
  exact ⟨h.1.2, by simp [PyData.showable]⟩
 | .list xs, h => by
  rw [cG] at h
  have := plainXs_all xs h
  simp only [PyData.leavesShort, PyData.showable]
  exact this
 | .tuple xs, h => by
  rw [cG] at h
  have := plainXs_all xs h
  simp only [PyData.leavesShort, PyData.showable]
  exact this
 | .dict [], _ => by decide +kernel
 | .dict (_ :: _), h => by simp [cG] at h
theorem plainXs_all : ∀ p : List PyData, plainXs p = true → PyData.leavesShortAll 60 p = true ∧ PyData.showableAll p = true
 | [], _ => by simp [PyData.leavesShortAll, PyData.showableAll]
 | p :: ps, h => by
  simp only [plainXs, af] at h
  obtain ⟨a1, a2⟩ := rX p h.1
  obtain ⟨b1, b2⟩ := plainXs_all ps h.2
  simp only [PyData.leavesShortAll, PyData.showableAll, a1, a2, b1, b2]
  simp
end
mutual
theorem mS : ∀ p : PyData, bJ p = true → cG p = true
 | .none, _ => rfl
 | .bool b, _ => rfl
 | .int i, h => by rw [bJ] at h; rw [cG]; exact h
 | .str x, h => by rw [bJ] at h; rw [cG]; exact h
 | .list xs, h => by rw [bJ] at h; rw [cG]; exact plainXs_of xs h
 | .tuple xs, h => by rw [bJ] at h; rw [cG]; exact plainXs_of xs h
 | .dict _, h => by simp [bJ] at h
theorem plainXs_of : ∀ p : List PyData, plainPs p = true → plainXs p = true
 | [], _ => rfl
 | p :: ps, h => by
  simp only [plainPs, af] at h
  simp only [plainXs, mS p h.1, plainXs_of ps h.2, Bool.and_self]
end
structure G3 (p : PyData) : Prop where
 plain : cG p = true
 bulk : p.bulk ≤ 200000
 deep : p.depth ≤ 40
theorem z6.x {p : PyData} (h : z6 p) : G3 p := ⟨mS p h.plain, h.bulk, h.deep⟩
mutual
theorem C6 {f g : Nat → Option PyData} (hfg : ∀ i p, f i = some p → g i = some p) : ∀ (d : D) {p : PyData}, d.cW f = some p → d.cW g = some p
 | .non, _, h => by simpa only [D.cW] using h
 | .bl _, _, h => by simpa only [D.cW] using h
 | .int _, _, h => by simpa only [D.cW] using h
 | .str _, _, h => by simpa only [D.cW] using h
 | .ty _, _, h => by simp [D.cW] at h
 | .con _, _, h => by simp [D.cW] at h
 | .uA _ _, _, h => by simp [D.cW] at h
 | .ref i, _, h => by
  simp only [D.cW] at h ⊢
  exact hfg i _ h
 | .tup xs, _, h => by
  simp only [D.cW, ab] at h ⊢
  obtain ⟨ps, h1, h2⟩ := h
  exact ⟨ps, pysR_le hfg xs h1, h2⟩
 | .i4 xs, _, h => by
  simp only [D.cW, ab] at h ⊢
  obtain ⟨ps, h1, h2⟩ := h
  exact ⟨ps, pysR_le hfg xs h1, h2⟩
 | .lst xs, _, h => by
  simp only [D.cW, ab] at h ⊢
  obtain ⟨ps, h1, h2⟩ := h
  exact ⟨ps, pysR_le hfg xs h1, h2⟩
 | .fM xs, _, h => by
  simp only [D.cW, ab] at h ⊢
  obtain ⟨ps, h1, h2⟩ := h
  exact ⟨ps, pysR_le hfg xs h1, h2⟩
theorem pysR_le {f g : Nat → Option PyData} (hfg : ∀ i p, f i = some p → g i = some p) : ∀ (ds : List D) {ps : List PyData}, D.pysR f ds = some ps → D.pysR g ds = some ps
 | [], _, h => by simpa only [D.pysR] using h
 | d :: ds, _, h => by
  simp only [D.pysR] at h ⊢
  split at h
  ·rename_i p ps e1 e2
   rw [C6 hfg d e1, pysR_le hfg ds e2]
   exact h
  ·cases h
end
end Lw
namespace Lw
open PySem PySem.Spec PyProof.Rows L2 Pc Lb
def C0 (h : Nat) (s : t9) (a v : Nat) : List Nat := (xI h s v).filter fun c => EJ (AB s a c)
inductive Mark where
 | one (a v : Nat) | two (a v c d : Nat)
def Mark.a : Mark → Nat
 | .one a _ => a
 | .two a _ _ _ => a
def Mark.v : Mark → Nat
 | .one _ v => v
 | .two _ v _ _ => v
def Mark.key : Mark → List Key
 | .one a v => [.inl (a : Nat), .inl (v : Nat)]
 | .two a v c d => [.inl (a : Nat), .inl (v : Nat), .inl (c : Nat), .inl (d : Nat)]
def Mark.hold (h : Nat) (s : t9) : Mark → Prop
 | .one a v => xI h s v ≠ [] ∧ C0 h s a v = []
 | .two a v c d => c ∈ C0 h s a v ∧ d ∈ C0 h s a v ∧ c ≠ d
section
variable {m : Mo} {b : Int} {h Q : Nat} {x : Wx} {ts : List xJ} {u : xJ} {a v c d t : Nat} {mk : Mark} {s1 s2 : t9} {ds : List kA} {ls : List yM}
def Mark.most (m : Mo) (b : Int) (h : Nat) : Mark → Nat
 | .one _ _ => FR m b h
 | .two _ _ _ _ => EF m
end
section
variable {w : W} {P : D → W → Prop} {PU : Unit → W → Prop} {F C : Nat} {kvs : List (List Key × D)} {ks : List Key} {d : D}
def uU (xs : List Int) : PyData := .tuple (xs.map PyData.int)
theorem j2 : ∀ xs ys : List Int, PyData.eqvAll (xs.map PyData.int) (ys.map PyData.int) = decide (xs = ys)
 | [], [] => by simp [PyData.eqvAll]
 | [], y :: ys => by simp [PyData.eqvAll]
 | x :: xs, [] => by simp [PyData.eqvAll]
 | x :: xs, y :: ys => by
  have ih := j2 xs ys
  simp only [List.map_cons, PyData.eqvAll, PyData.eqv, ih]
  by_cases h : x = y <;> simp [h]
theorem x8 {xs ys : List Int} : PyData.eqv (uU xs) (uU ys) = decide (xs = ys) := by
 unfold uU
 rw [PyData.eqv, j2]
theorem mT : ∀ xs : List Int, PyData.canLayAll0 (xs.map PyData.int) = true
 | [] => rfl
 | p :: ps => by simp [PyData.canLayAll0, PyData.canLay0, mT ps]
theorem mW : ∀ xs : List Int, PyData.depthAll (xs.map PyData.int) ≤ 1
 | [] => by simp [PyData.depthAll]
 | p :: ps => by
  have := mW ps
  simp only [List.map_cons, PyData.depthAll, PyData.depth] at *
  omega
theorem yD (xs : List Int) : SeqAt.shaped (uU xs) = true := by
 have h1 := mT xs
 have h2 := mW xs
 unfold SeqAt.shaped uU
 simp [PyData.canLay0, PyData.depth, h1]
 omega
theorem xE {xs : List Int} : (jK xs).py w = some (uU xs) := by
 show (D.pysR _ (xs.map D.int)).map PyData.tuple = _
 rw [qP]
 rfl
end
end Lw
namespace K09
open PySem PySem.Spec PyProof.Rows L2 Pc
structure Fx (S : aV) where
 k : bB
 oY : S.mg ("len" : Str) = none
 yE : S.mg ("list" : Str) = none
 iX : S.mg ("range" : Str) = none
 rH : S.mg ("repr" : Str) = none
 pY : S.mg ("sorted" : Str) = none
 BB : S.mg ("sum" : Str) = none
 dX : Addr
 fC : FuncData
 gW : FunD S.K ("_law_deck" : Str) ("_law_deck" : Str) (defArgs (top 3)) (defBody (top 3)) (defScope (top 3)) [] [] dX fC
 j8 : S.mg ("_law_deck" : Str) = some (.ref dX)
 i7 : PySem.W.keepIn S.K (.ref dX) = true
 dS : Addr
 eW : FuncData
 gM : FunD S.K ("_law_draw" : Str) ("_law_draw" : Str) (defArgs (top 4)) (defBody (top 4)) (defScope (top 4)) [] [] dS eW
 c5 : S.mg ("_law_draw" : Str) = some (.ref dS)
 cR : PySem.W.keepIn S.K (.ref dS) = true
 dR : Addr
 e9 : FuncData
 gT : FunD S.K ("_law_pick" : Str) ("_law_pick" : Str) (defArgs (top 5)) (defBody (top 5)) (defScope (top 5)) [] [] dR e9
 jV : S.mg ("_law_pick" : Str) = some (.ref dR)
 iW : PySem.W.keepIn S.K (.ref dR) = true
 eD : Addr
 i6 : FuncData
 fU : FunD S.K ("_law_place" : Str) ("_law_place" : Str) (defArgs (top 9)) (defBody (top 9)) (defScope (top 9)) [] [] eD i6
 iY : S.mg ("_law_place" : Str) = some (.ref eD)
 mB : PySem.W.keepIn S.K (.ref eD) = true
 eQ : Addr
 f5 : FuncData
 iD : FunD S.K ("_law_due" : Str) ("_law_due" : Str) (defArgs (top 6)) (defBody (top 6)) (defScope (top 6)) [] [] eQ f5
 lG : S.mg ("_law_due" : Str) = some (.ref eQ)
 jU : PySem.W.keepIn S.K (.ref eQ) = true
 eP : Addr
 eK : FuncData
 gB : FunD S.K ("is_ahead" : Str) ("is_ahead" : Str) (defArgs (top 1)) (defBody (top 1)) (defScope (top 1)) [] [] eP eK
 cA : S.mg ("is_ahead" : Str) = some (.ref eP)
 bS : PySem.W.keepIn S.K (.ref eP) = true
 dA : Addr
 eE : FuncData
 fW : FunD S.K ("_law_right" : Str) ("_law_right" : Str) (defArgs (top 7)) (defBody (top 7)) (defScope (top 7)) [] [] dA eE
 fS : S.mg ("_law_right" : Str) = some (.ref dA)
 fK : PySem.W.keepIn S.K (.ref dA) = true
 bY : Addr
 cS : FuncData
 dI : FunD S.K ("_law_lot_right" : Str) ("_law_lot_right" : Str) (defArgs (top 8)) (defBody (top 8)) (defScope (top 8)) [] [] bY cS
 fQ : S.mg ("_law_lot_right" : Str) = some (.ref bY)
 eZ : PySem.W.keepIn S.K (.ref bY) = true
 m8 : Addr
 tX : FuncData
 AF : FunD S.K ("law" : Str) ("law" : Str) (defArgs (top 10)) (defBody (top 10)) (defScope (top 10)) [] [] m8 tX
 A6 : S.mg ("law" : Str) = some (.ref m8)
 CZ : PySem.W.keepIn S.K (.ref m8) = true
def gK : List Str := [("_law_script" : Str), ("_law_some" : Str), ("_law_cell" : Str)]
def gQ : List Str := [("_law_script" : Str)]
abbrev jX : Scope := defScope (top 3)
def j9 (k : bB) : MS :=
 (aG (aK (m9 rM (aO lB (aA (kL j0 (aB 0) cU (cE (eC (.int 63)))) aD))) (aN 1))
 (aT (eNew (aA (aB 1) (aA (aC a8 (aO pB (aA (bA (bX (aB 1)) [2] (aN 2) bG (aC dE (aB 2) (eC (.int 2147483629)))) aD)) (aC mulM (eC (.int 13)) (aO cF (aA (aB 1) aD)))) (aA (eC (.int 0)) aD))))))
def gJ (k : bB) : MF := aZ (j9 k) gK
theorem nH : FnScope gK gQ jX := c9 (by decide +kernel)
theorem oV {S : aV} (h : Fx S) : oW (S.body 0 gK jX) (defBody (top 3)) (j9 h.k) :=
 (aY (xY 1 (zS (vU zV rfl h.yE rfl (aI (EO D3 (jv 0) z7 (z8 aQ)) aW))))
 (bI (c0 (CM (aI (jv 1) (aI (bC fH (eI CP rfl h.BB rfl (aI (n3 (own := [(("_law_cell" : Str), 2)]) (iC (jv 1)) (by kernel_rfl) (DP 2) tR (bC iB (jv 2) aQ)) aW)) (bC iI aQ (eI nC rfl h.oY rfl (aI (jv 1) aW)))) (aI aQ aW)))))))
theorem nX {S : aV} (h : Fx S) : h8 S.P S.w S.K S.mg S.base 1 h.dX h.fC gQ (gJ h.k) := h8.of h.gW nH (oV h) fun _ _ _ => .nW
theorem oS {S : aV} (h : Fx S) : dY S.K h.fC gQ 1 [] aM := dN h.gW fun _ _ _ _ _ _ us hl => match us, hl with
 | [_], _ => rfl
def gS : List Str := [("_law_deck_here" : Str), ("_law_size" : Str), ("_law_cell" : Str), ("_law_number" : Str)]
def gI : List Str := [("_law_deck_here" : Str), ("_law_size" : Str)]
abbrev jR : Scope := defScope (top 4)
def jZ (k : bB) : MS :=
 (aG (aK (aC a8 (aC aL (aB 0) (eC (.int 2))) (eC (.int 1))) (bK (aB 0) (eC (.int 2))))
 (aG (aK (aC aL (aB 0) (eC (.int 1))) (aN 2))
 (aG (b6 (aR (aC f7 (aC aL (aB 0) (eC (.int 0))) (iF aD))) (aG (aK (bF "list" sC (aC aL (aB 0) (eC (.int 0))) aD) (aN 2))
 (b6 (aR (aC yK (aB 2) (aC wO (eC (.int 10)) (eC (.int 18))))) (aG (bH (bF "list" bD (aC aL (aB 0) (eC (.int 0))) (aA (aC dZ (aB 2) (aB 1)) aD)))
 (aT (aC dE (aB 2) (aB 1)))) aP)) aP)
 (aG (aK (aC dE (aC mulM (aC a8 (aC a8 (aC dE (aB 2) (eC (.int 2147483629))) (aC mulM (eC (.int 15485863)) (aC aL (aB 0) (eC (.int 2))))) (eC (.int 5))) (eC (.int 48271))) (eC (.int 2147483647))) (aN 3))
 (aG (aK (aC dE (aC a8 (aC a8 (aC mulM (aB 3) (aB 3)) (aC mulM (eC (.int 69621)) (aB 3))) (aC aL (aB 0) (eC (.int 2)))) (eC (.int 2147483587))) (aN 3))
 (aT (aC dE (aC dZ (aC dE (aC mulM (aB 3) (aC a8 (aC dZ (aB 3) (eC (.int 7))) (eC (.int 39373)))) (eC (.int 2147483563))) (eC (.int 64))) (aB 1))))))))
def cJ (k : bB) : MF := aZ (jZ k) gS
theorem nT : FnScope gS gI jR := c9 (by decide +kernel)
theorem nF {S : aV} (h : Fx S) : oW (S.body 0 gS jR) (defBody (top 4)) (jZ h.k) :=
 (aY (r8 (bC fH (eM (jv 0) aQ) aQ) (CL (jv 0) aQ))
 (aY (xY 2 (eM (jv 0) aQ))
 (aY (j1 (iA lF (eM (jv 0) aQ) (jI aW)) (aY (xY 2 (xC PySem.F.plainAttrs_list PySem.F.slot_list_pop B2 (eM (jv 0) aQ)))
 (bI (j1 (iA E8 (jv 2) (bC C7 aQ aQ)) (aY (z3 (y3 PySem.F.plainAttrs_list PySem.F.slot_list_append vD (eM (jv 0) aQ) (aI (bC n8 (jv 2) (jv 1)) aW)))
 (bI (c0 (bC iB (jv 2) (jv 1))))) eX))) eX)
 (aY (xY 3 (bC iB (bC iI (bC fH (bC fH (bC iB (jv 2) aQ) (bC iI aQ (eM (jv 0) aQ))) aQ) aQ) aQ))
 (aY (xY 3 (bC iB (bC fH (bC fH (bC iI (jv 3) (jv 3)) (bC iI aQ (jv 3))) (eM (jv 0) aQ)) aQ))
 (bI (c0 (bC iB (bC n8 (bC iB (bC iI (jv 3) (bC fH (bC n8 (jv 3) aQ) aQ)) aQ) aQ) (jv 1)))))))))
theorem dB {S : aV} (h : Fx S) : h8 S.P S.w S.K S.mg S.base 1 h.dS h.eW gI (cJ h.k) := h8.of h.gM nT (nF h) fun _ _ _ => .nW
theorem c8 {S : aV} (h : Fx S) : dY S.K h.eW gI 2 [] aM := dN h.gM fun _ _ _ _ _ _ us hl => match us, hl with
 | [_, _], _ => rfl
def gZ : List Str := [("_law_deck_here" : Str), ("_law_some" : Str)]
def gP : List Str := [("_law_deck_here" : Str), ("_law_some" : Str)]
abbrev j7 : Scope := defScope (top 5)
def j6 (k : bB) : MS :=
 (aT (aC aL (aB 1) (aH (cJ k) 2 aM (aA (aB 0) (aA (aO cF (aA (aB 1) aD)) aD)))))
def g0 (k : bB) : MF := aZ (j6 k) gZ
theorem oB : FnScope gZ gP j7 := c9 (by decide +kernel)
theorem oE {S : aV} (h : Fx S) : oW (S.body 1 gZ j7) (defBody (top 5)) (j6 h.k) :=
 (bI (c0 (eM (jv 1) (bQ (ag rfl) (dB h) (c8 h) rfl h.c5 h.cR (aI (jv 0) (aI (eI nC rfl h.oY rfl (aI (jv 1) aW)) aW))))))
theorem nM {S : aV} (h : Fx S) : h8 S.P S.w S.K S.mg S.base 2 h.dR h.e9 gP (g0 h.k) := h8.of h.gT oB (oE h) fun _ _ _ => .nW
theorem nP {S : aV} (h : Fx S) : dY S.K h.e9 gP 2 [] aM := dN h.gT fun _ _ _ _ _ _ us hl => match us, hl with
 | [_, _], _ => rfl
def nS : List Str := [("_law_here" : Str)]
def nL : List Str := [("_law_here" : Str)]
abbrev n7 : Scope := defScope (top 9)
theorem l7 : FnScope nS nL n7 := c9 (by decide +kernel)
def fV : List Str := [("_law_here" : Str), ("_law_another" : Str)]
def iH : List Str := [("_law_here" : Str), ("_law_another" : Str)]
abbrev lH : Scope := defScope (top 6)
def iJ (k : bB) : MS :=
 (aT (AM (aC oX (aC aL (aB 0) (eC (.int 0))) (aC aL (aB 1) (eC (.int 0)))) (gE (aC cX (aC aL (aB 0) (eC (.int 0))) (aC aL (aB 1) (eC (.int 0)))) (aC sL (aC aL (aB 0) (eC (.int 1))) (aC aL (aB 1) (eC (.int 1)))))))
def f9 (k : bB) : MF := aZ (iJ k) fV
theorem pW : FnScope fV iH lH := c9 (by decide +kernel)
theorem qW {S : aV} (h : Fx S) : oW (S.body 0 fV lH) (defBody (top 6)) (iJ h.k) :=
 (bI (c0 (xV (eA BA (eM (jv 0) aQ) (eM (jv 1) aQ)) (iM (nK (eA q7 (eM (jv 0) aQ) (eM (jv 1) aQ)) (iM (eA AK (eM (jv 0) aQ) (eM (jv 1) aQ))))))))
theorem qU {S : aV} (h : Fx S) : h8 S.P S.w S.K S.mg S.base 1 h.eQ h.f5 iH (f9 h.k) := h8.of h.iD pW (qW h) fun _ _ _ => .nW
theorem qK {S : aV} (h : Fx S) : dY S.K h.f5 iH 2 [] aM := dN h.iD fun _ _ _ _ _ _ us hl => match us, hl with
 | [_, _], _ => rfl
def dJ : List Str := [("one" : Str), ("other" : Str), ("rank" : Str), ("number" : Str), ("other_rank" : Str), ("other_number" : Str)]
def f3 : List Str := [("one" : Str), ("other" : Str)]
abbrev lM : Scope := defScope (top 1)
def eN (k : bB) : MS :=
 (aG (aK (aB 0) (a9 2 (aE (aN 2) (aE (aN 3) a5))))
 (aG (aK (aB 1) (a9 2 (aE (aN 4) (aE (aN 5) a5))))
 (aT (AM (aC oX (aB 2) (aB 4)) (gE (aC cX (aB 2) (aB 4)) (aC sL (aB 3) (aB 5)))))))
def bE (k : bB) : MF := aZ (eN k) dJ
theorem qJ : FnScope dJ f3 lM := c9 (by decide +kernel)
theorem qG {S : aV} (h : Fx S) : oW (S.body 0 dJ lM) (defBody (top 1)) (eN h.k) :=
 (aY (r8 (jv 0) (vP (n := 2) (jC (yW 2) (jC (yW 3) tJ))))
 (aY (r8 (jv 1) (vP (n := 2) (jC (yW 4) (jC (yW 5) tJ))))
 (bI (c0 (xV (eA BA (jv 2) (jv 4)) (iM (nK (eA q7 (jv 2) (jv 4)) (iM (eA AK (jv 3) (jv 5))))))))))
theorem b7 {S : aV} (h : Fx S) : h8 S.P S.w S.K S.mg S.base 1 h.eP h.eK f3 (bE h.k) := h8.of h.gB qJ (qG h) fun _ _ _ => .nW
theorem cK {S : aV} (h : Fx S) : dY S.K h.eK f3 2 [] aM := dN h.gB fun _ _ _ _ _ _ us hl => match us, hl with
 | [_, _], _ => rfl
abbrev cC (k : bB) : List D → List D → List D := pick [(true, 1), (true, 0)]
theorem fN {S : aV} (h : Fx S) : dY S.K h.eK f3 0 [("other" : Str), ("one" : Str)] (cC h.k) := uO h.gB 0 _ _ (fun _ _ _ _ _ _ us ws h1 h2 => match us, ws, h1, h2 with
 | [], [_, _], _, _ => rfl) fun xs zs h1 h2 => match xs, zs, h1, h2 with
 | [], [_, _], _, _ => rfl
def cP : List Str := [("_law_here" : Str), ("_law_another" : Str), ("_law_due_here" : Str), ("_law_found" : Str)]
def fY : List Str := [("_law_here" : Str), ("_law_another" : Str)]
abbrev iO : Scope := defScope (top 7)
def dC (k : bB) : MS :=
 (aG (aK (aH (f9 k) 2 aM (aA (aB 0) (aA (aB 1) aD))) (aN 2))
 (aG (aK (iF (aA (aH (bE k) 2 aM (aA (aB 0) (aA (aB 1) aD))) (aA (jL (bE k) 0 2 (cC k) aD (aA (aB 1) (aA (aB 0) aD))) (aA (aH (bE k) 2 aM (aA (aB 0) (aA (aB 1) aD))) aD)))) (aN 3))
 (aG (b6 (aR (aC f7 (aO hV (aA (aB 3) aD)) (aO hV (aA (aC mulM (iF (aA (aB 2) aD)) (eC (.int 3))) aD)))) (aT (eC (.bl false))) aP)
 (aT (AM (gE (aC cX (aB 0) (aB 1)) (aC DR (aB 2) (eC (.bl false)))) (gE (aC f7 (aB 0) (aB 1)) (aC f7 (aH (bE k) 2 aM (aA (aB 1) (aA (aB 0) aD))) (aB 2))))))))
def cM (k : bB) : MF := aZ (dC k) cP
theorem mQ : FnScope cP fY iO := c9 (by decide +kernel)
theorem mM {S : aV} (h : Fx S) : oW (S.body 1 cP iO) (defBody (top 7)) (dC h.k) :=
 (aY (xY 2 (bQ (ag rfl) (qU h) (qK h) rfl h.lG h.jU (aI (jv 0) (aI (jv 1) aW))))
 (aY (xY 3 (jI (aI (bQ (ag rfl) (b7 h) (cK h) rfl h.cA h.bS (aI (jv 0) (aI (jv 1) aW))) (aI (HA (ag rfl) (b7 h) (fN h) rfl h.cA h.bS (tE (jv 1) (tE (jv 0) DL))) (aI (bQ (ag rfl) (b7 h) (cK h) rfl h.cA h.bS (aI (jv 0) (aI (jv 1) aW))) aW)))))
 (aY (j1 (iA lF (eI tZ rfl h.rH rfl (aI (jv 3) aW)) (eI tZ rfl h.rH rfl (aI (bC iI (jI (aI (jv 2) aW)) aQ) aW))) (bI (c0 h9)) eX)
 (bI (c0 (xV (nK (eA q7 (jv 0) (jv 1)) (iM (eA EG (jv 2) h9))) (iM (nK (eA lF (jv 0) (jv 1)) (iM (eA lF (bQ (ag rfl) (b7 h) (cK h) rfl h.cA h.bS (aI (jv 1) (aI (jv 0) aW))) (jv 2)))))))))))
theorem hU {S : aV} (h : Fx S) : h8 S.P S.w S.K S.mg S.base 2 h.dA h.eE fY (cM h.k) := h8.of h.fW mQ (mM h) fun _ _ _ => .nW
theorem hR {S : aV} (h : Fx S) : dY S.K h.eE fY 2 [] aM := dN h.fW fun _ _ _ _ _ _ us hl => match us, hl with
 | [_, _], _ => rfl
def cN : List Str := [("_law_deck_here" : Str), ("_law_many" : Str), ("_law_low" : Str), ("_law_lot" : Str), ("_law_best" : Str), ("_law_here" : Str), ("_law_beaten" : Str), ("_law_another" : Str), ("_law_further" : Str), ("_law_number" : Str), ("_law_there" : Str)]
def dM : List Str := [("_law_deck_here" : Str), ("_law_many" : Str)]
abbrev fO : Scope := defScope (top 8)
def dP (k : bB) : MS :=
 (aG (aK (aH (g0 k) 2 aM (aA (aB 0) (aA (iF (aA (eC (.int 1)) (aA (eC (.int 8)) (aA (eC (.int 9)) (aA (eC (.int 10)) (aA (eC (.int 12)) aD)))))) aD))) (aN 2))
 (aG (aK (bA (cD eV (aA (aB 1) aD)) [9] (aN 9) bG (a6 (aA (aC a8 (aB 2) (aH (cJ k) 2 aM (aA (aB 0) (aA (aC eH (eC (.int 13)) (aB 2)) aD)))) (aA (aB 9) aD)))) (aN 3))
 (aG (aK (aC aL (m9 jJ (aB 3)) (eC (.int 0))) (aN 4))
 (aG (cV (bX (aB 3)) (aN 5) (aG (aK (bA (bX (aB 3)) [7] (aN 7) (dD (aH (bE k) 2 aM (aA (aB 5) (aA (aB 7) aD)))) (aB 7)) (aN 6))
 (b6 (aR (aC f7 (aC cX (aO cF (aA (aB 6) aD)) (aC eH (aO cF (aA (aB 3) aD)) (eC (.int 1)))) (aC cX (aB 5) (aB 4)))) (aT (eC (.bl false))) aP)))
 (aG (cV (bX (aB 3)) (aN 5) (cV (bX (aB 3)) (aN 7) (aG (b6 (c6 (dD (aH (cM k) 2 aM (aA (aB 5) (aA (aB 7) aD))))) (aT (eC (.bl false))) aP)
 (aG (aK (bA (bX (aB 3)) [10] (aN 10) (cZ (dD (aH (bE k) 2 aM (aA (aB 5) (aA (aB 7) aD)))) (dD (aH (bE k) 2 aM (aA (aB 7) (aA (aB 10) aD))))) (aB 10)) (aN 8))
 (b6 (aR (aC f7 (bA (bX (aB 8)) [10] (aN 10) (aR (aC lU (aH (bE k) 2 aM (aA (aB 5) (aA (aB 10) aD))) (eC (.bl true)))) (aB 10)) (iF aD))) (aT (eC (.bl false))) aP)))))
 (aT (eC (.bl true))))))))
def cQ (k : bB) : MF := aZ (dP k) cN
theorem jD : FnScope cN dM fO := c9 (by decide +kernel)
theorem jF {S : aV} (h : Fx S) : oW (S.body 2 cN fO) (defBody (top 8)) (dP h.k) :=
 (aY (xY 2 (bQ (ag rfl) (nM h) (nP h) rfl h.jV h.iW (aI (jv 0) (aI (jI (aI aQ (aI aQ (aI aQ (aI aQ (aI aQ aW)))))) aW))))
 (aY (GH 3 (own := [(("_law_number" : Str), 9)]) (jN rfl h.iX (aI (jv 1) aW)) (by kernel_rfl) (DP 9) tR (sM (aI (bC fH (jv 2) (bQ (ag rfl) (dB h) (c8 h) rfl h.c5 h.cR (aI (jv 0) (aI (bC xH aQ (jv 2)) aW)))) (aI (jv 9) aW))))
 (aY (xY 4 (eM (x7 (ag rfl) h.fU l7 rfl (.inl rfl) rfl rfl (fun _ => rfl) (L2.FunD.bindsA (ps := [("_law_here" : Str)]) h.fU fun _ _ _ _ _ _ us hl => match us, hl with
 | [_], _ => rfl) rfl h.pY rfl h.iY (jv 3)) aQ))
 (aY (k0 (iC (jv 3)) (yW 5) (aY (GH 6 (own := [(("_law_another" : Str), 7)]) (iC (jv 3)) (by kernel_rfl) (DP 7) (kM (fP (bQ (ag rfl) (b7 h) (cK h) rfl h.cA h.bS (aI (jv 5) (aI (jv 7) aW))))) (jv 7))
 (bI (j1 (iA lF (eA q7 (eI nC rfl h.oY rfl (aI (jv 6) aW)) (bC xH (eI nC rfl h.oY rfl (aI (jv 3) aW)) aQ)) (eA q7 (jv 5) (jv 4))) (bI (c0 h9)) eX))))
 (aY (k0 (iC (jv 3)) (yW 5) (bI (k0 (iC (jv 3)) (yW 7) (aY (j1 (sF (fP (bQ (ag rfl) (hU h) (hR h) rfl h.fS h.fK (aI (jv 5) (aI (jv 7) aW))))) (bI (c0 h9)) eX)
 (aY (GH 8 (own := [(("_law_there" : Str), 10)]) (iC (jv 3)) (by kernel_rfl) (DP 10) (kM (GP (BY (fP (bQ (ag rfl) (b7 h) (cK h) rfl h.cA h.bS (aI (jv 5) (aI (jv 7) aW)))) (zR (fP (bQ (ag rfl) (b7 h) (cK h) rfl h.cA h.bS (aI (jv 7) (aI (jv 10) aW)))))))) (jv 10))
 (bI (j1 (iA lF (n3 (own := [(("_law_there" : Str), 10)]) (iC (jv 8)) (by kernel_rfl) (DP 10) (kM (iA w7 (bQ (ag rfl) (b7 h) (cK h) rfl h.cA h.bS (aI (jv 5) (aI (jv 10) aW))) h9)) (jv 10)) (jI aW)) (bI (c0 h9)) eX)))))))
 (bI (c0 h9)))))))
theorem iT {S : aV} (h : Fx S) : h8 S.P S.w S.K S.mg S.base 3 h.bY h.cS dM (cQ h.k) := h8.of h.dI jD (jF h) fun _ _ _ => .nW
theorem i9 {S : aV} (h : Fx S) : dY S.K h.cS dM 2 [] aM := dN h.dI fun _ _ _ _ _ _ us hl => match us, hl with
 | [_, _], _ => rfl
def tM : List Str := [("_law_script" : Str), ("_law_deck_here" : Str), ("_law_turn" : Str), ("_law_here" : Str), ("_law_rank" : Str), ("_law_number" : Str)]
def AR : List Str := [("_law_script" : Str)]
abbrev A7 : Scope := defScope (top 10)
def v8 (k : bB) : MS :=
 (aG (aK (aH (gJ k) 1 aM (aA (aB 0) aD)) (aN 1))
 (aG (cV (cD eV (aA (eC (.int 4)) aD)) (aN 2) (aG (aK (a6 (aA (aC a8 (eC (.int 1)) (aH (cJ k) 2 aM (aA (aB 1) (aA (eC (.int 12)) aD)))) (aA (aH (cJ k) 2 aM (aA (aB 1) (aA (eC (.int 6)) aD))) aD))) (aN 3))
 (aG (cV (cD uL (aA (eC (.int 1)) (aA (eC (.int 13)) aD))) (aN 4) (b6 (aR (aC f7 (bA (cD eV (aA (eC (.int 6)) aD)) [5] (aN 5) (c6 (dD (aH (cM k) 2 aM (aA (aB 3) (aA (a6 (aA (aB 4) (aA (aB 5) aD))) aD))))) (aB 5)) (iF aD))) (aT (eC (.bl false))) aP))
 (b6 (c6 (dD (aH (cQ k) 2 aM (aA (aB 1) (aA (aC a8 (eC (.int 2)) (aH (cJ k) 2 aM (aA (aB 1) (aA (eC (.int 5)) aD)))) aD))))) (aT (eC (.bl false))) aP))))
 (aT (eC (.bl true)))))
def pI (k : bB) : MF := aZ (v8 k) tM
theorem CW : FnScope tM AR A7 := c9 (by decide +kernel)
theorem B3 {S : aV} (h : Fx S) : oW (S.body 3 tM A7) (defBody (top 10)) (v8 h.k) :=
 (aY (xY 1 (bQ (ag rfl) (nX h) (oS h) rfl h.j8 h.i7 (aI (jv 0) aW)))
 (aY (k0 (jN rfl h.iX (aI aQ aW)) (yW 2) (aY (xY 3 (sM (aI (bC fH aQ (bQ (ag rfl) (dB h) (c8 h) rfl h.c5 h.cR (aI (jv 1) (aI aQ aW)))) (aI (bQ (ag rfl) (dB h) (c8 h) rfl h.c5 h.cR (aI (jv 1) (aI aQ aW))) aW))))
 (aY (k0 (u5 rfl h.iX (aI aQ (aI aQ aW))) (yW 4) (bI (j1 (iA lF (n3 (own := [(("_law_number" : Str), 5)]) (jN rfl h.iX (aI aQ aW)) (by kernel_rfl) (DP 5) (kM (sF (fP (bQ (ag rfl) (hU h) (hR h) rfl h.fS h.fK (aI (jv 3) (aI (sM (aI (jv 4) (aI (jv 5) aW))) aW)))))) (jv 5)) (jI aW)) (bI (c0 h9)) eX)))
 (bI (j1 (sF (fP (bQ (ag rfl) (iT h) (i9 h) rfl h.fQ h.eZ (aI (jv 1) (aI (bC fH aQ (bQ (ag rfl) (dB h) (c8 h) rfl h.c5 h.cR (aI (jv 1) (aI aQ aW)))) aW))))) (bI (c0 h9)) eX)))))
 (bI (c0 h9))))
theorem BP {S : aV} (h : Fx S) : h8 S.P S.w S.K S.mg S.base 4 h.m8 h.tX AR (pI h.k) := h8.of h.AF CW (B3 h) fun _ _ _ => .nW
end K09
namespace K09
open PySem PySem.Spec PyProof.Rows L2 Pc Lb Lw
section
variable (k : K09.bB)
theorem CT : K09.gJ k = wN := rfl
theorem rT : K09.cJ k = vY := rfl
theorem CJ : K09.g0 k = wQ := rfl
theorem GO (x0 x1 : D) : begin fV [x0, x1] = [some x0, some x1] := rfl
theorem G8 (x0 x1 : D) : begin dJ [x0, x1] = [some x0, some x1, none, none, none, none] := rfl
theorem G5 (x0 x1 : D) : begin cP [x0, x1] = [some x0, some x1, none, none] := rfl
theorem G7 (x0 x1 : D) : begin cN [x0, x1] = [some x0, some x1, none, none, none, none, none, none, none, none, none] := rfl
theorem H7 (x0 : D) : begin tM [x0] = [some x0, none, none, none, none, none] := rfl
def eU (p q : Int × Int) : Bool := decide (p.1 > q.1) || (p.1 == q.1 && decide (p.2 < q.2))
theorem oO (p : Int × Int) : eU p p = false := by unfold eU; simp
theorem qH {p q : Int × Int} (h : p ≠ q) : eU q p = !eU p q := by
 obtain ⟨a, b⟩ := p
 obtain ⟨c, d⟩ := q
 have h' : ¬ (a = c ∧ b = d) := fun z => h (by rw [z.1, z.2])
 unfold eU
 rw [Bool.eq_iff_iff]
 simp only [Bool.or_eq_true, af, ak, beq_iff_eq, Bool.not_eq_true', Bool.or_eq_false_iff, Bool.and_eq_false_iff, decide_eq_false_iff_not, beq_eq_false_iff_ne]
 omega
theorem xT {p q r : Int × Int} (h1 : eU p q = true) (h2 : eU q r = true) : eU p r = true := by
 unfold eU at *
 simp only [Bool.or_eq_true, af, ak, beq_iff_eq] at *
 omega
theorem CK (p q : Int × Int) : oA p q = !eU q p := by
 unfold oA eU
 rw [Bool.eq_iff_iff]
 simp only [Bool.not_eq_true', Bool.or_eq_false_iff, Bool.and_eq_false_iff, ak, decide_eq_false_iff_not, beq_eq_false_iff_ne]
 omega
theorem zF {L : List (Int × Int)} (hn : L ≠ []) : ∃ b r, L.mergeSort oA = b :: r ∧ b ∈ L ∧ ∀ q ∈ L, eU q b = false := by
 have tr : ∀ a b c : Int × Int, oA a b = true → oA b c = true → oA a c = true := fun a b c h1 h2 => by
  unfold oA at *
  simp only [ak] at *
  omega
 have tot : ∀ a b : Int × Int, (oA a b || oA b a) = true := fun a b => by
  unfold oA
  simp only [Bool.or_eq_true, ak]
  omega
 have s := List.pairwise_mergeSort tr tot L
 have pm := List.mergeSort_perm L oA
 cases e : L.mergeSort oA with
 | nil =>
  rw [e] at pm
  exact absurd pm.symm.eq_nil hn
 | cons b r =>
  rw [e] at s pm
  refine ⟨b, r, rfl, pm.mem_iff.mp (ao ..), fun q hq => ?_⟩
  rcases List.mem_cons.mp (pm.mem_iff.mpr hq) with e1 | hq
  ·subst e1; exact oO _
  ·have := List.rel_of_pairwise_cons s hq
   rw [CK] at this
   simpa using this
theorem pX {p : Int × Int → Bool} : ∀ L : List (Int × Int), (L.filter p).length + (L.filter fun q => !p q).length = L.length
 | [] => rfl
 | q :: L => by
  have := pX (p := p) L
  cases h : p q <;> simp [List.filter_cons, h] <;> omega
theorem uM {h : Int × Int} {L : List (Int × Int)} (m : h ∉ L) : L.filter (· == h) = [] := List.filter_eq_nil_iff.mpr fun q hq => by
 have : q ≠ h := fun e => m (by rw [← e]; exact hq)
 simpa using this
theorem qV {h : Int × Int} : ∀ {L : List (Int × Int)}, L.Nodup → h ∈ L → (L.filter (· == h)).length = 1
 | [], _, m => nomatch m
 | q :: L, nd, m => by
  have n1 := List.nodup_cons.mp nd
  by_cases c : q = h
  ·subst c
   rw [List.filter_cons_of_pos (by simp), uM n1.1]
   rfl
  ·rw [List.filter_cons_of_neg (by simpa using c)]
   refine qV n1.2 ?_
   rcases List.mem_cons.mp m with e | m
   ·exact absurd e.symm c
   ·exact m
theorem uJ {L : List (Int × Int)} {b h : Int × Int} (nd : L.Nodup) (hb : b ∈ L) (hh : h ∈ L) (best : ∀ q ∈ L, eU q b = false) : ((L.filter (eU h)).length = L.length - 1) ↔ h = b := by
 have sum := pX (p := eU h) L
 have pos : 0 < L.length := List.length_pos_of_mem hh
 constructor
 ·intro e
  have e1 : (L.filter fun q => !eU h q).length = 1 := by omega
  obtain ⟨x, ex⟩ := List.length_eq_one_iff.mp e1
  have m1 : h ∈ L.filter fun q => !eU h q := List.mem_filter.mpr ⟨hh, by rw [oO]; rfl⟩
  have m2 : b ∈ L.filter fun q => !eU h q := List.mem_filter.mpr ⟨hb, by rw [best h hh]; rfl⟩
  rw [ex] at m1 m2
  rw [List.mem_singleton.mp m1, List.mem_singleton.mp m2]
 ·intro e
  subst e
  have e2 : (L.filter fun q => !eU h q) = L.filter (· == h) := List.filter_congr fun q hq => by
   by_cases c : q = h
   ·subst c; rw [oO]; simp
   ·have := qH c
    rw [best q hq] at this
    rw [this]
    simpa using c
  have e3 : (L.filter (· == h)).length = 1 := qV nd hh
  rw [e2, e3] at sum
  omega
variable {w w' : W} {P : D → W → Prop} {PF : Fl → W → Prop} {p q : Int × Int}
theorem yH : T (K09.bE k [aX p, aX q] w) P = P (.bl (eU p q)) w := by
 obtain ⟨r1, n1⟩ := p
 obtain ⟨r2, n2⟩ := q
 unfold K09.bE K09.eN aX eU
 rw [j4, G8, dH]
 simp only [zY, ah, ai, reduceCtorEq]
 rw [dH]
 simp only [zY, ah, ai, reduceCtorEq]
 have lt : ∀ (a c : Int) (w : W) (P : D → W → Prop), T (sL (.int a) (.int c) w) P = P (.bl (decide (a < c))) w := fun a c w P => by unfold T; rfl
 try simp only [vF, iQ, lt, zY, ah, ai, reduceCtorEq]
 by_cases c1 : r2 < r1
 ·simp [c1]
 ·by_cases c2 : r1 = r2
  ·simp [c2]
  ·have c3 : (r1 == r2) = false := by simpa using c2
   simp [c1, c2, c3]
theorem DV : T (K09.f9 k [aX p, aX q] w) P = P (.bl (eU p q)) w := by
 obtain ⟨r1, n1⟩ := p
 obtain ⟨r2, n2⟩ := q
 have p0 : ∀ (a : D) (l : List D), atI (a :: l) 0 = some a := fun _ _ => HG
 have p1 : ∀ (a c : D) (l : List D), atI (a :: c :: l) 1 = some c := fun a c l => DA (j := 1) (d := c) rfl
 have lt : ∀ (a c : Int) (w : W) (P : D → W → Prop), T (sL (.int a) (.int c) w) P = P (.bl (decide (a < c))) w := fun a c w P => by unfold T; rfl
 unfold K09.f9 K09.iJ aX eU
 rw [j4, GO]
 simp only [p0, p1, vF, iQ, lt, zY, ah, ai, reduceCtorEq]
 by_cases c1 : r2 < r1
 ·simp [c1]
 ·by_cases c2 : r1 = r2
  ·simp [c2]
  ·have c3 : (r1 == r2) = false := by simpa using c2
   simp [c1, c2, c3]
theorem qA : mK (aX p) (aX q) w = some (decide (p = q)) := by
 have e : mK (jK [p.1, p.2]) (jK [q.1, q.2]) w = some (decide ([p.1, p.2] = [q.1, q.2])) := by
  unfold mK
  rw [xE, xE]
  simp only [yD, and_self, ah, x8]
 have e2 : decide ([p.1, p.2] = [q.1, q.2]) = decide (p = q) := by
  obtain ⟨a, b⟩ := p
  obtain ⟨c, d⟩ := q
  simp
 rw [e2] at e
 exact e
theorem tV : T (cX (aX p) (aX q) w) P = P (.bl (decide (p = q))) w := by rw [vF, qA]; simp
theorem zA : T (f7 (aX p) (aX q) w) P = P (.bl (!decide (p = q))) w := by rw [yG, qA]; simp
theorem DT {a c : Bool} : T (f7 (.bl a) (.bl c) w) P = P (.bl (a != c)) w := by
 have : f7 (.bl a) (.bl c) w = .ok (.bl (a != c)) w := by
  cases a <;> cases c <;> rfl
 rw [this, cO]
theorem tY : T (K09.cM k [aX p, aX q] w) P = P (.bl true) w := by
 unfold K09.cM K09.dC
 rw [j4, G5, dH]
 simp only [DV, zY, ah, ai, reduceCtorEq]
 rw [dH]
 have gk : K09.cC k [] [aX q, aX p] = [aX p, aX q] := rfl
 simp only [yH, gk, zY, ah, ai, reduceCtorEq]
 rw [dH]
 simp only [zY, ah, ai, reduceCtorEq]
 have em : mulM (.lst [.bl (eU p q)]) (.int 3) w = .ok (.lst [.bl (eU p q), .bl (eU p q), .bl (eU p q)]) w := by rfl
 obtain ⟨u, py, fu⟩ := (cY.lst (c7.cons (cY.bl (b := eU p q)) (c7.cons (cY.bl (b := eU p q)) (c7.cons (cY.bl (b := eU p q)) (c7.nil.mono (n' := 0) (d' := 1) (by omega) (by omega)))))).fit (by omega) (by omega)
 simp only [em, cO, Lb.BU (py _) fu, wV fu fu, decide_true, Bool.not_true, tV, zA, yH, DT, zY, ah, ai, reduceCtorEq]
 by_cases c : p = q
 ·subst c
  simp [oO, bR]
 ·have e := qH c
  cases c2 : eU p q <;> simp [c, e, c2, bR]
theorem pairs_of : ∀ L : List (Int × Int), iE (L.map aX) = some L
 | [] => rfl
 | p :: L => by
  rw [List.map_cons, iE, pairs_of L]
  rfl
theorem ne_nil : T (f7 (.lst []) (.lst []) w) P = P (.bl false) w := by
 have e : mK (.lst []) (.lst []) w = some true := by unfold mK; rfl
 rw [yG, e]
 simp
theorem B5 {v : Int} (h : 0 ≤ v) : ∃ n : Nat, v = (n : Int) := ⟨v.toNat, by omega⟩
theorem FH (hd : fL w 1 0) {many : Nat} (h1 : 1 ≤ many) (h2 : many ≤ 6) (hP : ∀ w', fL w' 1 0 → P (.bl true) w') : T (K09.cQ k [.ref 1, .int (many : Nat)] w) P := by
 unfold K09.cQ K09.dP
 rw [j4, G7, dH]
 simp only [CJ, rT, zY, ah, ai, reduceCtorEq]
 refine BO (xs := [.int 1, .int 8, .int 9, .int 10, .int 12]) hd (by simp) (by simp) fun y w1 hy d1 k1 => ?_
 obtain ⟨low, ey, l1, l2⟩ : ∃ low : Int, y = .int low ∧ 1 ≤ low ∧ low ≤ 12 := by
  simp only [List.mem_cons, List.not_mem_nil, or_false] at hy
  rcases hy with e | e | e | e | e <;> subst e <;> exact ⟨_, rfl, by decide, by decide⟩
 subst ey
 try simp only [zY, ah, ai, reduceCtorEq]
 rw [dH]
 simp only [rQ (n := (many : Int)) (by omega) (by omega), zY, ah, ai, reduceCtorEq]
 have tn : ((many : Nat) : Int).toNat = many := by omega
 refine ⟨D0 _ (by rw [jQ]; omega), ?_⟩
 refine y8 (it := eJ 0 ((many : Nat) : Int).toNat) (fun j acc w' => fL w' 1 0 ∧ ∃ L : List (Int × Int), acc = L.map aX ∧ L.length = j ∧ L.map (·.2) = (List.range j).map fun z : Nat => (z : Int)) (fun _ _ _ _ => trivial) ⟨d1, [], rfl, rfl, rfl⟩ (fun j dj acc w2 hx ⟨d2, L, e1, e2, e3⟩ => ?_) fun acc w2 ⟨d2, L, e1, e2, e3⟩ => ?_
 ·obtain ⟨hj, rfl⟩ := lA hx
  simp only [e8, Int.zero_add, zY, ah, ai, reduceCtorEq]
  refine lP d2 (by omega) (by omega) fun r w3 r0 r1 d3 k3 => ?_
  try simp only [zY, ah, ai, reduceCtorEq]
  refine ⟨d3, L ++ [(low + r, (j : Int))], by rw [e1, List.map_append]; rfl, by rw [List.length_append, e2]; rfl, ?_⟩
  rw [List.map_append, e3, List.range_succ, List.map_append]
  rfl
 ·rw [jQ, tn] at e2 e3
  subst e1
  have nd : L.Nodup := by
   have : (L.map (·.2)).Nodup := by
    rw [e3]
    exact List.Pairwise.map _ (fun a b h => by omega) List.nodup_range
   exact List.Pairwise.of_map _ (fun a b h e => h (by rw [e])) this
  have ne : L ≠ [] := fun e => by rw [e] at e2; simp at e2; omega
  obtain ⟨b, r, es, hb, best⟩ := zF ne
  try simp only [zY, ah, ai, reduceCtorEq]
  rw [dH]
  have esp : jJ (.lst (L.map aX)) w2 = .ok (.lst (aX b :: r.map aX)) w2 := by
   unfold jJ
   simp only [pairs_of]
   rw [if_pos (by omega), es]
   rfl
  simp only [esp, cO, zY, ah, ai, reduceCtorEq]
  refine ⟨aX b, HG, ?_⟩
  rw [dH]
  simp only [m6, zY, ah, ai, reduceCtorEq]
  refine lE (it := ⟨L.map aX, always⟩) (fun j σ w' => w' = w2 ∧ ∃ s5 s6, σ = [some (.ref 1), some (.int (many : Nat)), some (.int low), some (.lst (L.map aX)), some (aX b), s5, s6, none, none, none, none]) (fun _ _ _ _ => trivial) ⟨rfl, _, _, rfl⟩ (fun j dj σ w3 hx ⟨ew, s5, s6, es⟩ => ?_) fun σ w3 ⟨ew, s5, s6, es⟩ => ?_
  ·subst es
   rw [ew]
   obtain ⟨h, hh, rfl⟩ := rY hx
   have hm := bc hh
   rw [o4]
   try simp only [List.set_cons_zero, List.set_cons_succ]
   rw [dH]
   simp only [m6, zY, ah, ai, reduceCtorEq]
   refine ⟨D0 _ (by rw [ax]; omega), ?_⟩
   refine kF (it := ⟨L.map aX, always⟩) L aX aX (eU h) rfl trivial (fun q _ => ?_) ?_
   ·simp only [e8, yH, zY, ah, ai, reduceCtorEq]
    first | exact ⟨⟨rfl, rfl⟩, fun _ => ⟨rfl, rfl⟩⟩ | simp [bR]
   have lf := List.length_filter_le (eU h) L
   have bt := uJ nd hb hm best
   have pos : 0 < L.length := by omega
   simp only [E3, ax, eqZ, tV, DT, zY, ah, ai, reduceCtorEq]
   have ec : ((((L.filter (eU h)).length : Nat) : Int) == ((L.length : Nat) : Int) - 1) = decide (h = b) := by
    rw [Bool.eq_iff_iff, decide_eq_true_iff, ← bt, beq_iff_eq]
    omega
   rw [ec, bne_self_eq_false, if_neg (by simp)]
   exact ⟨rfl, _, _, rfl⟩
  ·subst es
   rw [ew, kJ, dH]
   simp only [m6, zY, ah, ai, reduceCtorEq]
   refine lE (it := ⟨L.map aX, always⟩) (fun j σ w' => w' = w2 ∧ ∃ s5 s6 s7 s8, σ = [some (.ref 1), some (.int (many : Nat)), some (.int low), some (.lst (L.map aX)), some (aX b), s5, s6, s7, s8, none, none]) (fun _ _ _ _ => trivial) ⟨rfl, _, _, _, _, rfl⟩ (fun j dj σ w3 hx ⟨ew, s5, s6, s7, s8, es⟩ => ?_) fun σ w3 ⟨ew, s5, s6, s7, s8, es⟩ => ?_
   ·subst es
    rw [ew]
    obtain ⟨h, hh, rfl⟩ := rY hx
    rw [o4]
    try simp only [List.set_cons_zero, List.set_cons_succ]
    simp only [m6, zY, ah, ai, reduceCtorEq]
    refine lE (it := ⟨L.map aX, always⟩) (fun j σ w' => w' = w2 ∧ ∃ s7 s8, σ = [some (.ref 1), some (.int (many : Nat)), some (.int low), some (.lst (L.map aX)), some (aX b), some (aX h), s6, s7, s8, none, none]) (fun _ _ _ _ => trivial) ⟨rfl, _, _, rfl⟩ (fun j dj σ w3 hx ⟨ew, s7, s8, es⟩ => ?_) fun σ w3 ⟨ew, s7, s8, es⟩ => ?_
    ·subst es
     rw [ew]
     obtain ⟨q, hq, rfl⟩ := rY hx
     rw [o4]
     try simp only [List.set_cons_zero, List.set_cons_succ]
     rw [dH]
     simp only [tY, zY, ah, ai, reduceCtorEq]
     rw [dH]
     simp only [m6, zY, ah, ai, reduceCtorEq]
     refine ⟨D0 _ (by rw [ax]; omega), ?_⟩
     refine kF (it := ⟨L.map aX, always⟩) L aX aX (fun t => eU h q && eU q t) rfl trivial (fun t _ => ?_) ?_
     ·simp only [e8, yH, zY, ah, ai, reduceCtorEq]
      cases eU h q <;> simp [bR]
     try simp only [m6, zY, ah, ai, reduceCtorEq]
     have lf := List.length_filter_le (fun t => eU h q && eU q t) L
     refine ⟨D0 _ (by rw [ax]; omega), ?_⟩
     refine kF (it := ⟨(L.filter fun t => eU h q && eU q t).map aX, always⟩) (L.filter fun t => eU h q && eU q t) aX aX (fun _ => false) rfl trivial (fun t ht => ?_) ?_
     ·have ht := (List.mem_filter.mp ht).2
      simp only [af] at ht
      have := xT ht.1 ht.2
      simp only [e8, yH, this, zY, ah, ai, reduceCtorEq]
      exact ⟨by simp, fun z => nomatch z⟩
     ·rw [show ((L.filter fun t => eU h q && eU q t).filter fun _ => false) = [] from by simp]
      simp only [List.map_nil, ne_nil, zY, ah, ai, reduceCtorEq]
      exact ⟨rfl, _, _, rfl⟩
    ·subst es
     rw [ew]
     try simp only [zY, ah, ai, reduceCtorEq]
     exact ⟨rfl, _, _, _, _, rfl⟩
   ·subst es
    rw [ew]
    try simp only [zY, ah, ai, reduceCtorEq]
    exact hP w2 d2
theorem good (ns : List Int) (hl : ns.length ≤ 63) (hP : ∀ w', P (.bl true) w') : T (K09.pI k [.fM (ns.map D.int)] []) P := by
 unfold K09.pI K09.v8
 rw [j4, H7, dH]
 simp only [CT, zY, ah, ai, reduceCtorEq]
 refine (BS hl).mono fun r w0 _ ⟨er, l0, d0⟩ => ?_
 subst er
 try simp only [zY, ah, ai, reduceCtorEq]
 rw [dH]
 obtain ⟨i0, hi0⟩ : ∃ i0 : Option D, i0 = some (.fM (ns.map D.int)) := ⟨_, rfl⟩
 rw [← hi0]
 simp only [rQ (n := 4) (by omega) (by omega), zY, ah, ai, reduceCtorEq]
 refine lE (it := eJ 0 (4 : Int).toNat) (fun j σ w => fL w 1 0 ∧ ∃ s2 s3 s4, σ = [i0, some (.ref 1), s2, s3, s4, none]) (fun _ _ _ _ => trivial) ⟨d0, _, _, _, rfl⟩ (fun j dj σ w1 hx ⟨d1, s2, s3, s4, es⟩ => ?_) fun σ w1 ⟨d1, s2, s3, s4, es⟩ => ?_
 case refine_2 =>
  subst es
  try simp only [zY, ah, ai, reduceCtorEq]
  exact hP w1
 subst es
 obtain ⟨hj, rfl⟩ := lA hx
 rw [o4]
 try simp only [List.set_cons_zero, List.set_cons_succ]
 rw [dH]
 simp only [rT, zY, ah, ai, reduceCtorEq]
 refine lP d1 (by omega) (by omega) fun u w2 u0 u1 d2 k2 => ?_
 try simp only [zY, ah, ai, reduceCtorEq]
 refine lP d2 (by omega) (by omega) fun v w3 v0 v1 d3 k3 => ?_
 try simp only [zY, ah, ai, reduceCtorEq]
 obtain ⟨p, ep⟩ : ∃ p : Int × Int, p = (1 + u, v) := ⟨_, rfl⟩
 have epd : (D.tup [.int (1 + u), .int v]) = aX p := by rw [ep]; rfl
 rw [dH, epd]
 simp only [DC (a := 1) (b := 13) ⟨by omega, by omega⟩ ⟨by omega, by omega⟩, zY, ah, ai, reduceCtorEq]
 refine lE (it := eJ 1 ((13 : Int) - 1).toNat) (fun z σ w' => w' = w3 ∧ ∃ s2 s4, σ = [i0, some (.ref 1), s2, some (aX p), s4, none]) (fun _ _ _ _ => trivial) ⟨rfl, _, _, rfl⟩ (fun z dz σ w4 hx ⟨ew, s2, s4, es⟩ => ?_) fun σ w4 ⟨ew, s2, s4, es⟩ => ?_
 ·subst es
  rw [ew]
  obtain ⟨hz, rfl⟩ := lA hx
  rw [o4]
  try simp only [List.set_cons_zero, List.set_cons_succ]
  simp only [rQ (n := 6) (by omega) (by omega), zY, ah, ai, reduceCtorEq]
  refine ⟨D0 _ (by rw [jQ]; omega), ?_⟩
  refine kF (it := eJ 0 (6 : Int).toNat) (List.range 6) (fun c => D.int (0 + (c : Int))) (fun c => D.int (0 + (c : Int))) (fun _ => false) rfl trivial (fun c _ => ?_) ?_
  ·have e2 : (D.tup [.int (1 + (z : Int)), .int (0 + (c : Int))]) = aX (1 + (z : Int), 0 + (c : Int)) := rfl
   simp only [e8, zY, ah, ai, reduceCtorEq]
   rw [e2]
   simp only [tY, zY, ah, ai, reduceCtorEq]
   first | exact ⟨by simp, fun z => nomatch z⟩ | exact fun z => nomatch z
  ·rw [show ((List.range 6).filter fun _ => false) = [] from by simp]
   simp only [List.map_nil, ne_nil, zY, ah, ai, reduceCtorEq]
   exact ⟨rfl, _, _, rfl⟩
 ·subst es
  rw [ew, kJ]
  simp only [rT, zY, ah, ai, reduceCtorEq]
  refine lP d3 (by omega) (by omega) fun y w5 y0 y1 d5 k5 => ?_
  obtain ⟨y, rfl⟩ := B5 y0
  have ey : (2 : Int) + (y : Int) = ((2 + y : Nat) : Int) := by omega
  try simp only [zY, ah, ai, reduceCtorEq]
  rw [ey]
  refine FH k d5 (by omega) (by omega) fun w6 d6 => ?_
  try simp only [zY, ah, ai, reduceCtorEq]
  exact ⟨d6, _, _, _, rfl⟩
end
theorem wI (k : K09.bB) (ns : List Int) (h : ns.length ≤ 63) : ∃ w', K09.pI k [.fM (ns.map Pc.D.int)] [] = .ok (.bl true) w' := by
 obtain ⟨a, w, e, p⟩ := (good (k := k) (P := fun d _ => d = .bl true) ns h fun _ => rfl).ex
 exact ⟨w, by rw [e, p]⟩
end K09
namespace K09H
open PySem PySem.Spec PyProof.Rows L2 Pc K09
open PySem PySem.W PySem.Calls PyProof.Rows HandSHeadRun in
open PySem PySem.W PySem.Calls PyProof.Rows in
open PySem PySem.W PySem.Calls PyProof.Rows in
open PySem PySem.W PySem.Calls PyProof.Rows in
open PySem PySem.W PySem.Calls PyProof.Rows in
abbrev St (w : World) (K : PySem.W.Frag) (mg : Str → Option Value) (base : Heap) : aV := ⟨PySem.Challenge.pw_onemaster_k09_who_is_ahead, w, K, mg, base, 0, [], defScope (top 10), fun _ => true⟩
theorem facts {w : World} {K : PySem.W.Frag} {h : Heap} {mg : Str → Option Value} (X : K.In h) (G : h.Ns mainGlobals mg) (c : He.SaysX fa fn ts [] ex w h K) :
  ∃ (d : FuncData) (kk : bB), (FunD K ("law" : Str) ("law" : Str) (defArgs (top 10)) (defBody (top 10)) (defScope (top 10)) [] [] (He.ga K "law") d) ∧ ∀ base, ∃ x : Fx (St w K mg base), x.k = kk ∧ x.m8 = He.ga K "law" ∧ x.tX = d := by
 obtain ⟨d0, F0⟩ := c.t.d.def_ 0 (d := gX) rfl
 obtain ⟨d1, F1⟩ := c.t.d.def_ 1 (d := gU) rfl
 obtain ⟨d2, F2⟩ := c.t.d.def_ 2 (d := gN) rfl
 obtain ⟨d3, F3⟩ := c.t.d.def_ 3 (d := f6) rfl
 obtain ⟨d4, F4⟩ := c.t.d.def_ 4 (d := iL) rfl
 obtain ⟨d5, F5⟩ := c.t.d.def_ 5 (d := iK) rfl
 obtain ⟨d6, F6⟩ := c.t.d.def_ 6 (d := gA) rfl
 obtain ⟨d7, F7⟩ := c.t.d.def_ 7 (d := dO) rfl
 obtain ⟨d8, F8⟩ := c.t.d.def_ 8 (d := vV) rfl
 refine ⟨d8, {}, F8, fun base => ⟨{
  k := {},
  oY := He.free_ok X G (c.t.d.fact 0 (f := .free "len") rfl),
  yE := He.free_ok X G (c.t.d.fact 1 (f := .free "list") rfl),
  iX := He.free_ok X G (c.t.d.fact 2 (f := .free "range") rfl),
  rH := He.free_ok X G (c.t.d.fact 3 (f := .free "repr") rfl),
  pY := He.free_ok X G (c.t.d.fact 4 (f := .free "sorted") rfl),
  BB := He.free_ok X G (c.t.d.fact 5 (f := .free "sum") rfl),
  dX := He.fAd K gX.at_,
  fC := d0,
  gW := F0,
  j8 := He.glo_ok X G (c.t.d.fact 6 (f := .glo "_law_deck") rfl),
  i7 := F0.kp,
  dS := He.fAd K gU.at_,
  eW := d1,
  gM := F1,
  c5 := He.glo_ok X G (c.t.d.fact 7 (f := .glo "_law_draw") rfl),
  cR := F1.kp,
  dR := He.fAd K gN.at_,
  e9 := d2,
  gT := F2,
  jV := He.glo_ok X G (c.t.d.fact 8 (f := .glo "_law_pick") rfl),
  iW := F2.kp,
  eD := He.fAd K f6.at_,
  i6 := d3,
  fU := F3,
  iY := He.glo_ok X G (c.t.d.fact 9 (f := .glo "_law_place") rfl),
  mB := F3.kp,
  eQ := He.fAd K iL.at_,
  f5 := d4,
  iD := F4,
  lG := He.glo_ok X G (c.t.d.fact 10 (f := .glo "_law_due") rfl),
  jU := F4.kp,
  eP := He.fAd K iK.at_,
  eK := d5,
  gB := F5,
  cA := He.glo_ok X G (c.t.d.fact 11 (f := .glo "is_ahead") rfl),
  bS := F5.kp,
  dA := He.fAd K gA.at_,
  eE := d6,
  fW := F6,
  fS := He.glo_ok X G (c.t.d.fact 12 (f := .glo "_law_right") rfl),
  fK := F6.kp,
  bY := He.fAd K dO.at_,
  cS := d7,
  dI := F7,
  fQ := He.glo_ok X G (c.t.d.fact 13 (f := .glo "_law_lot_right") rfl),
  eZ := F7.kp,
  m8 := He.fAd K vV.at_,
  tX := d8,
  AF := F8,
  A6 := He.glo_ok X G (c.t.d.fact 14 (f := .glo "law") rfl),
  CZ := F8.kp }, rfl, rfl, rfl⟩⟩
end K09H
set_option maxHeartbeats 0
open PySem PySem.W PySem.Calls PyProof.Rows
theorem PySem.Challenge.cw_onemaster_k09_who_is_ahead_holds : PySem.Challenge.rw_onemaster_k09_who_is_ahead.Holds := by
 refine K09H.early.2 ?_
 ·refine Pc.wX (l := PySem.Challenge.rw_onemaster_k09_who_is_ahead) (n := 63) (k := 4) (x := "_law_script") rfl (by decide) (by kernel_rfl) ⟨rfl, by decide, by decide⟩ ?F
  intro w mg fa h Y G hmg0
  obtain ⟨K, KX, c⟩ := Y
  have hmg : mg ("law" : PySem.Str) = some (.ref fa) := by
   have e : (HandSHeadRun.topDef (OpenLaw.row PySem.Challenge.rw_onemaster_k09_who_is_ahead).prog 10).name = ("law" : PySem.Str) := by kernel_rfl
   rw [← e]
   exact hmg0
  obtain ⟨d, kk, F, fx⟩ := K09H.facts KX G c
  have hx : fa = He.ga K "law" := by
   obtain ⟨x0, _, e1, _⟩ := fx {}
   have z := x0.A6
   rw [e1] at z
   have z2 := hmg.symm.trans z
   cases z2
   rfl
  have bd := L2.FunD.bindsA (ps := ["_law_script"]) F fun _ _ _ _ _ _ us hl => match us, hl with | [_], _ => rfl
  refine ⟨K, d, K09.pI kk, KX, fun s v => bd s [v] rfl, fun ns hl => K09.wI kk ns hl, fun base _ _ => ?_⟩
  obtain ⟨x, e0, e1, e2⟩ := fx base
  have z := K09.BP x
  rw [e0, e1, e2] at z
  rw [hx]
  exact z
end
