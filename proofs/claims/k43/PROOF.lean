import PyProof.Rows.All
import Wide.All
import OpenK.AllK
import Wide.FinOn
import KE.KStateDown
import Lean
import HandS.ForMost
import HandS.More
import HandS.Star
import HandS.Style
import HandS.IsInst
import HandS.Zip
import HandS.Walk
import HandS.Conv
import HandS.SortInts
import HandS.Flow
import HandS.Defaults
import HandS.Head0
import HandS.Head1
import HandS.Head2
import HandS.HeadEnd
import HandS.HeadHook1
import HandS.HeadHook2
import HandS.HeadHook3
import HandS.Deep
import HandS.TupAny
import HandS.EndBits
import HandS.OwnEq
import HandS.Records
import HandS.Small
import HandS.DictComp
import HandS.Exc
import HandS.Strs
import HandS.Sort
import PyProof.ListRange
import HandS.Iter
import KE.GoesEnum
import HandS.ExcInit
import KE.KExcSuper
import KE.KExcMake
import KE.KExcInit
import HandS.Lambda
import HandS.ExcField
import HandS.EndTab
import HandS.HeadHook4
import PyProof.InstNe
import PySem.Challenge.RW_goodsbypapers_k43_whole_chains_of_sales
set_option Elab.async false
set_option linter.all false
set_option maxRecDepth 100000
set_option maxHeartbeats 4000000
/-! DL: a layer of plain data over HandS. A def's meaning is a function of plain data (D); each construct has one rule. -/
namespace DL
open PySem PySem.Spec PyProof.Rows L2
/-- the program's classes: a name, the fields in the order in which __init__ stores them -/
class CTab where
  ct : Nat → Str × List Str
def cN [CTab] (c : Nat) : Str := (CTab.ct c).1
def cF [CTab] (c : Nat) : List Str := (CTab.ct c).2
/-- plain data -/
inductive D where
  | non
  | bl (b : Bool)
  | int (i : Int)
  | str (x : Str)
  | lst (l : List D)
  | tup (l : List D)
  | dct (ks : List Key) (l : List D)
  | ob (c : Nat) (l : List D)
  /-- a list that is read alone: the script, a list of the module -/
  | rol (l : List D)
/-- what may be changed, in one def's own hands -/
inductive Ct where
  | lst (l : List D)
  | dct (ks : List Key) (l : List D)
  | ob (c : Nat) (l : List D)
def Ct.toD : Ct → D
  | .lst l => .lst l
  | .dct ks l => .dct ks l
  | .ob c l => .ob c l
/-- a slot: data; a thing of this def's own; a thing handed in to be changed -/
inductive W where
  | val (d : D)
  | own (c : Ct)
  | inn (c : Ct)
abbrev Env := List (Option W)
/-- how a run ends: it is not told; a value and the slots; an exception -/
inductive Res (α : Type) where
  | fail
  | ok (a : α) (r : Env)
  | exc (c : Nat) (l : List D) (r : Env)
/-- the flow of statements -/
inductive Fl where
  | nx
  | bk
  | ct
  | rt (d : D)
abbrev M (α : Type) := Env → Res α
def bindR {α β : Type} (r : Res α) (k : α → Env → Res β) : Res β :=
  match r with
  | .fail => .fail
  | .ok a e => k a e
  | .exc c l e => .exc c l e
@[simp] theorem bindR_ok {α β : Type} (a : α) (e : Env) (k : α → Env → Res β) : bindR (.ok a e) k = k a e := rfl
@[simp] theorem bindR_fail {α β : Type} (k : α → Env → Res β) : bindR .fail k = .fail := rfl
@[simp] theorem bindR_exc {α β : Type} (c : Nat) (l : List D) (e : Env) (k : α → Env → Res β) : bindR (.exc c l e) k = .exc c l e := rfl
def liftO {α : Type} (o : Option α) (e : Env) : Res α :=
  match o with
  | some a => .ok a e
  | none => .fail
@[simp] theorem liftO_some {α : Type} (a : α) (e : Env) : liftO (some a) e = .ok a e := rfl
@[simp] theorem liftO_none {α : Type} (e : Env) : liftO (none : Option α) e = .fail := rfl
/-! ### what stands in the heap -/
/-- a list of the written part -/
def KLst (K : PySem.W.Frag) (a : Addr) (xs : List V) : Prop :=
  ∃ (o : Obj) (its : Array Value) (n : Nat), K.lookup a = some o ∧ o.cls = .type "list" ∧ o.dict = none ∧ o.data = .seq its n ∧ its.size ≤ sizeLine ∧ Vals xs its.toList
def KTup (K : PySem.W.Frag) (a : Addr) (xs : List V) : Prop :=
  ∃ (o : Obj) (its : Array Value) (n : Nat), K.lookup a = some o ∧ o.cls = .type "tuple" ∧ o.data = .seq its n ∧ its.size ≤ sizeLine ∧ Vals xs its.toList
def RolAt (K : PySem.W.Frag) (H : Hp) (Z : Addr → Prop) (a : Addr) (xs : List V) : Prop := (¬ Z a ∧ Rd H a (.lst xs)) ∨ KLst K a xs
def TupAt (K : PySem.W.Frag) (H : Hp) (Z : Addr → Prop) (a : Addr) (xs : List V) : Prop := (¬ Z a ∧ Rd H a (.tup xs)) ∨ KTup K a xs
theorem RolAt.sq {K : PySem.W.Frag} {H : Hp} {Z : Addr → Prop} {a : Addr} {xs : List V} (h : RolAt K H Z a xs) : SqL K H a xs := h.elim (fun z => .inl z.2) .inr
theorem TupAt.sq {K : PySem.W.Frag} {H : Hp} {Z : Addr → Prop} {a : Addr} {xs : List V} (h : TupAt K H Z a xs) : SqT K H a xs := h.elim (fun z => .inl z.2) .inr
def LstAt (H : Hp) (Z : Addr → Prop) (a : Addr) (xs : List V) : Prop := ¬ Z a ∧ Rd H a (.lst xs)
theorem LstAt.sq {K : PySem.W.Frag} {H : Hp} {Z : Addr → Prop} {a : Addr} {xs : List V} (h : LstAt H Z a xs) : SqL K H a xs := .inl h.2
section
variable [CTab]
mutual
def Rep (K : PySem.W.Frag) (H : Hp) (Z : Addr → Prop) : D → V → Prop
  | .non, v => v = .non
  | .bl b, v => v = .bl b
  | .int i, v => v = .int i
  | .str x, v => v = .str x
  | .lst l, v => ∃ p vs, v = .ref p ∧ LstAt H Z p vs ∧ Reps K H Z l vs
  | .rol l, v => ∃ p vs, v = .ref p ∧ RolAt K H Z p vs ∧ Reps K H Z l vs
  | .tup l, v => ∃ p vs, v = .ref p ∧ TupAt K H Z p vs ∧ Reps K H Z l vs
  | .dct ks l, v => ∃ p vs, v = .ref p ∧ ¬ Z p ∧ Rd H p (.dK (ks.zip vs)) ∧ ks.length = vs.length ∧ Reps K H Z l vs
  | .ob c l, v => ∃ p dx vs, v = .ref p ∧ ¬ Z p ∧ H p = some (.ins (He.ga K (cN c)) dx ((cF c).zip vs)) ∧ vs.length ≤ (cF c).length ∧ Reps K H Z l vs
def Reps (K : PySem.W.Frag) (H : Hp) (Z : Addr → Prop) : List D → List V → Prop
  | [], vs => vs = []
  | d :: l, vs => ∃ v r, vs = v :: r ∧ Rep K H Z d v ∧ Reps K H Z l r
end
def CtHO (K : PySem.W.Frag) (H : Hp) (Z : Addr → Prop) : Ct → HO → Prop
  | .lst l, o => ∃ vs, o = .lst vs ∧ Reps K H Z l vs
  | .dct ks l, o => ∃ vs, o = .dK (ks.zip vs) ∧ ks.length = vs.length ∧ Reps K H Z l vs
  | .ob c l, o => ∃ dx vs, o = .ins (He.ga K (cN c)) dx ((cF c).zip vs) ∧ vs.length ≤ (cF c).length ∧ Reps K H Z l vs
def RepC (K : PySem.W.Frag) (H : Hp) (Z : Addr → Prop) (t : Ct) (p : Addr) : Prop := ∃ o, H p = some o ∧ CtHO K H Z t o
end
/-- but for what is at Z all is as it was -/
def Ext (Z : Addr → Prop) (H H' : Hp) : Prop := ∀ a o, ¬ Z a → H a = some o → H' a = some o
theorem Ext.refl {Z : Addr → Prop} {H : Hp} : Ext Z H H := fun _ _ _ h => h
theorem Ext.trans {Z : Addr → Prop} {H H1 H2 : Hp} (a : Ext Z H H1) (b : Ext Z H1 H2) : Ext Z H H2 := fun x o n h => b x o n (a x o n h)
theorem Ext.same {Z : Addr → Prop} {H H' : Hp} (s : Same H H') : Ext Z H H' := fun a o _ h => s a o h
theorem Rd.ext {Z : Addr → Prop} {H H' : Hp} {a : Addr} {u : HO} (e : Ext Z H H') (n : ¬ Z a) (h : Rd H a u) : Rd H' a u := h.elim (fun z => .inl (e _ _ n z)) fun ⟨o, z⟩ => .inr ⟨o, e _ _ n z⟩
section
variable [CTab] {K : PySem.W.Frag} {H H' : Hp} {Z Z' : Addr → Prop}
theorem LstAt.ext {a : Addr} {xs : List V} (e : Ext Z H H') (h : LstAt H Z a xs) : LstAt H' Z a xs := ⟨h.1, Rd.ext e h.1 h.2⟩
theorem RolAt.ext {a : Addr} {xs : List V} (e : Ext Z H H') (h : RolAt K H Z a xs) : RolAt K H' Z a xs := h.elim (fun z => .inl ⟨z.1, Rd.ext e z.1 z.2⟩) .inr
theorem TupAt.ext {a : Addr} {xs : List V} (e : Ext Z H H') (h : TupAt K H Z a xs) : TupAt K H' Z a xs := h.elim (fun z => .inl ⟨z.1, Rd.ext e z.1 z.2⟩) .inr
mutual
theorem Rep.ext (e : Ext Z H H') : ∀ (d : D) (v : V), Rep K H Z d v → Rep K H' Z d v
  | .non, _, h => h
  | .bl _, _, h => h
  | .int _, _, h => h
  | .str _, _, h => h
  | .lst l, v, h => by
    simp only [Rep] at h ⊢
    obtain ⟨p, vs, e1, h1, h2⟩ := h
    exact ⟨p, vs, e1, h1.ext e, Reps.ext e l vs h2⟩
  | .rol l, v, h => by
    simp only [Rep] at h ⊢
    obtain ⟨p, vs, e1, h1, h2⟩ := h
    exact ⟨p, vs, e1, h1.ext e, Reps.ext e l vs h2⟩
  | .tup l, v, h => by
    simp only [Rep] at h ⊢
    obtain ⟨p, vs, e1, h1, h2⟩ := h
    exact ⟨p, vs, e1, h1.ext e, Reps.ext e l vs h2⟩
  | .dct ks l, v, h => by
    simp only [Rep] at h ⊢
    obtain ⟨p, vs, e1, n, h1, hl, h2⟩ := h
    exact ⟨p, vs, e1, n, Rd.ext e n h1, hl, Reps.ext e l vs h2⟩
  | .ob c l, v, h => by
    simp only [Rep] at h ⊢
    obtain ⟨p, dx, vs, e1, n, h1, hl, h2⟩ := h
    exact ⟨p, dx, vs, e1, n, e _ _ n h1, hl, Reps.ext e l vs h2⟩
theorem Reps.ext (e : Ext Z H H') : ∀ (l : List D) (vs : List V), Reps K H Z l vs → Reps K H' Z l vs
  | [], _, h => h
  | d :: l, vs, h => by
    simp only [Reps] at h ⊢
    obtain ⟨v, r, e1, h1, h2⟩ := h
    exact ⟨v, r, e1, Rep.ext e d v h1, Reps.ext e l r h2⟩
end
/- other addresses that may be changed, none of them met by the data -/
mutual
theorem Rep.zed (hz : ∀ a o, ¬ Z a → H a = some o → ¬ Z' a) : ∀ (d : D) (v : V), Rep K H Z d v → Rep K H Z' d v
  | .non, _, h => h
  | .bl _, _, h => h
  | .int _, _, h => h
  | .str _, _, h => h
  | .lst l, v, h => by
    simp only [Rep] at h ⊢
    obtain ⟨p, vs, e1, h1, h2⟩ := h
    exact ⟨p, vs, e1, ⟨h1.2.elim (fun q => hz _ _ h1.1 q) (fun ⟨o, q⟩ => hz _ _ h1.1 q), h1.2⟩, Reps.zed hz l vs h2⟩
  | .rol l, v, h => by
    simp only [Rep] at h ⊢
    obtain ⟨p, vs, e1, h1, h2⟩ := h
    exact ⟨p, vs, e1, h1.elim (fun z => .inl ⟨z.2.elim (fun q => hz _ _ z.1 q) (fun ⟨o, q⟩ => hz _ _ z.1 q), z.2⟩) .inr, Reps.zed hz l vs h2⟩
  | .tup l, v, h => by
    simp only [Rep] at h ⊢
    obtain ⟨p, vs, e1, h1, h2⟩ := h
    exact ⟨p, vs, e1, h1.elim (fun z => .inl ⟨z.2.elim (fun q => hz _ _ z.1 q) (fun ⟨o, q⟩ => hz _ _ z.1 q), z.2⟩) .inr, Reps.zed hz l vs h2⟩
  | .dct ks l, v, h => by
    simp only [Rep] at h ⊢
    obtain ⟨p, vs, e1, n, h1, hl, h2⟩ := h
    exact ⟨p, vs, e1, h1.elim (fun q => hz _ _ n q) (fun ⟨o, q⟩ => hz _ _ n q), h1, hl, Reps.zed hz l vs h2⟩
  | .ob c l, v, h => by
    simp only [Rep] at h ⊢
    obtain ⟨p, dx, vs, e1, n, h1, hl, h2⟩ := h
    exact ⟨p, dx, vs, e1, hz _ _ n h1, h1, hl, Reps.zed hz l vs h2⟩
theorem Reps.zed (hz : ∀ a o, ¬ Z a → H a = some o → ¬ Z' a) : ∀ (l : List D) (vs : List V), Reps K H Z l vs → Reps K H Z' l vs
  | [], _, h => h
  | d :: l, vs, h => by
    simp only [Reps] at h ⊢
    obtain ⟨v, r, e1, h1, h2⟩ := h
    exact ⟨v, r, e1, Rep.zed hz d v h1, Reps.zed hz l r h2⟩
end
theorem Reps.len : ∀ {l : List D} {vs : List V}, Reps K H Z l vs → l.length = vs.length
  | [], vs, h => by
    simp only [Reps] at h
    subst h
    rfl
  | d :: l, vs, h => by
    simp only [Reps] at h
    obtain ⟨v, r, e1, h1, h2⟩ := h
    subst e1
    simp only [List.length_cons]
    exact congrArg (· + 1) (Reps.len h2)
theorem Reps.app : ∀ {l l2 : List D} {vs vs2 : List V}, Reps K H Z l vs → Reps K H Z l2 vs2 → Reps K H Z (l ++ l2) (vs ++ vs2)
  | [], l2, vs, vs2, h, h2 => by
    simp only [Reps] at h
    subst h
    exact h2
  | d :: l, l2, vs, vs2, h, h2 => by
    simp only [Reps] at h
    obtain ⟨v, r, e1, h1, h3⟩ := h
    subst e1
    exact ⟨v, r ++ vs2, rfl, h1, Reps.app h3 h2⟩
theorem Reps.get : ∀ {l : List D} {vs : List V} {i : Nat} {d : D}, Reps K H Z l vs → l[i]? = some d → ∃ v, vs[i]? = some v ∧ Rep K H Z d v
  | [], _, _, _, _, e => by simp at e
  | d :: l, vs, 0, x, h, e => by
    simp only [Reps] at h
    obtain ⟨v, r, e1, h1, h3⟩ := h
    subst e1
    simp at e
    subst e
    exact ⟨v, rfl, h1⟩
  | d :: l, vs, i + 1, x, h, e => by
    simp only [Reps] at h
    obtain ⟨v, r, e1, h1, h3⟩ := h
    subst e1
    obtain ⟨u, q, h4⟩ := Reps.get (i := i) (d := x) h3 (by simpa using e)
    exact ⟨u, by simpa using q, h4⟩
theorem Reps.getV : ∀ {l : List D} {vs : List V} {i : Nat} {v : V}, Reps K H Z l vs → vs[i]? = some v → ∃ d, l[i]? = some d ∧ Rep K H Z d v := fun {l vs i v} h e => by
  have hl := h.len
  have hi : i < vs.length := (List.getElem?_eq_some_iff.mp e).1
  obtain ⟨u, q, r⟩ := h.get (i := i) (d := l[i]'(by omega)) (by simp)
  rw [e] at q
  cases q
  exact ⟨_, by simp, r⟩
theorem Reps.one {d : D} {v : V} (h : Rep K H Z d v) : Reps K H Z [d] [v] := ⟨v, [], rfl, h, rfl⟩
theorem Reps.cons {d : D} {v : V} {l : List D} {vs : List V} (h : Rep K H Z d v) (r : Reps K H Z l vs) : Reps K H Z (d :: l) (v :: vs) := ⟨v, vs, rfl, h, r⟩
theorem Reps.nil : Reps K H Z [] [] := rfl
theorem Reps.inv {d : D} {l : List D} {vs : List V} (h : Reps K H Z (d :: l) vs) : ∃ v r, vs = v :: r ∧ Rep K H Z d v ∧ Reps K H Z l r := h
theorem Reps.take : ∀ {l : List D} {vs : List V} (n : Nat), Reps K H Z l vs → Reps K H Z (l.take n) (vs.take n)
  | _, _, 0, _ => by simp only [List.take_zero]; exact rfl
  | [], vs, n + 1, h => by
    simp only [Reps] at h
    subst h
    exact rfl
  | d :: l, vs, n + 1, h => by
    obtain ⟨v, r, e1, h1, h3⟩ := h.inv
    subst e1
    exact Reps.cons h1 (Reps.take n h3)
theorem Reps.drop : ∀ {l : List D} {vs : List V} (n : Nat), Reps K H Z l vs → Reps K H Z (l.drop n) (vs.drop n)
  | _, _, 0, h => h
  | [], vs, n + 1, h => by
    simp only [Reps] at h
    subst h
    exact rfl
  | d :: l, vs, n + 1, h => by
    obtain ⟨v, r, e1, h1, h3⟩ := h.inv
    subst e1
    exact Reps.drop n h3
theorem Reps.rev : ∀ {l : List D} {vs : List V}, Reps K H Z l vs → Reps K H Z l.reverse vs.reverse
  | [], vs, h => by
    simp only [Reps] at h
    subst h
    exact rfl
  | d :: l, vs, h => by
    obtain ⟨v, r, e1, h1, h3⟩ := h.inv
    subst e1
    rw [List.reverse_cons, List.reverse_cons]
    exact (Reps.rev h3).app (Reps.one h1)
theorem Reps.set {d : D} {v : V} (hd : Rep K H Z d v) : ∀ {l : List D} {vs : List V} (i : Nat), Reps K H Z l vs → Reps K H Z (l.set i d) (vs.set i v)
  | [], vs, i, h => by
    simp only [Reps] at h
    subst h
    exact rfl
  | x :: l, vs, 0, h => by
    obtain ⟨u, r, e1, h1, h3⟩ := h.inv
    subst e1
    exact Reps.cons hd h3
  | x :: l, vs, i + 1, h => by
    obtain ⟨u, r, e1, h1, h3⟩ := h.inv
    subst e1
    exact Reps.cons h1 (Reps.set hd i h3)
theorem CtHO.ext {t : Ct} {o : HO} (e : Ext Z H H') (h : CtHO K H Z t o) : CtHO K H' Z t o := by
  cases t with
  | lst l =>
    obtain ⟨vs, h1, h2⟩ := h
    exact ⟨vs, h1, Reps.ext e _ _ h2⟩
  | dct ks l =>
    obtain ⟨vs, h1, hl, h2⟩ := h
    exact ⟨vs, h1, hl, Reps.ext e _ _ h2⟩
  | ob x l =>
    obtain ⟨dx, vs, h1, hl, h2⟩ := h
    exact ⟨dx, vs, h1, hl, Reps.ext e _ _ h2⟩
theorem CtHO.zed {t : Ct} {o : HO} (hz : ∀ a o, ¬ Z a → H a = some o → ¬ Z' a) (h : CtHO K H Z t o) : CtHO K H Z' t o := by
  cases t with
  | lst l =>
    obtain ⟨vs, h1, h2⟩ := h
    exact ⟨vs, h1, Reps.zed hz _ _ h2⟩
  | dct ks l =>
    obtain ⟨vs, h1, hl, h2⟩ := h
    exact ⟨vs, h1, hl, Reps.zed hz _ _ h2⟩
  | ob x l =>
    obtain ⟨dx, vs, h1, hl, h2⟩ := h
    exact ⟨dx, vs, h1, hl, Reps.zed hz _ _ h2⟩
theorem RepC.ext {t : Ct} {p : Addr} (e : Ext Z H H') (hp : H' p = H p) (h : RepC K H Z t p) : RepC K H' Z t p := by
  obtain ⟨o, h1, h2⟩ := h
  exact ⟨o, by rw [hp]; exact h1, h2.ext e⟩
theorem RepC.zed {t : Ct} {p : Addr} (hz : ∀ a o, ¬ Z a → H a = some o → ¬ Z' a) (h : RepC K H Z t p) : RepC K H Z' t p := by
  obtain ⟨o, h1, h2⟩ := h
  exact ⟨o, h1, h2.zed hz⟩
theorem CtHO.toD {t : Ct} {o : HO} {p : Addr} (hz : ¬ Z p) (hp : H p = some o) (h : CtHO K H Z t o) : Rep K H Z t.toD (.ref p) := by
  cases t with
  | lst l =>
    obtain ⟨vs, rfl, h2⟩ := h
    show Rep K H Z (.lst l) (.ref p)
    simp only [Rep]
    exact ⟨p, vs, rfl, ⟨hz, .inl hp⟩, h2⟩
  | dct ks l =>
    obtain ⟨vs, rfl, hl, h2⟩ := h
    show Rep K H Z (.dct ks l) (.ref p)
    simp only [Rep]
    exact ⟨p, vs, rfl, hz, .inl hp, hl, h2⟩
  | ob x l =>
    obtain ⟨dx, vs, rfl, hl, h2⟩ := h
    show Rep K H Z (.ob x l) (.ref p)
    simp only [Rep]
    exact ⟨p, dx, vs, rfl, hz, hp, hl, h2⟩
theorem RepC.some {t : Ct} {p : Addr} (h : RepC K H Z t p) : ∃ o, H p = some o := ⟨_, h.choose_spec.1⟩
end
abbrev St := L2.St
end DL
set_option Elab.async false
set_option linter.all false
set_option maxRecDepth 100000
set_option maxHeartbeats 4000000
namespace DL
open PySem PySem.Spec PyProof.Rows L2
section
variable [CTab]
/-- what stays through a def's body: the cells handed in, the heap at the entry, what callers may change, data that must stand -/
structure Cz where
  P : Nat → Option Addr
  H0 : Hp
  Z0 : Addr → Prop
  ex : List (D × V)
  hid : List (Addr × Ct)
def isOwn (ρ : Env) (i : Nat) : Prop := ∃ t, ρ[i]? = some (some (.own t)) ∨ ρ[i]? = some (some (.inn t))
structure Rel (K : PySem.W.Frag) (c : Cz) (Z : Addr → Prop) (ρ : Env) (σ : St) (H : Hp) : Prop where
  frame : ∀ a o, (∀ i, c.P i ≠ some a) → c.H0 a = some o → H a = some o
  keep : ∀ a, H a = none → c.H0 a = none
  base : ∀ a, c.Z0 a → Z a ∧ c.H0 a ≠ none
  len : ρ.length = σ.length
  dom : ∀ a, Z a → H a ≠ none
  val : ∀ (i : Nat) (d : D), ρ[i]? = some (some (.val d)) → ∃ v, σ[i]? = some (some v) ∧ Rep K H Z d v
  own : ∀ (i : Nat) (t : Ct), ρ[i]? = some (some (.own t)) → ∃ p, σ[i]? = some (some (.ref p)) ∧ Z p ∧ c.H0 p = none ∧ RepC K H Z t p
  inn : ∀ (i : Nat) (t : Ct), ρ[i]? = some (some (.inn t)) → ∃ p, σ[i]? = some (some (.ref p)) ∧ Z p ∧ c.P i = some p ∧ RepC K H Z t p
  inj : ∀ (i j : Nat) (p : Addr), isOwn ρ i → isOwn ρ j → σ[i]? = some (some (.ref p)) → σ[j]? = some (some (.ref p)) → i = j
  xs : ∀ q ∈ c.ex, Rep K H Z q.1 q.2
  hd : ∀ q ∈ c.hid, Z q.1 ∧ RepC K H Z q.2 q.1 ∧ ∀ j, isOwn ρ j → σ[j]? ≠ some (some (.ref q.1))
end
section
variable [CTab] {K : PySem.W.Frag} {c : Cz} {Z : Addr → Prop} {ρ : Env} {σ : St} {H H' : Hp}
theorem same_upd {p : Addr} {o : HO} (h : H p = none) : Same H (upd H p o) := fun a u e => by
  rw [upd_ne (ne_of_none e h)]
  exact e
theorem Rel.zfree (r : Rel K c Z ρ σ H) {p : Addr} (h : H p = none) : ¬ Z p := fun z => r.dom p z h
theorem Rel.same (r : Rel K c Z ρ σ H) (s : Same H H') : Rel K c Z ρ σ H' where
  frame := fun a o n e => s a o (r.frame a o n e)
  keep := fun a e => r.keep a (s.free e)
  base := r.base
  len := r.len
  dom := fun a z e => r.dom a z (s.free e)
  val := fun i d e => by
    obtain ⟨v, h1, h2⟩ := r.val i d e
    exact ⟨v, h1, h2.ext (Ext.same s)⟩
  own := fun i t e => by
    obtain ⟨p, h1, h2, h3, h4⟩ := r.own i t e
    obtain ⟨o, ho⟩ := h4.some
    exact ⟨p, h1, h2, h3, h4.ext (Ext.same s) (by rw [s _ _ ho, ho])⟩
  inn := fun i t e => by
    obtain ⟨p, h1, h2, h3, h4⟩ := r.inn i t e
    obtain ⟨o, ho⟩ := h4.some
    exact ⟨p, h1, h2, h3, h4.ext (Ext.same s) (by rw [s _ _ ho, ho])⟩
  inj := r.inj
  xs := fun q hq => (r.xs q hq).ext (Ext.same s)
  hd := fun q hq => by
    obtain ⟨h1, h2, h3⟩ := r.hd q hq
    obtain ⟨o, ho⟩ := h2.some
    exact ⟨h1, h2.ext (Ext.same s) (by rw [s _ _ ho, ho]), h3⟩
/-- a slot takes data -/
theorem Rel.set (r : Rel K c Z ρ σ H) {i : Nat} {d : D} {v : V} (hd : Rep K H Z d v) : Rel K c Z (ρ.set i (some (.val d))) (σ.set i (some v)) H := by
  have other : ∀ {j : Nat} {w : W}, (ρ.set i (some (.val d)))[j]? = some (some w) → (∀ e, w ≠ .val e) → ρ[j]? = some (some w) ∧ j ≠ i := fun {j w} e hw => by
    by_cases h : i = j
    · subst h
      have hi : i < ρ.length := by
        have := (List.getElem?_eq_some_iff.mp e).1
        simpa using this
      rw [List.getElem?_set_self hi] at e
      exact absurd (Option.some.inj (Option.some.inj e)).symm (hw d)
    · rw [List.getElem?_set_ne h] at e
      exact ⟨e, fun z => h z.symm⟩
  have own' : ∀ j, isOwn (ρ.set i (some (.val d))) j → isOwn ρ j ∧ j ≠ i := fun j ⟨t, h⟩ => by
    rcases h with h | h
    · obtain ⟨h1, h2⟩ := other h (by intro e z; cases z)
      exact ⟨⟨t, .inl h1⟩, h2⟩
    · obtain ⟨h1, h2⟩ := other h (by intro e z; cases z)
      exact ⟨⟨t, .inr h1⟩, h2⟩
  refine ⟨r.frame, r.keep, r.base, by simp [r.len], r.dom, fun j e h => ?_, fun j t h => ?_, fun j t h => ?_, fun j k p hj hk h1 h2 => ?_, r.xs, fun q hq => ?_⟩
  · by_cases hj : i = j
    · subst hj
      have hi : i < ρ.length := by
        have := (List.getElem?_eq_some_iff.mp h).1
        simpa using this
      rw [List.getElem?_set_self hi] at h
      have e1 : d = e := by injection (Option.some.inj (Option.some.inj h))
      subst e1
      exact ⟨v, by rw [List.getElem?_set_self (by rw [← r.len]; exact hi)], hd⟩
    · rw [List.getElem?_set_ne hj] at h
      obtain ⟨u, h1, h2⟩ := r.val j e h
      exact ⟨u, by rw [List.getElem?_set_ne hj]; exact h1, h2⟩
  · obtain ⟨h1, hj⟩ := other h (by intro e z; cases z)
    obtain ⟨p, q1, q2⟩ := r.own j t h1
    exact ⟨p, by rw [List.getElem?_set_ne (Ne.symm hj)]; exact q1, q2⟩
  · obtain ⟨h1, hj⟩ := other h (by intro e z; cases z)
    obtain ⟨p, q1, q2⟩ := r.inn j t h1
    exact ⟨p, by rw [List.getElem?_set_ne (Ne.symm hj)]; exact q1, q2⟩
  · obtain ⟨a1, b1⟩ := own' j hj
    obtain ⟨a2, b2⟩ := own' k hk
    rw [List.getElem?_set_ne (Ne.symm b1)] at h1
    rw [List.getElem?_set_ne (Ne.symm b2)] at h2
    exact r.inj j k p a1 a2 h1 h2
  · obtain ⟨h1, h2, h3⟩ := r.hd q hq
    refine ⟨h1, h2, fun j hj e => ?_⟩
    obtain ⟨a1, b1⟩ := own' j hj
    rw [List.getElem?_set_ne (Ne.symm b1)] at e
    exact h3 j a1 e
/-- a slot is forgotten -/
theorem Rel.drop (r : Rel K c Z ρ σ H) (i : Nat) : Rel K c Z (ρ.set i none) σ H := by
  have other : ∀ {j : Nat} {w : W}, (ρ.set i none)[j]? = some (some w) → ρ[j]? = some (some w) := fun {j w} e => by
    by_cases h : i = j
    · subst h
      have hi : i < ρ.length := by
        have := (List.getElem?_eq_some_iff.mp e).1
        simpa using this
      rw [List.getElem?_set_self hi] at e
      cases e
    · rw [List.getElem?_set_ne h] at e
      exact e
  have own' : ∀ j, isOwn (ρ.set i none) j → isOwn ρ j := fun j ⟨t, h⟩ => ⟨t, h.elim (fun z => .inl (other z)) fun z => .inr (other z)⟩
  exact ⟨r.frame, r.keep, r.base, by simp [r.len], r.dom, fun j e h => r.val j e (other h), fun j t h => r.own j t (other h), fun j t h => r.inn j t (other h), fun j k p hj hk => r.inj j k p (own' j hj) (own' k hk), r.xs, fun q hq => ⟨(r.hd q hq).1, (r.hd q hq).2.1, fun j hj => (r.hd q hq).2.2 j (own' j hj)⟩⟩
/-- a thing of one's own is data from here on -/
theorem Rel.frz (r : Rel K c Z ρ σ H) {i : Nat} {t : Ct} (hi : ρ[i]? = some (some (.own t))) : ∃ Z', Rel K c Z' (ρ.set i (some (.val t.toD))) σ H := by
  obtain ⟨p, h1, h2, h3, o, h4, h5⟩ := r.own i _ hi
  have hil : i < ρ.length := (List.getElem?_eq_some_iff.mp hi).1
  have zs : ∀ a o, ¬ Z a → H a = some o → ¬ (Z a ∧ a ≠ p) := fun a o n _ z => n z.1
  have other : ∀ {j : Nat} {w : W}, (ρ.set i (some (.val t.toD)))[j]? = some (some w) → (∀ e, w ≠ .val e) → ρ[j]? = some (some w) ∧ j ≠ i := fun {j w} e hw => by
    by_cases h : i = j
    · subst h
      rw [List.getElem?_set_self hil] at e
      exact absurd (Option.some.inj (Option.some.inj e)).symm (hw _)
    · rw [List.getElem?_set_ne h] at e
      exact ⟨e, fun z => h z.symm⟩
  have own' : ∀ j, isOwn (ρ.set i (some (.val t.toD))) j → isOwn ρ j ∧ j ≠ i := fun j ⟨t, h⟩ => by
    rcases h with h | h
    · obtain ⟨h1, h2⟩ := other h (by intro e z; cases z)
      exact ⟨⟨t, .inl h1⟩, h2⟩
    · obtain ⟨h1, h2⟩ := other h (by intro e z; cases z)
      exact ⟨⟨t, .inr h1⟩, h2⟩
  refine ⟨fun a => Z a ∧ a ≠ p, ⟨r.frame, r.keep, fun a z => ⟨⟨(r.base a z).1, fun e => (r.base a z).2 (by rw [e]; exact h3)⟩, (r.base a z).2⟩, by simp [r.len], fun a z => r.dom a z.1, fun j e h => ?_, fun j t h => ?_, fun j t h => ?_, fun j k q hj hk a1 a2 => ?_, fun q hq => (r.xs q hq).zed zs, fun q hq => ?_⟩⟩
  · by_cases hj : i = j
    · subst hj
      rw [List.getElem?_set_self hil] at h
      have e1 : t.toD = e := by injection (Option.some.inj (Option.some.inj h))
      subst e1
      exact ⟨.ref p, h1, CtHO.toD (fun z => z.2 rfl) h4 (h5.zed zs)⟩
    · rw [List.getElem?_set_ne hj] at h
      obtain ⟨u, q1, q2⟩ := r.val j e h
      exact ⟨u, q1, q2.zed zs⟩
  · obtain ⟨g1, hj⟩ := other h (by intro e z; cases z)
    obtain ⟨q, q1, q2, q3, q4⟩ := r.own j t g1
    refine ⟨q, q1, ⟨q2, fun e => hj (r.inj j i p ⟨t, .inl g1⟩ ⟨_, .inl hi⟩ (by rw [q1, e]) h1)⟩, q3, q4.zed zs⟩
  · obtain ⟨g1, hj⟩ := other h (by intro e z; cases z)
    obtain ⟨q, q1, q2, q3, q4⟩ := r.inn j t g1
    refine ⟨q, q1, ⟨q2, fun e => hj (r.inj j i p ⟨t, .inr g1⟩ ⟨_, .inl hi⟩ (by rw [q1, e]) h1)⟩, q3, q4.zed zs⟩
  · obtain ⟨b1, _⟩ := own' j hj
    obtain ⟨b2, _⟩ := own' k hk
    exact r.inj j k q b1 b2 a1 a2
  · obtain ⟨g1, g2, g3⟩ := r.hd q hq
    exact ⟨⟨g1, fun e => g3 i ⟨_, .inl hi⟩ (by rw [e]; exact h1)⟩, g2.zed zs, fun j hj => g3 j (own' j hj).1⟩
/-- a new thing stands at p, that no slot holds yet -/
structure NewAt (K : PySem.W.Frag) (c : Cz) (Z : Addr → Prop) (ρ : Env) (σ : St) (H : Hp) (t : Ct) (p : Addr) : Prop where
  rel : Rel K c Z ρ σ H
  z : Z p
  new : c.H0 p = none
  at_ : RepC K H Z t p
  no : ∀ j, isOwn ρ j → σ[j]? ≠ some (some (.ref p))
  nh : ∀ q ∈ c.hid, q.1 ≠ p
theorem Rel.addZ (r : Rel K c Z ρ σ H) {p : Addr} {o : HO} (hp : H p = none) : Rel K c (fun a => Z a ∨ a = p) ρ σ (upd H p o) := by
  have s : Same H (upd H p o) := same_upd hp
  have zs : ∀ a u, ¬ Z a → H a = some u → ¬ (Z a ∨ a = p) := fun a u n e z => z.elim n fun q => by
    rw [q, hp] at e
    cases e
  have up : ∀ {d v}, Rep K H Z d v → Rep K (upd H p o) (fun a => Z a ∨ a = p) d v := fun h => (h.zed zs).ext (Ext.same s)
  have upC : ∀ {t q}, RepC K H Z t q → RepC K (upd H p o) (fun a => Z a ∨ a = p) t q := fun {t q} h => by
    obtain ⟨ob, e⟩ := h.some
    exact (h.zed zs).ext (Ext.same s) (by rw [s _ _ e, e])
  refine ⟨(r.same s).frame, (r.same s).keep, fun a z => ⟨.inl (r.base a z).1, (r.base a z).2⟩, r.len, fun a z => z.elim ((r.same s).dom a) fun q e => ?_, fun j e h => ?_, fun j u h => ?_, fun j u h => ?_, r.inj, fun q hq => up (r.xs q hq), fun q hq => ⟨.inl (r.hd q hq).1, upC (r.hd q hq).2.1, (r.hd q hq).2.2⟩⟩
  · rw [q, upd_same] at e
    cases e
  · obtain ⟨v, q1, q2⟩ := r.val j e h
    exact ⟨v, q1, up q2⟩
  · obtain ⟨q, q1, q2, q3, q4⟩ := r.own j u h
    exact ⟨q, q1, .inl q2, q3, upC q4⟩
  · obtain ⟨q, q1, q2, q3, q4⟩ := r.inn j u h
    exact ⟨q, q1, .inl q2, q3, upC q4⟩
theorem Rel.newAt (r : Rel K c Z ρ σ H) {p : Addr} {o : HO} {t : Ct} (hp : H p = none) (ht : CtHO K H Z t o) : NewAt K c (fun a => Z a ∨ a = p) ρ σ (upd H p o) t p := by
  have s : Same H (upd H p o) := same_upd hp
  have zs : ∀ a u, ¬ Z a → H a = some u → ¬ (Z a ∨ a = p) := fun a u n e z => z.elim n fun q => by
    rw [q, hp] at e
    cases e
  refine ⟨r.addZ hp, .inr rfl, r.keep p hp, ⟨o, upd_same, (ht.zed zs).ext (Ext.same s)⟩, fun j ⟨u, h⟩ e => ?_, fun q hq e => ?_⟩
  rotate_left
  · obtain ⟨_, h2, _⟩ := r.hd q hq
    obtain ⟨ob, ho⟩ := h2.some
    rw [e, hp] at ho
    cases ho
  rcases h with h | h
  · obtain ⟨q, h1, h2, _⟩ := r.own j u h
    rw [e] at h1
    cases h1
    exact r.dom _ h2 hp
  · obtain ⟨q, h1, h2, _⟩ := r.inn j u h
    rw [e] at h1
    cases h1
    exact r.dom _ h2 hp
/-- a slot takes a new thing of one's own -/
theorem NewAt.set {t : Ct} {p : Addr} (n : NewAt K c Z ρ σ H t p) (i : Nat) : Rel K c Z (ρ.set i (some (.own t))) (σ.set i (some (.ref p))) H := by
  have r := n.rel
  have slot : ∀ {j : Nat} {w : W}, (ρ.set i (some (.own t)))[j]? = some (some w) → (j = i ∧ i < ρ.length ∧ w = .own t) ∨ (j ≠ i ∧ ρ[j]? = some (some w)) := fun {j w} e => by
    by_cases h : i = j
    · subst h
      have hi : i < ρ.length := by
        have := (List.getElem?_eq_some_iff.mp e).1
        simpa using this
      rw [List.getElem?_set_self hi] at e
      exact .inl ⟨rfl, hi, (Option.some.inj (Option.some.inj e)).symm⟩
    · rw [List.getElem?_set_ne h] at e
      exact .inr ⟨fun z => h z.symm, e⟩
  refine ⟨r.frame, r.keep, r.base, by simp [r.len], r.dom, fun j e h => ?_, fun j u h => ?_, fun j u h => ?_, fun j k q hj hk a1 a2 => ?_, r.xs, fun q hq => ?_⟩
  · rcases slot h with ⟨_, _, e1⟩ | ⟨hj, h1⟩
    · cases e1
    · obtain ⟨v, q1, q2⟩ := r.val j e h1
      exact ⟨v, by rw [List.getElem?_set_ne (Ne.symm hj)]; exact q1, q2⟩
  · rcases slot h with ⟨hj, hi, e1⟩ | ⟨hj, h1⟩
    · subst hj
      cases e1
      exact ⟨p, by rw [List.getElem?_set_self (by rw [← r.len]; exact hi)], n.z, n.new, n.at_⟩
    · obtain ⟨q, q1, q2, q3, q4⟩ := r.own j u h1
      exact ⟨q, by rw [List.getElem?_set_ne (Ne.symm hj)]; exact q1, q2, q3, q4⟩
  · rcases slot h with ⟨_, _, e1⟩ | ⟨hj, h1⟩
    · cases e1
    · obtain ⟨q, q1, q2, q3, q4⟩ := r.inn j u h1
      exact ⟨q, by rw [List.getElem?_set_ne (Ne.symm hj)]; exact q1, q2, q3, q4⟩
  · have pick : ∀ m, isOwn (ρ.set i (some (.own t))) m → (σ.set i (some (.ref p)))[m]? = some (some (.ref q)) → (m = i ∧ q = p) ∨ (m ≠ i ∧ isOwn ρ m ∧ σ[m]? = some (some (.ref q))) := fun m ⟨u, h⟩ a => by
      have hh : (m = i ∧ i < ρ.length) ∨ (m ≠ i ∧ isOwn ρ m) := by
        rcases h with h | h
        · rcases slot h with ⟨hm, hi, _⟩ | ⟨hm, h1⟩
          · exact .inl ⟨hm, hi⟩
          · exact .inr ⟨hm, u, .inl h1⟩
        · rcases slot h with ⟨hm, hi, _⟩ | ⟨hm, h1⟩
          · exact .inl ⟨hm, hi⟩
          · exact .inr ⟨hm, u, .inr h1⟩
      rcases hh with ⟨hm, hi⟩ | ⟨hm, h1⟩
      · subst hm
        rw [List.getElem?_set_self (by rw [← r.len]; exact hi)] at a
        cases a
        exact .inl ⟨rfl, rfl⟩
      · rw [List.getElem?_set_ne (Ne.symm hm)] at a
        exact .inr ⟨hm, h1, a⟩
    rcases pick j hj a1 with ⟨e1, e2⟩ | ⟨e1, o1, s1⟩
    · rcases pick k hk a2 with ⟨e3, _⟩ | ⟨_, o2, s2⟩
      · rw [e1, e3]
      · subst e2
        exact absurd s2 (n.no k o2)
    · rcases pick k hk a2 with ⟨_, e4⟩ | ⟨_, o2, s2⟩
      · subst e4
        exact absurd s1 (n.no j o1)
      · exact r.inj j k q o1 o2 s1 s2
  · obtain ⟨g1, g2, g3⟩ := r.hd q hq
    refine ⟨g1, g2, fun j ⟨u, h⟩ e => ?_⟩
    have hh : j = i ∧ i < ρ.length ∨ j ≠ i ∧ isOwn ρ j := by
      rcases h with h | h
      · rcases slot h with ⟨hm, hi, _⟩ | ⟨hm, h1⟩
        · exact .inl ⟨hm, hi⟩
        · exact .inr ⟨hm, u, .inl h1⟩
      · rcases slot h with ⟨hm, hi, _⟩ | ⟨hm, h1⟩
        · exact .inl ⟨hm, hi⟩
        · exact .inr ⟨hm, u, .inr h1⟩
    rcases hh with ⟨hm, hi⟩ | ⟨hm, h1⟩
    · subst hm
      rw [List.getElem?_set_self (by rw [← r.len]; exact hi)] at e
      cases e
      exact n.nh q hq rfl
    · rw [List.getElem?_set_ne (Ne.symm hm)] at e
      exact g3 j h1 e
/-- what a slot holds of one's own, or handed in -/
inductive Hold : W → Ct → Prop where
  | own (t : Ct) : Hold (.own t) t
  | inn (t : Ct) : Hold (.inn t) t
def W.put : W → Ct → W
  | .own _, t => .own t
  | .inn _, t => .inn t
  | w, _ => w
theorem Rel.hold (r : Rel K c Z ρ σ H) {i : Nat} {w : W} {t : Ct} (hi : ρ[i]? = some (some w)) (h : Hold w t) : ∃ p, σ[i]? = some (some (.ref p)) ∧ Z p ∧ RepC K H Z t p := by
  cases h with
  | own =>
    obtain ⟨p, h1, h2, _, h3⟩ := r.own i _ hi
    exact ⟨p, h1, h2, h3⟩
  | inn =>
    obtain ⟨p, h1, h2, _, h3⟩ := r.inn i _ hi
    exact ⟨p, h1, h2, h3⟩
theorem Hold.isOwn {i : Nat} {w : W} {t : Ct} (h : Hold w t) (hi : ρ[i]? = some (some w)) : isOwn ρ i := by
  cases h with
  | own => exact ⟨t, .inl hi⟩
  | inn => exact ⟨t, .inr hi⟩
/-- one thing of one's own has changed, nothing else; new objects may have come -/
theorem Rel.put (r : Rel K c Z ρ σ H) {i : Nat} {w : W} {t t' : Ct} {p : Addr} (hi : ρ[i]? = some (some w)) (h : Hold w t) (hs : σ[i]? = some (some (.ref p)))
    (hk : ∀ a o, a ≠ p → H a = some o → H' a = some o) (hn : RepC K H' Z t' p) : Rel K c Z (ρ.set i (some (w.put t'))) σ H' := by
  have hil : i < ρ.length := (List.getElem?_eq_some_iff.mp hi).1
  have hz : Z p := by
    obtain ⟨q, h1, h2, _⟩ := r.hold hi h
    rw [hs] at h1
    cases h1
    exact h2
  have e0 : Ext Z H H' := fun a o n e => hk a o (fun q => n (by rw [q]; exact hz)) e
  have alive : ∀ a, H' a = none → H a = none := fun a e => by
    cases q : H a with
    | none => rfl
    | some o =>
      by_cases ha : a = p
      · obtain ⟨o', ho⟩ := hn.some
        rw [ha, ho] at e
        cases e
      · rw [hk a o ha q] at e
        cases e
  have hw : w.put t' = .own t' ∧ w = .own t ∨ w.put t' = .inn t' ∧ w = .inn t := by
    cases h with
    | own => exact .inl ⟨rfl, rfl⟩
    | inn => exact .inr ⟨rfl, rfl⟩
  have slot : ∀ {j : Nat} {x : W}, (ρ.set i (some (w.put t')))[j]? = some (some x) → (j = i ∧ x = w.put t') ∨ (j ≠ i ∧ ρ[j]? = some (some x)) := fun {j x} e => by
    by_cases hj : i = j
    · subst hj
      rw [List.getElem?_set_self hil] at e
      exact .inl ⟨rfl, (Option.some.inj (Option.some.inj e)).symm⟩
    · rw [List.getElem?_set_ne hj] at e
      exact .inr ⟨fun z => hj z.symm, e⟩
  have own' : ∀ j, DL.isOwn (ρ.set i (some (w.put t'))) j → DL.isOwn ρ j := fun j ⟨u, hu⟩ => by
    rcases hu with hu | hu
    · rcases slot hu with ⟨e, _⟩ | ⟨_, e⟩
      · rw [e]
        exact h.isOwn hi
      · exact ⟨u, .inl e⟩
    · rcases slot hu with ⟨e, _⟩ | ⟨_, e⟩
      · rw [e]
        exact h.isOwn hi
      · exact ⟨u, .inr e⟩
  have keepC : ∀ {j q u}, DL.isOwn ρ j → j ≠ i → σ[j]? = some (some (.ref q)) → RepC K H Z u q → RepC K H' Z u q := fun {j q u} oj hj hq hu => by
    have hne : q ≠ p := fun e => hj (r.inj j i p oj (h.isOwn hi) (by rw [hq, e]) hs)
    obtain ⟨o, ho⟩ := hu.some
    exact hu.ext e0 (by rw [hk q o hne ho, ho])
  refine ⟨fun a o n e => ?_, fun a e => r.keep a (alive a e), r.base, by simp [r.len], fun a z e => r.dom a z (alive a e), fun j d hd => ?_, fun j u hu => ?_, fun j u hu => ?_, fun j k q hj hkk a1 a2 => r.inj j k q (own' j hj) (own' k hkk) a1 a2, fun q hq => (r.xs q hq).ext e0, fun q hq => ?_⟩
  rotate_right
  · obtain ⟨g1, g2, g3⟩ := r.hd q hq
    have hne : q.1 ≠ p := fun e => g3 i (h.isOwn hi) (by rw [e]; exact hs)
    obtain ⟨o, ho⟩ := g2.some
    exact ⟨g1, g2.ext e0 (by rw [hk _ o hne ho, ho]), fun j hj => g3 j (own' j hj)⟩
  · refine hk a o (fun q => ?_) (r.frame a o n e)
    subst q
    rcases hw with ⟨_, e2⟩ | ⟨_, e2⟩
    · subst e2
      obtain ⟨q, h1, _, h3, _⟩ := r.own i _ hi
      rw [hs] at h1
      cases h1
      rw [h3] at e
      cases e
    · subst e2
      obtain ⟨q, h1, _, h3, _⟩ := r.inn i _ hi
      rw [hs] at h1
      cases h1
      exact n i h3
  · rcases slot hd with ⟨_, e⟩ | ⟨_, e⟩
    · rcases hw with ⟨e2, _⟩ | ⟨e2, _⟩ <;> (rw [e2] at e; cases e)
    · obtain ⟨v, q1, q2⟩ := r.val j d e
      exact ⟨v, q1, q2.ext e0⟩
  · rcases slot hu with ⟨ej, e⟩ | ⟨hj, e⟩
    · rcases hw with ⟨e2, e3⟩ | ⟨e2, _⟩
      · rw [e2] at e
        cases e
        subst e3 ej
        obtain ⟨q, h1, h2, h3, _⟩ := r.own j _ hi
        rw [hs] at h1
        cases h1
        exact ⟨_, hs, h2, h3, hn⟩
      · rw [e2] at e
        cases e
    · obtain ⟨q, q1, q2, q3, q4⟩ := r.own j u e
      exact ⟨q, q1, q2, q3, keepC ⟨u, .inl e⟩ hj q1 q4⟩
  · rcases slot hu with ⟨ej, e⟩ | ⟨hj, e⟩
    · rcases hw with ⟨e2, _⟩ | ⟨e2, e3⟩
      · rw [e2] at e
        cases e
      · rw [e2] at e
        cases e
        subst e3 ej
        obtain ⟨q, h1, h2, h3, _⟩ := r.inn j _ hi
        rw [hs] at h1
        cases h1
        exact ⟨_, hs, h2, h3, hn⟩
    · obtain ⟨q, q1, q2, q3, q4⟩ := r.inn j u e
      exact ⟨q, q1, q2, q3, keepC ⟨u, .inr e⟩ hj q1 q4⟩
end
end DL
set_option Elab.async false
set_option linter.all false
set_option maxRecDepth 100000
set_option maxHeartbeats 4000000
namespace DL
open PySem PySem.Spec PyProof.Rows L2
variable [CTab]
/-! ### readings told by data -/
abbrev RG (α β : Type) := PySem.W.Frag → St → Hp → (Addr → Prop) → α → β → Prop
def rD : RG D V := fun K _ H Z d v => Rep K H Z d v
def rB : RG Bool Bool := fun _ _ _ _ a b => a = b
def rA : RG (List D) (List V) := fun K _ H Z l vs => Reps K H Z l vs
def tR {α β : Type} (K : PySem.W.Frag) (E : XK) (R : RG α β) (c : Cz) (Z : Addr → Prop) (σ : St) (H : Hp) (Q : β → Hp → Prop) : Res α → Prop
  | .fail => False
  | .ok a ρ => ∀ b H', Rel K c Z ρ σ H' → Ext Z H H' → R K σ H' Z a b → Q b H'
  | .exc x l ρ => ∀ ed vs H', Rel K c Z ρ σ H' → Ext Z H H' → H' ed = some (.xd ((cF x).zip vs)) → vs.length ≤ (cF x).length → Reps K H' Z l vs → E (.ref (He.ga K (cN x))) (some ed) H'
def tG {α β : Type} (K : PySem.W.Frag) (E : XK) (R : RG α β) (m : M α) : St → Hp → (β → Hp → Prop) → Prop :=
  fun σ H Q => ∃ c Z ρ, Rel K c Z ρ σ H ∧ tR K E R c Z σ H Q (m ρ)
abbrev tD (K : PySem.W.Frag) (E : XK) (m : M D) : TE := tG K E rD m
abbrev tT (K : PySem.W.Frag) (E : XK) (m : M Bool) : TT := tG K E rB m
abbrev tAr (K : PySem.W.Frag) (E : XK) (m : M (List D)) : TA := tG K E rA m
theorem _root_.L2.PE.imp {X : Cx} {e : Expr} {t t' : TE} (h : PE X e t) (i : ∀ σ H Q, t' σ H Q → t σ H Q) : PE X e t' := ⟨fun pins s σ H Q I q => h.run pins s σ H Q I (i σ H Q q)⟩
theorem _root_.L2.PT.imp {X : Cx} {e : Expr} {t t' : TT} (h : PT X e t) (i : ∀ σ H Q, t' σ H Q → t σ H Q) : PT X e t' := ⟨fun pins s σ H Q I q => h.run pins s σ H Q I (i σ H Q q)⟩
theorem _root_.L2.PA.imp {X : Cx} {e : List Expr} {t t' : TA} (h : PA X e t) (i : ∀ σ H Q, t' σ H Q → t σ H Q) : PA X e t' := ⟨fun pos pins s σ H Q I q => h.run pos pins s σ H Q I (i σ H Q q)⟩
theorem _root_.L2.PS.imp {X : Cx} {e : Stmt} {t t' : TS} (h : PS X e t) (i : ∀ D σ H, t' D σ H → t D σ H) : PS X e t' := ⟨fun pins s σ H D I q => h.run pins s σ H D I (i D σ H q)⟩
theorem _root_.L2.PSs.imp {X : Cx} {e : List Stmt} {t t' : TS} (h : PSs X e t) (i : ∀ D σ H, t' D σ H → t D σ H) : PSs X e t' := ⟨fun pins s σ H D I q => h.run pins s σ H D I (i D σ H q)⟩
section
variable {α β γ δ : Type} {K : PySem.W.Frag} {E : XK} {Ra : RG α β} {Rc : RG γ δ} {c : Cz} {Z : Addr → Prop} {ρ : Env} {σ : St} {H H1 : Hp} {Q : δ → Hp → Prop} {Q' : β → Hp → Prop}
theorem tR.ext {r : Res γ} (h : tR K E Rc c Z σ H Q r) (e : Ext Z H H1) : tR K E Rc c Z σ H1 Q r := by
  cases r with
  | fail => exact h
  | ok a ρ => exact fun b H' h1 h2 h3 => h b H' h1 (e.trans h2) h3
  | exc x l ρ => exact fun ed vs H' h1 h2 h3 h4 h5 => h ed vs H' h1 (e.trans h2) h3 h4 h5
theorem tR.bind {r : Res α} {k : α → Env → Res γ} (h : tR K E Rc c Z σ H Q (bindR r k)) (f : ∀ a ρ1 b H1, Rel K c Z ρ1 σ H1 → Ext Z H H1 → Ra K σ H1 Z a b → tR K E Rc c Z σ H1 Q (k a ρ1) → Q' b H1) : tR K E Ra c Z σ H Q' r := by
  cases r with
  | fail => exact h
  | ok a ρ => exact fun b H' h1 h2 h3 => f a ρ b H' h1 h2 h3 (tR.ext h h2)
  | exc x l ρ => exact h
/-- the first part of a reading -/
theorem tG.bind {m : M α} {k : α → Env → Res γ} (h : tG K E Rc (fun ρ => bindR (m ρ) k) σ H Q) (f : ∀ c Z a ρ1 b H1, Rel K c Z ρ1 σ H1 → Ra K σ H1 Z a b → tR K E Rc c Z σ H1 Q (k a ρ1) → Q' b H1) : tG K E Ra m σ H Q' := by
  obtain ⟨c, Z, ρ, r, q⟩ := h
  exact ⟨c, Z, ρ, r, q.bind fun a ρ1 b H1 h1 _ h3 h4 => f c Z a ρ1 b H1 h1 h3 h4⟩
theorem tR.done {a : γ} {b : δ} (r : Rel K c Z ρ σ H) (h : tR K E Rc c Z σ H Q (.ok a ρ)) (q : Rc K σ H Z a b) : Q b H := h b H r Ext.refl q
/-- .. behind new objects -/
theorem tR.new {a : γ} {b : δ} (r : Rel K c Z ρ σ H) (h : tR K E Rc c Z σ H Q (.ok a ρ)) (s : Same H H1) (q : Rc K σ H1 Z a b) : Q b H1 := h b H1 (r.same s) (Ext.same s) q
end
/-! ### names, constants -/
def mVar (i : Nat) : M D := fun ρ => match ρ[i]? with
  | some (some (.val d)) => .ok d ρ
  | _ => .fail
def mC (d : D) : M D := fun ρ => .ok d ρ
section
variable {X : Cx} {E : XK} {pos : Pos}
theorem d_var (i : Nat) {x : Str} (hN : X.N[i]? = some x := by rfl) (hv : Vis X.env.scope x := by first | exact Or.inl rfl | exact Or.inr (Or.inl rfl) | exact Or.inr (Or.inr rfl)) (hd : (x == ("__debug__" : Str)) = false := by decide)
    (hcd : (x == ("__classdict__" : Str)) = false := by decide) : PE X (.Name x pos) (tD X.K E (mVar i)) := by
  refine (pe_var hN hv hd hcd).imp fun σ H Q h => ?_
  obtain ⟨c, Z, ρ, r, q⟩ := h
  unfold mVar at q
  split at q
  · rename_i d hd
    obtain ⟨v, h1, h2⟩ := r.val i d hd
    exact ⟨v, h1, q.done r h2⟩
  · exact q.elim
theorem d_const {e : Expr} {d : D} {v : V} (h : PE X e (tC v)) (hr : ∀ H Z, Rep X.K H Z d v) : PE X e (tD X.K E (mC d)) :=
  h.imp fun σ H Q ⟨c, Z, ρ, r, q⟩ => tR.done r q (hr H Z)
theorem d_int {i : Int} {j} : PE X (.Constant (.int i) j pos) (tD X.K E (mC (.int i))) := d_const pe_int fun _ _ => rfl
theorem d_str {x : Str} {j} : PE X (.Constant (.str x) j pos) (tD X.K E (mC (.str x))) := d_const pe_str fun _ _ => rfl
theorem d_bl {b : Bool} {j} : PE X (.Constant (.bool b) j pos) (tD X.K E (mC (.bl b))) := d_const pe_bl fun _ _ => rfl
theorem d_non {j} : PE X (.Constant .none j pos) (tD X.K E (mC .non)) := d_const pe_non fun _ _ => rfl
/-- a name of the module that stands for data -/
theorem d_glob {x : Str} {v : V} {u : Value} {d : D} (hg : Gl X x) (hm : X.mg x = some u) (r : RelV v u) (hr : ∀ H Z, Rep X.K H Z d v) (hd : (x == ("__debug__" : Str)) = false := by decide) : PE X (.Name x pos) (tD X.K E (mC d)) :=
  d_const (pe_glob hg hm r hd) hr
end
/-! ### two-place operations -/
def m1 (f : D → Option D) (ma : M D) : M D := fun ρ => bindR (ma ρ) fun a ρ => liftO (f a) ρ
def m2 (f : D → D → Option D) (ma mb : M D) : M D := fun ρ => bindR (ma ρ) fun a ρ => bindR (mb ρ) fun b ρ => liftO (f a b) ρ
/-- an operation on values does what f does on data -/
def OpD (K : PySem.W.Frag) (r : R2) (f : D → D → Option D) : Prop := ∀ (H : Hp) (Z : Addr → Prop) (a b d : D) (x y : V) (Q : VK), (∀ p, Z p → H p ≠ none) → Rep K H Z a x → Rep K H Z b y → f a b = some d →
  (∀ v H', Same H H' → Rep K H' Z d v → Q v H') → r x y H Q
def UnD (K : PySem.W.Frag) (r : V → Hp → VK → Prop) (f : D → Option D) : Prop := ∀ (H : Hp) (Z : Addr → Prop) (a d : D) (x : V) (Q : VK), (∀ p, Z p → H p ≠ none) → Rep K H Z a x → f a = some d →
  (∀ v H', Same H H' → Rep K H' Z d v → Q v H') → r x H Q
section
variable {X : Cx} {E : XK} {pos : Pos} {a b e : Expr} {ma mb : M D} {f : D → D → Option D} {K : PySem.W.Frag}
theorem tR.lift {o : Option D} {c : Cz} {Z : Addr → Prop} {ρ : Env} {σ : St} {H : Hp} {Q : VK} (h : tR K E rD c Z σ H Q (liftO o ρ)) (r : Rel K c Z ρ σ H) : ∃ d, o = some d ∧ ∀ v H', Same H H' → Rep K H' Z d v → Q v H' := by
  cases o with
  | none => exact h.elim
  | some d => exact ⟨d, rfl, fun v H' s q => h v H' (r.same s) (Ext.same s) q⟩
theorem op_gen {r : R2} (hf : OpD K r f) {σ : St} {H : Hp} {Q : VK} (h : tD K E (m2 f ma mb) σ H Q) : tOp r (tD K E ma) (tD K E mb) σ H Q := by
  obtain ⟨c, Z, ρ, r0, q⟩ := h
  refine ⟨c, Z, ρ, r0, q.bind fun x ρ1 u H1 r1 e1 hx q1 => ⟨c, Z, ρ1, r1, q1.bind fun y ρ2 v H2 r2 e2 hy q2 => ?_⟩⟩
  obtain ⟨d, hd, k⟩ := q2.lift r2
  exact hf H2 Z x y d u v Q r2.dom (hx.ext e2) hy hd k
theorem d_op {op : Operator} {r : R2} (ho : OpR X (binaryOp op) r) (hf : OpD X.K r f) (ha : PE X a (tD X.K E ma)) (hb : PE X b (tD X.K E mb)) : PE X (.BinOp a op b pos) (tD X.K E (m2 f ma mb)) :=
  (pe_op ho ha hb).imp fun _ _ _ h => op_gen hf h
theorem d_cmp {op : CmpOp} {r : R2} (ho : OpR X (compareOp op) r) (hf : OpD X.K r f) (ha : PE X a (tD X.K E ma)) (hb : PE X b (tD X.K E mb)) (hm : behindInMarks op b = false) : PE X (.Compare a [op] [b] pos) (tD X.K E (m2 f ma mb)) :=
  (pe_cmpR ho ha hb hm).imp fun _ _ _ h => op_gen hf h
theorem d_ix {r : R2} (hr : IxR X r) (hf : OpD X.K r f) (ha : PE X a (tD X.K E ma)) (hb : PE X b (tD X.K E mb)) (hs : PlainIx b := by exact fun _ _ => rfl) : PE X (.Subscript a b pos) (tD X.K E (m2 f ma mb)) :=
  (pe_ix hr ha hb hs).imp fun _ _ _ h => op_gen hf h
theorem un_gen {g : D → Option D} {r : V → Hp → VK → Prop} (hf : UnD K r g) {σ : St} {H : Hp} {Q : VK} (h : tD K E (m1 g ma) σ H Q) : tUn r (tD K E ma) σ H Q := by
  obtain ⟨c, Z, ρ, r0, q⟩ := h
  refine ⟨c, Z, ρ, r0, q.bind fun x ρ1 u H1 r1 e1 hx q1 => ?_⟩
  obtain ⟨d, hd, k⟩ := q1.lift r1
  exact hf H1 Z x d u Q r1.dom hx hd k
theorem d_un {op : UnaryOp} {g : D → Option D} {r : V → Hp → VK → Prop} (ho : UnR X (unaryOp op) r) (hf : UnD X.K r g) (ha : PE X a (tD X.K E ma)) : PE X (.UnaryOp op a pos) (tD X.K E (m1 g ma)) :=
  (pe_un ho ha).imp fun _ _ _ h => un_gen hf h
end
theorem OpD.orL {K : PySem.W.Frag} {r r' : R2} {f g : D → D → Option D} (h : OpD K r f) (h' : OpD K r' g) : OpD K (fun x y H Q => r x y H Q ∨ r' x y H Q) (fun a b => match f a b with | some d => some d | none => g a b) := by
  intro H Z a b d x y Q hz hx hy hd k
  dsimp only at hd
  split at hd
  · rename_i e he
    cases hd
    exact .inl (h H Z a b _ x y Q hz hx hy he k)
  · exact .inr (h' H Z a b d x y Q hz hx hy hd k)
end DL
set_option Elab.async false
set_option linter.all false
set_option maxRecDepth 100000
set_option maxHeartbeats 4000000
namespace DL
open PySem PySem.Spec PyProof.Rows L2
variable [CTab]
/-! ### data as the model compares it -/
mutual
def toPy : D → Option PyData
  | .non => some .none
  | .bl b => some (.bool b)
  | .int i => some (.int i)
  | .str x => some (.str x)
  | .lst l => (toPys l).map .list
  | .rol l => (toPys l).map .list
  | .tup l => (toPys l).map .tuple
  | .dct _ _ => none
  | .ob _ _ => none
def toPys : List D → Option (List PyData)
  | [] => some []
  | d :: l => (toPy d).bind fun p => (toPys l).map fun q => p :: q
end
/-- a scalar -/
def D.sc : D → Option V
  | .non => some .non
  | .bl b => some (.bl b)
  | .int i => some (.int i)
  | .str x => some (.str x)
  | _ => none
def scs : List D → Option (List V)
  | [] => some []
  | d :: l => d.sc.bind fun v => (scs l).map fun r => v :: r
section
variable {K : PySem.W.Frag} {H : Hp} {Z : Addr → Prop}
theorem D.sc_rep {d : D} {v x : V} (h : d.sc = some v) (r : Rep K H Z d x) : x = v := by
  cases d <;> simp only [D.sc, Option.some.injEq, reduceCtorEq] at h <;> (subst h; exact r)
theorem scs_rep : ∀ {l : List D} {vs xs : List V}, scs l = some vs → Reps K H Z l xs → xs = vs
  | [], vs, xs, h, r => by
    simp only [scs, Option.some.injEq] at h
    subst h
    exact r
  | d :: l, vs, xs, h, r => by
    simp only [scs] at h
    obtain ⟨v, r', e, h1, h2⟩ := r.inv
    cases hd : d.sc with
    | none => rw [hd] at h; cases h
    | some u =>
      rw [hd] at h
      cases hl : scs l with
      | none => rw [hl] at h; cases h
      | some us =>
        rw [hl] at h
        have e2 : u :: us = vs := Option.some.inj h
        subst e2
        rw [e, D.sc_rep hd h1, scs_rep hl h2]
theorem sc_flat {d : D} {v : V} (h : d.sc = some v) : flatV v = true := by
  cases d <;> simp only [D.sc, Option.some.injEq, reduceCtorEq] at h <;> (subst h; rfl)
theorem scs_flat : ∀ {l : List D} {vs : List V}, scs l = some vs → vs.all flatV = true
  | [], vs, h => by
    simp only [scs, Option.some.injEq] at h
    subst h
    rfl
  | d :: l, vs, h => by
    simp only [scs] at h
    cases hd : d.sc with
    | none => rw [hd] at h; cases h
    | some u =>
      rw [hd] at h
      cases hl : scs l with
      | none => rw [hl] at h; cases h
      | some us =>
        rw [hl] at h
        have e2 : u :: us = vs := Option.some.inj h
        subst e2
        simp [sc_flat hd, scs_flat hl]
mutual
theorem toPy_dp : ∀ {d : D} {p : PyData} {v : V}, toPy d = some p → Rep K H Z d v → Dp K H v p
  | .non, p, v, h, r => by
    simp only [toPy, Option.some.injEq] at h
    subst h
    cases (show v = .non from r)
    exact .non
  | .bl b, p, v, h, r => by
    simp only [toPy, Option.some.injEq] at h
    subst h
    cases (show v = .bl b from r)
    exact .bl b
  | .int i, p, v, h, r => by
    simp only [toPy, Option.some.injEq] at h
    subst h
    cases (show v = .int i from r)
    exact .int i
  | .str x, p, v, h, r => by
    simp only [toPy, Option.some.injEq] at h
    subst h
    cases (show v = .str x from r)
    exact .str x
  | .lst l, p, v, h, r => by
    simp only [toPy] at h
    simp only [Rep] at r
    obtain ⟨a, vs, e, h1, h2⟩ := r
    cases hl : toPys l with
    | none => rw [hl] at h; cases h
    | some q =>
      rw [hl] at h
      have e2 : PyData.list q = p := Option.some.inj h
      subst e2 e
      exact .lst h1.sq (toPys_dp hl h2)
  | .rol l, p, v, h, r => by
    simp only [toPy] at h
    simp only [Rep] at r
    obtain ⟨a, vs, e, h1, h2⟩ := r
    cases hl : toPys l with
    | none => rw [hl] at h; cases h
    | some q =>
      rw [hl] at h
      have e2 : PyData.list q = p := Option.some.inj h
      subst e2 e
      exact .lst h1.sq (toPys_dp hl h2)
  | .tup l, p, v, h, r => by
    simp only [toPy] at h
    simp only [Rep] at r
    obtain ⟨a, vs, e, h1, h2⟩ := r
    cases hl : toPys l with
    | none => rw [hl] at h; cases h
    | some q =>
      rw [hl] at h
      have e2 : PyData.tuple q = p := Option.some.inj h
      subst e2 e
      exact .tup h1.sq (toPys_dp hl h2)
  | .dct _ _, p, v, h, r => by cases h
  | .ob _ _, p, v, h, r => by cases h
theorem toPys_dp : ∀ {l : List D} {ps : List PyData} {vs : List V}, toPys l = some ps → Reps K H Z l vs → DpAll K H vs ps
  | [], ps, vs, h, r => by
    simp only [toPys, Option.some.injEq] at h
    subst h
    cases (show vs = [] from r)
    exact .nil
  | d :: l, ps, vs, h, r => by
    simp only [toPys] at h
    obtain ⟨v, r', e, h1, h2⟩ := r.inv
    cases hd : toPy d with
    | none => rw [hd] at h; cases h
    | some p =>
      rw [hd] at h
      cases hl : toPys l with
      | none => rw [hl] at h; cases h
      | some q =>
        rw [hl] at h
        have e2 : p :: q = ps := Option.some.inj h
        subst e2 e
        exact .cons (toPy_dp hd h1) (toPys_dp hl h2)
end
end
/-- a comparison by values does what f does on data -/
def CmpD (X : Cx) (op : CmpOp) (f : D → D → Option D) : Prop := ∃ r, OpR X (compareOp op) r ∧ OpD X.K r f
/-! ### ==, != -/
def eqDeep (a b : D) : Option Bool := match toPy a, toPy b with
  | some p, some q => if (SeqAt.shaped p && SeqAt.shaped q) = true then some (PyData.eqv p q) else none
  | _, _ => none
def eqB (a b : D) : Option Bool := match a.sc, b.sc with
  | some x, some y => if scal x y = true then some (decide (x = y)) else eqDeep a b
  | _, _ => eqDeep a b
def dEq (a b : D) : Option D := (eqB a b).map .bl
def dNe (a b : D) : Option D := (eqB a b).map fun k => .bl (!k)
section
variable {K : PySem.W.Frag}
theorem eqDeep_ok {H : Hp} {Z : Addr → Prop} {a b : D} {x y : V} {k : Bool} (h : eqDeep a b = some k) (ra : Rep K H Z a x) (rb : Rep K H Z b y) :
    ∃ d e, Dp K H x d ∧ Dp K H y e ∧ SeqAt.shaped d = true ∧ SeqAt.shaped e = true ∧ k = PyData.eqv d e := by
  unfold eqDeep at h
  split at h
  · rename_i p q hp hq
    split at h
    · rename_i hs
      cases h
      obtain ⟨h1, h2⟩ := Bool.and_eq_true_iff.mp hs
      exact ⟨p, q, toPy_dp hp ra, toPy_dp hq rb, h1, h2, rfl⟩
    · cases h
  · cases h
theorem eqB_ok {H : Hp} {Z : Addr → Prop} {a b : D} {x y : V} {k : Bool} (h : eqB a b = some k) (ra : Rep K H Z a x) (rb : Rep K H Z b y) :
    (scal x y = true ∧ k = decide (x = y)) ∨ ∃ d e, Dp K H x d ∧ Dp K H y e ∧ SeqAt.shaped d = true ∧ SeqAt.shaped e = true ∧ k = PyData.eqv d e := by
  unfold eqB at h
  split at h
  · rename_i u v hu hv
    split at h
    · rename_i hs
      cases h
      rw [D.sc_rep hu ra, D.sc_rep hv rb]
      exact .inl ⟨hs, rfl⟩
    · exact .inr (eqDeep_ok h ra rb)
  · exact .inr (eqDeep_ok h ra rb)
end
section
variable {X : Cx} {E : XK} {pos : Pos} {a b : Expr} {ma mb : M D} {K : PySem.W.Frag}
theorem eq_opD : OpD K (fun x y H Q => rEq x y H Q ∨ rEqD K x y H Q) dEq := by
  intro H Z a b d x y Q hz ra rb h k
  unfold dEq at h
  cases e : eqB a b with
  | none => rw [e] at h; cases h
  | some c =>
    rw [e] at h
    have e2 : D.bl c = d := Option.some.inj h
    subst e2
    rcases eqB_ok e ra rb with ⟨h1, h2⟩ | ⟨p, q, h1, h2, h3, h4, h5⟩
    · exact .inl ⟨h1, k _ H (Same.refl H) (by rw [← h2]; exact rfl)⟩
    · exact .inr ⟨p, q, h1, h2, h3, h4, k _ H (Same.refl H) (by rw [← h5]; exact rfl)⟩
theorem ne_opD : OpD K (fun x y H Q => rNe x y H Q ∨ rNeD K x y H Q) dNe := by
  intro H Z a b d x y Q hz ra rb h k
  unfold dNe at h
  cases e : eqB a b with
  | none => rw [e] at h; cases h
  | some c =>
    rw [e] at h
    have e2 : D.bl (!c) = d := Option.some.inj h
    subst e2
    rcases eqB_ok e ra rb with ⟨h1, h2⟩ | ⟨p, q, h1, h2, h3, h4, h5⟩
    · exact .inl ⟨h1, k _ H (Same.refl H) (by rw [← h2]; exact rfl)⟩
    · exact .inr ⟨p, q, h1, h2, h3, h4, k _ H (Same.refl H) (by rw [← h5]; exact rfl)⟩
theorem c_eq {k : Nat} (hr : Room k X.A) : CmpD X .Eq dEq := ⟨_, op_eq.or (op_eqD hr.units), eq_opD⟩
theorem c_ne {k : Nat} (hr : Room k X.A) : CmpD X .NotEq dNe := ⟨_, op_ne.or (op_neD hr.units), ne_opD⟩
end
/-! ### order -/
def dLt : D → D → Option D
  | .int i, .int j => some (.bl (decide (i < j)))
  | .str x, .str y => some (.bl (decide (x.cps.toList < y.cps.toList)))
  | _, _ => none
def dLe : D → D → Option D
  | .int i, .int j => some (.bl (decide (i ≤ j)))
  | .str x, .str y => some (.bl (!decide (y.cps.toList < x.cps.toList)))
  | _, _ => none
def dGt : D → D → Option D
  | .int i, .int j => some (.bl (decide (j < i)))
  | .str x, .str y => some (.bl (decide (y.cps.toList < x.cps.toList)))
  | _, _ => none
def dGe : D → D → Option D
  | .int i, .int j => some (.bl (decide (j ≤ i)))
  | .str x, .str y => some (.bl (!decide (x.cps.toList < y.cps.toList)))
  | _, _ => none
section
variable {X : Cx} {E : XK} {pos : Pos} {a b : Expr} {ma mb : M D} {K : PySem.W.Frag}
theorem ord_opD {f : D → D → Option D} {gi : Int → Int → Bool} {gs : Str → Str → Bool} (h1 : ∀ i j, f (.int i) (.int j) = some (.bl (gi i j))) (h2 : ∀ i j, f (.str i) (.str j) = some (.bl (gs i j)))
    (h3 : ∀ a b d, f a b = some d → (∃ i j, a = .int i ∧ b = .int j) ∨ ∃ i j, a = .str i ∧ b = .str j) :
    OpD K (fun x y H Q => rI0 (fun i j => .bl (gi i j)) x y H Q ∨ ∃ i j, x = .str i ∧ y = .str j ∧ Q (.bl (gs i j)) H) f := by
  intro H Z a b d x y Q hz ra rb h k
  rcases h3 a b d h with ⟨i, j, rfl, rfl⟩ | ⟨i, j, rfl, rfl⟩
  · cases (show x = .int i from ra)
    cases (show y = .int j from rb)
    rw [h1] at h
    cases h
    exact .inl ⟨i, j, rfl, rfl, k _ H (Same.refl H) rfl⟩
  · cases (show x = .str i from ra)
    cases (show y = .str j from rb)
    rw [h2] at h
    cases h
    exact .inr ⟨i, j, rfl, rfl, k _ H (Same.refl H) rfl⟩
theorem two_of {f : D → D → Option D} (h : ∀ a b, (∀ i j, ¬ (a = .int i ∧ b = .int j)) → (∀ i j, ¬ (a = .str i ∧ b = .str j)) → f a b = none) : ∀ a b d, f a b = some d → (∃ i j, a = .int i ∧ b = .int j) ∨ ∃ i j, a = .str i ∧ b = .str j := by
  intro a b d e
  by_cases h1 : ∃ i j, a = D.int i ∧ b = D.int j
  · exact .inl h1
  · by_cases h2 : ∃ i j, a = D.str i ∧ b = D.str j
    · exact .inr h2
    · rw [h a b (fun i j z => h1 ⟨i, j, z⟩) (fun i j z => h2 ⟨i, j, z⟩)] at e
      cases e
theorem c_lt : CmpD X .Lt dLt := ⟨_, op_lt.or op_lt_str, ord_opD (fun _ _ => rfl) (fun _ _ => rfl) (two_of fun a b h1 h2 => by unfold dLt; split <;> first | rfl | exact absurd ⟨rfl, rfl⟩ (h1 _ _) | exact absurd ⟨rfl, rfl⟩ (h2 _ _))⟩
theorem c_le : CmpD X .LtE dLe := ⟨_, op_le.or op_le_str, ord_opD (fun _ _ => rfl) (fun _ _ => rfl) (two_of fun a b h1 h2 => by unfold dLe; split <;> first | rfl | exact absurd ⟨rfl, rfl⟩ (h1 _ _) | exact absurd ⟨rfl, rfl⟩ (h2 _ _))⟩
theorem c_gt : CmpD X .Gt dGt := ⟨_, op_gt.or op_gt_str, ord_opD (fun _ _ => rfl) (fun _ _ => rfl) (two_of fun a b h1 h2 => by unfold dGt; split <;> first | rfl | exact absurd ⟨rfl, rfl⟩ (h1 _ _) | exact absurd ⟨rfl, rfl⟩ (h2 _ _))⟩
theorem c_ge : CmpD X .GtE dGe := ⟨_, op_ge.or op_ge_str, ord_opD (fun _ _ => rfl) (fun _ _ => rfl) (two_of fun a b h1 h2 => by unfold dGe; split <;> first | rfl | exact absurd ⟨rfl, rfl⟩ (h1 _ _) | exact absurd ⟨rfl, rfl⟩ (h2 _ _))⟩
end
/-! ### is None -/
def dIsN : D → D → Option D
  | .non, .non => some (.bl true)
  | .bl _, .non | .int _, .non | .str _, .non | .lst _, .non | .tup _, .non | .dct _ _, .non | .ob _ _, .non | .rol _, .non => some (.bl false)
  | _, _ => none
def dNotN (a b : D) : Option D := match dIsN a b with
  | some (.bl k) => some (.bl (!k))
  | _ => none
section
variable {X : Cx} {E : XK} {pos : Pos} {a b : Expr} {ma mb : M D} {K : PySem.W.Frag}
theorem isN_ok {H : Hp} {Z : Addr → Prop} {a b d : D} {x y : V} (h : dIsN a b = some d) (ra : Rep K H Z a x) (rb : Rep K H Z b y) : y = .non ∧ d = .bl (decide (x = .non)) := by
  have hb : b = .non := by
    unfold dIsN at h
    split at h <;> first | rfl | cases h
  subst hb
  cases (show y = .non from rb)
  refine ⟨rfl, ?_⟩
  cases a with
  | non => cases (show x = .non from ra); cases h; rfl
  | bl _ => cases (show x = .bl _ from ra); cases h; rfl
  | int _ => cases (show x = .int _ from ra); cases h; rfl
  | str _ => cases (show x = .str _ from ra); cases h; rfl
  | lst _ => simp only [Rep] at ra; obtain ⟨p, _, e, _⟩ := ra; subst e; cases h; rfl
  | rol _ => simp only [Rep] at ra; obtain ⟨p, _, e, _⟩ := ra; subst e; cases h; rfl
  | tup _ => simp only [Rep] at ra; obtain ⟨p, _, e, _⟩ := ra; subst e; cases h; rfl
  | dct _ _ => simp only [Rep] at ra; obtain ⟨p, _, e, _⟩ := ra; subst e; cases h; rfl
  | ob _ _ => simp only [Rep] at ra; obtain ⟨p, _, _, e, _⟩ := ra; subst e; cases h; rfl
theorem c_is : CmpD X .Is dIsN :=
  ⟨_, op_isN, fun H Z a b d x y Q hz ra rb h k => by
    obtain ⟨h1, h2⟩ := isN_ok h ra rb
    exact ⟨h1, k _ H (Same.refl H) (by rw [h2]; exact rfl)⟩⟩
theorem c_isnot : CmpD X .IsNot dNotN :=
  ⟨_, op_notN, fun H Z a b d x y Q hz ra rb h k => by
    unfold dNotN at h
    cases e : dIsN a b with
    | none => rw [e] at h; cases h
    | some c =>
      rw [e] at h
      obtain ⟨h1, h2⟩ := isN_ok e ra rb
      subst h2
      have e3 : D.bl (!decide (x = V.non)) = d := Option.some.inj h
      exact ⟨h1, k _ H (Same.refl H) (by rw [← e3]; exact rfl)⟩⟩
end
end DL
set_option Elab.async false
set_option linter.all false
set_option maxRecDepth 100000
set_option maxHeartbeats 4000000
namespace DL
open PySem PySem.Spec PyProof.Rows L2
variable [CTab]
section
variable {K : PySem.W.Frag} {H : Hp} {Z : Addr → Prop}
/-- new objects -/
theorem new_lst {p : Addr} {l : List D} {vs : List V} (hz : ∀ p, Z p → H p ≠ none) (hp : H p = none) (r : Reps K H Z l vs) : Rep K (upd H p (.lst vs)) Z (.lst l) (.ref p) := by
  simp only [Rep]
  exact ⟨p, vs, rfl, ⟨fun z => hz p z hp, .inl upd_same⟩, Reps.ext (Ext.same (same_upd hp)) _ _ r⟩
theorem new_tup {p : Addr} {l : List D} {vs : List V} (hz : ∀ p, Z p → H p ≠ none) (hp : H p = none) (r : Reps K H Z l vs) : Rep K (upd H p (.tup vs)) Z (.tup l) (.ref p) := by
  simp only [Rep]
  exact ⟨p, vs, rfl, .inl ⟨fun z => hz p z hp, .inl upd_same⟩, Reps.ext (Ext.same (same_upd hp)) _ _ r⟩
/-- the items of a list, a tuple -/
def D.seq : D → Option (List D)
  | .lst l => some l
  | .rol l => some l
  | .tup l => some l
  | _ => none
def D.lis : D → Option (List D)
  | .lst l => some l
  | .rol l => some l
  | _ => none
theorem D.seq_rep {d : D} {l : List D} {v : V} (h : d.seq = some l) (r : Rep K H Z d v) : ∃ p vs, v = .ref p ∧ (SqL K H p vs ∨ SqT K H p vs) ∧ Reps K H Z l vs := by
  cases d <;> simp only [D.seq, Option.some.injEq, reduceCtorEq] at h <;> subst h <;> simp only [Rep] at r
  · obtain ⟨p, vs, e, h1, h2⟩ := r
    exact ⟨p, vs, e, .inl h1.sq, h2⟩
  · obtain ⟨p, vs, e, h1, h2⟩ := r
    exact ⟨p, vs, e, .inr h1.sq, h2⟩
  · obtain ⟨p, vs, e, h1, h2⟩ := r
    exact ⟨p, vs, e, .inl h1.sq, h2⟩
theorem D.lis_rep {d : D} {l : List D} {v : V} (h : d.lis = some l) (r : Rep K H Z d v) : ∃ p vs, v = .ref p ∧ SqL K H p vs ∧ Reps K H Z l vs := by
  cases d <;> simp only [D.lis, Option.some.injEq, reduceCtorEq] at h <;> subst h <;> simp only [Rep] at r
  · obtain ⟨p, vs, e, h1, h2⟩ := r
    exact ⟨p, vs, e, h1.sq, h2⟩
  · obtain ⟨p, vs, e, h1, h2⟩ := r
    exact ⟨p, vs, e, h1.sq, h2⟩
end
/-! ### +, -, *, //, %, ** -/
def lim64 (i : Int) : Bool := decide (-(2 ^ 64) < i ∧ i < 2 ^ 64)
def dAdd : D → D → Option D
  | .int i, .int j => some (.int (i + j))
  | .str x, .str y => if x.length + y.length ≤ sizeLine then some (.str (x ++ y)) else none
  | .lst a, .lst b => if a.length + b.length ≤ sizeLine then some (.lst (a ++ b)) else none
  | .tup a, .tup b => if a.length + b.length ≤ sizeLine then some (.tup (a ++ b)) else none
  | _, _ => none
def dSub : D → D → Option D
  | .int i, .int j => some (.int (i - j))
  | _, _ => none
def dMul : D → D → Option D
  | .int i, .int j => if (lim64 i || lim64 j) = true then some (.int (i * j)) else none
  | _, _ => none
def dFdiv : D → D → Option D
  | .int i, .int j => if 0 < j ∧ j < 1073741824 then some (.int (i / j)) else none
  | _, _ => none
def dMod : D → D → Option D
  | .int i, .int j => if 0 < j then some (.int (i % j)) else none
  | _, _ => none
def dPow : D → D → Option D
  | .int i, .int j => if 0 ≤ j ∧ j ≤ 1000000 ∧ i.natAbs < 2 ^ 64 then some (.int (i ^ j.toNat)) else none
  | _, _ => none
def rCatL : R2 := fun x y H Q => ∃ l b xs zs, x = .ref l ∧ y = .ref b ∧ Rd H l (.lst xs) ∧ Rd H b (.lst zs) ∧ xs.length + zs.length ≤ sizeLine ∧ ∀ p, H p = none → Q (.ref p) (upd H p (.lst (xs ++ zs)))
section
variable {X : Cx} {E : XK} {pos : Pos} {a b : Expr} {ma mb : M D} {K : PySem.W.Frag}
theorem lst_at {pins : List (Addr × Obj)} {σ : St} {H : Hp} {s : Shared} {l : Addr} {xs : List V} (I : Inv X pins σ H s) (h : Rd H l (.lst xs)) :
    xs.length ≤ sizeLine ∧ ∃ (its : List Value) (n : Nat), Vals xs its ∧ xs.length = its.length ∧ s.heap.get? l = some { cls := .type "list", data := .seq its.toArray n } := by
  obtain ⟨z, its, n, r, e⟩ := h.ok I.hok
  exact ⟨z, its, n, r, r.length, e⟩
theorem op_catL : OpR X (binaryOp .Add) rCatL := by
  intro pins s σ H x y v u Q I rx ry h
  obtain ⟨l, b, xs, zs, rfl, rfl, h1, h2, hz, q⟩ := h
  cases rx
  cases ry
  obtain ⟨_, u1, n1, r1, l1, e1⟩ := lst_at I h1
  obtain ⟨_, u2, n2, r2, l2, e2⟩ := lst_at I h2
  refine PySem.P.add_list e1 e2 ?_ (by simp only [List.size_toArray]; omega)
  rw [List.append_toArray]
  exact ⟨.ref _, _, I.lnew (t' := s.toks) (r1.append r2) (by simp only [List.length_append]; omega), rfl, q _ I.fresh⟩
theorem add_opD : OpD K (fun x y H Q => rI0 (fun i j => .int (i + j)) x y H Q ∨ (∃ i j, x = .str i ∧ y = .str j ∧ i.length + j.length ≤ sizeLine ∧ Q (.str (i ++ j)) H) ∨ rCatL x y H Q ∨ rCatA K x y H Q) dAdd := by
  intro H Z a b d x y Q hz ra rb h k
  unfold dAdd at h
  split at h
  · cases (show x = _ from ra)
    cases (show y = _ from rb)
    cases h
    exact .inl ⟨_, _, rfl, rfl, k _ H (Same.refl H) rfl⟩
  · cases (show x = _ from ra)
    cases (show y = _ from rb)
    split at h
    · rename_i hl
      cases h
      exact .inr (.inl ⟨_, _, rfl, rfl, hl, k _ H (Same.refl H) rfl⟩)
    · cases h
  · simp only [Rep] at ra rb
    obtain ⟨p, vs, e, h1, h2⟩ := ra
    obtain ⟨q, us, e', h3, h4⟩ := rb
    subst e e'
    split at h
    · rename_i hl
      cases h
      exact .inr (.inr (.inl ⟨p, q, vs, us, rfl, rfl, h1.2, h3.2, by rw [← h2.len, ← h4.len]; exact hl, fun r hr => k _ _ (same_upd hr) (new_lst hz hr (h2.app h4))⟩))
    · cases h
  · rename_i l1 l2
    have ra' := ra
    have rb' := rb
    simp only [Rep] at ra rb
    obtain ⟨p, vs, e, h1, h2⟩ := ra
    obtain ⟨q, us, e', h3, h4⟩ := rb
    subst e e'
    split at h
    · rename_i hl
      cases h
      refine .inr (.inr (.inr ⟨p, q, vs, us, rfl, rfl, h1.sq, h3.sq, by rw [← h2.len, ← h4.len]; exact hl, fun z => ?_, fun _ z => ?_, fun _ _ r hr => k _ _ (same_upd hr) (new_tup hz hr (h2.app h4))⟩))
      · subst z
        have e1 : l1 = [] := List.eq_nil_of_length_eq_zero h2.len
        subst e1
        exact k _ H (Same.refl H) rb'
      · subst z
        have e1 : l2 = [] := List.eq_nil_of_length_eq_zero h4.len
        subst e1
        rw [List.append_nil] at k
        exact k _ H (Same.refl H) ra'
    · cases h
  · cases h
theorem d_add (ha : PE X a (tD X.K E ma)) (hb : PE X b (tD X.K E mb)) : PE X (.BinOp a .Add b pos) (tD X.K E (m2 dAdd ma mb)) := d_op (op_add.or (op_add_str.or (op_catL.or op_catA))) add_opD ha hb
theorem int_opD {C : Int → Int → Prop} {g : Int → Int → Int} {f : D → D → Option D} (h : ∀ a b d, f a b = some d → ∃ i j, a = .int i ∧ b = .int j ∧ C i j ∧ d = .int (g i j)) : OpD K (rI C fun i j => .int (g i j)) f := by
  intro H Z a b d x y Q hz ra rb e k
  obtain ⟨i, j, rfl, rfl, hc, rfl⟩ := h a b d e
  cases (show x = _ from ra)
  cases (show y = _ from rb)
  exact ⟨_, _, rfl, rfl, hc, k _ H (Same.refl H) rfl⟩
theorem d_sub (ha : PE X a (tD X.K E ma)) (hb : PE X b (tD X.K E mb)) : PE X (.BinOp a .Sub b pos) (tD X.K E (m2 dSub ma mb)) := by
  refine d_op (r := rI (fun _ _ => True) fun i j => .int (i - j)) (opI fun _ _ _ _ _ _ _ _ q => sub_int q) (int_opD fun a b d e => ?_) ha hb
  unfold dSub at e
  split at e
  · cases e
    exact ⟨_, _, rfl, rfl, trivial, rfl⟩
  · cases e
theorem d_mul (ha : PE X a (tD X.K E ma)) (hb : PE X b (tD X.K E mb)) : PE X (.BinOp a .Mult b pos) (tD X.K E (m2 dMul ma mb)) := by
  refine d_op op_mul (int_opD fun a b d e => ?_) ha hb
  unfold dMul at e
  split at e
  · split at e
    · rename_i h
      cases e
      refine ⟨_, _, rfl, rfl, ?_, rfl⟩
      rcases Bool.or_eq_true_iff.mp h with q | q
      · exact .inl (of_decide_eq_true q)
      · exact .inr (of_decide_eq_true q)
    · cases e
  · cases e
theorem d_fdiv (ha : PE X a (tD X.K E ma)) (hb : PE X b (tD X.K E mb)) : PE X (.BinOp a .FloorDiv b pos) (tD X.K E (m2 dFdiv ma mb)) := by
  refine d_op op_fdiv (int_opD fun a b d e => ?_) ha hb
  unfold dFdiv at e
  split at e
  · split at e
    · rename_i h
      cases e
      exact ⟨_, _, rfl, rfl, h, rfl⟩
    · cases e
  · cases e
theorem d_mod (ha : PE X a (tD X.K E ma)) (hb : PE X b (tD X.K E mb)) : PE X (.BinOp a .Mod b pos) (tD X.K E (m2 dMod ma mb)) := by
  refine d_op op_mod (int_opD fun a b d e => ?_) ha hb
  unfold dMod at e
  split at e
  · split at e
    · rename_i h
      cases e
      exact ⟨_, _, rfl, rfl, h, rfl⟩
    · cases e
  · cases e
theorem d_pow (ha : PE X a (tD X.K E ma)) (hb : PE X b (tD X.K E mb)) : PE X (.BinOp a .Pow b pos) (tD X.K E (m2 dPow ma mb)) := by
  refine d_op op_pow (int_opD fun a b d e => ?_) ha hb
  unfold dPow at e
  split at e
  · split at e
    · rename_i h
      cases e
      exact ⟨_, _, rfl, rfl, h, rfl⟩
    · cases e
  · cases e
def dNeg : D → Option D
  | .int i => some (.int (-i))
  | _ => none
theorem d_neg (ha : PE X a (tD X.K E ma)) : PE X (.UnaryOp .USub a pos) (tD X.K E (m1 dNeg ma)) := by
  refine d_un un_neg (fun H Z a d x Q hz ra e k => ?_) ha
  unfold dNeg at e
  split at e
  · cases e
    cases (show x = _ from ra)
    exact ⟨_, rfl, k _ H (Same.refl H) rfl⟩
  · cases e
end
/-! ### in, not in -/
def D.key : D → Option Key
  | .int i => some (.inl i)
  | .str x => some (.inr x)
  | _ => none
def hasK (ks : List Key) (k : Key) : Bool := ks.any fun j => decide (j = k)
def inB (x y : D) : Option Bool := match y with
  | .str z => (match x with
    | .str c => if c.cps.size = 1 then some (decide (c.cps.getD 0 0 ∈ z.cps.toList)) else none
    | _ => none)
  | .dct ks l => if ks.length = l.length then x.key.map fun k => hasK ks k else none
  | _ => match y.seq with
    | some l => (match x.sc, scs l with
      | some v, some vs => some (inV v vs)
      | _, _ => match y.lis, toPy x, toPys l with
        | some _, some p, some ps => if (SeqAt.shaped p && SeqAt.shaped (.list ps)) = true then some (ps.any fun z => PyData.eqv z p) else none
        | _, _, _ => none)
    | none => none
def dIn (x y : D) : Option D := (inB x y).map .bl
def dNotIn (x y : D) : Option D := (inB x y).map fun k => .bl (!k)
section
variable {X : Cx} {E : XK} {pos : Pos} {a b : Expr} {ma mb : M D} {K : PySem.W.Frag}
/-- the ways an answer is come to -/
def InW (K : PySem.W.Frag) (x y : V) (H : Hp) (k : Bool) : Prop :=
  (∃ (c : Nat) (z : Str), x = .str ⟨#[c]⟩ ∧ y = .str z ∧ k = decide (c ∈ z.cps.toList)) ∨
  (∃ p xs, y = .ref p ∧ (SqL K H p xs ∨ SqT K H p xs) ∧ flatV x = true ∧ xs.all flatV = true ∧ k = inV x xs) ∨
  (∃ d ds, Dp K H x d ∧ Dp K H y (.list ds) ∧ SeqAt.shaped d = true ∧ SeqAt.shaped (.list ds) = true ∧ k = ds.any fun z => PyData.eqv z d) ∨
  ∃ p o, y = .ref p ∧ DGet H p x o ∧ k = o.isSome
theorem op_inW (hu : X.A.units + 65 < cLine) : OpR X (compareOp .In) (fun x y H Q => ∃ k, InW X.K x y H k ∧ Q (.bl k) H) := by
  intro pins s σ H x y v u Q I rx ry h
  obtain ⟨k, h, q⟩ := h
  rcases h with ⟨c, z, rfl, rfl, rfl⟩ | ⟨p, xs, rfl, h1, h2, h3, rfl⟩ | ⟨d, ds, h1, h2, h3, h4, rfl⟩ | ⟨p, o, rfl, g, rfl⟩
  · exact op_in_sign pins s σ H _ _ v u Q I rx ry ⟨c, z, rfl, rfl, q⟩
  · exact op_in_seq pins s σ H _ _ v u Q I rx ry ⟨p, xs, rfl, h1, h2, h3, q⟩
  · exact op_inD hu pins s σ H _ _ v u Q I rx ry ⟨d, ds, h1, h2, h3, h4, q⟩
  · cases ry
    exact d_in (by omega) I g rx fun s' I' => ⟨.bl _, H, I', rfl, q⟩
theorem op_notInW (hu : X.A.units + 65 < cLine) : OpR X (compareOp .NotIn) (fun x y H Q => ∃ k, InW X.K x y H k ∧ Q (.bl (!k)) H) := by
  intro pins s σ H x y v u Q I rx ry h
  obtain ⟨k, h, q⟩ := h
  rcases h with ⟨c, z, rfl, rfl, rfl⟩ | ⟨p, xs, rfl, h1, h2, h3, rfl⟩ | ⟨d, ds, h1, h2, h3, h4, rfl⟩ | ⟨p, o, rfl, g, rfl⟩
  · exact op_notIn_sign pins s σ H _ _ v u Q I rx ry ⟨c, z, rfl, rfl, q⟩
  · exact op_notIn_seq pins s σ H _ _ v u Q I rx ry ⟨p, xs, rfl, h1, h2, h3, q⟩
  · exact op_notInD hu pins s σ H _ _ v u Q I rx ry ⟨d, ds, h1, h2, h3, h4, q⟩
  · cases ry
    exact d_notIn (by omega) I g rx fun s' I' => ⟨.bl _, H, I', rfl, q⟩
theorem D.key_rep {H : Hp} {Z : Addr → Prop} {d : D} {k : Key} {v : V} (h : d.key = some k) (r : Rep K H Z d v) : v = kV k := by
  cases d <;> simp only [D.key, Option.some.injEq, reduceCtorEq] at h <;> (subst h; exact r)
theorem valV_zip (k : Key) : ∀ (ks : List Key) (vs : List V), ks.length = vs.length → (valV (ks.zip vs) k).isSome = hasK ks k
  | [], [], _ => by simp [valV, hasK]
  | j :: ks, v :: vs, h => by
    have ih := valV_zip k ks vs (by simpa using h)
    by_cases e : j = k
    · rw [List.zip_cons_cons, valV_pos (by exact e)]
      simp [hasK, e]
    · rw [List.zip_cons_cons, valV_neg (by exact e), ih]
      simp [hasK, e]
theorem inB_ok {H : Hp} {Z : Addr → Prop} {a b : D} {x y : V} {k : Bool} (h : inB a b = some k) (ra : Rep K H Z a x) (rb : Rep K H Z b y) : InW K x y H k := by
  have seqs : ∀ {l : List D}, b.seq = some l → (match a.sc, scs l with
      | some v, some vs => some (inV v vs)
      | _, _ => match b.lis, toPy a, toPys l with
        | some _, some p, some ps => if (SeqAt.shaped p && SeqAt.shaped (.list ps)) = true then some (ps.any fun z => PyData.eqv z p) else none
        | _, _, _ => none) = some k → InW K x y H k := by
    intro l hs h
    split at h
    · rename_i v vs h1 h2
      cases h
      obtain ⟨p, us, rfl, h3, h4⟩ := D.seq_rep hs rb
      rw [D.sc_rep h1 ra]
      have e := scs_rep h2 h4
      subst e
      exact .inr (.inl ⟨p, us, rfl, h3, sc_flat h1, scs_flat h2, rfl⟩)
    · split at h
      · rename_i l' p ps h1 h2 h3
        split at h
        · rename_i hs'
          cases h
          obtain ⟨s1, s2⟩ := Bool.and_eq_true_iff.mp hs'
          have el : l' = l := by
            cases b <;> simp only [D.lis, D.seq, Option.some.injEq, reduceCtorEq] at h1 hs <;> exact h1.symm.trans hs
          subst el
          obtain ⟨q, us, rfl, h4, h5⟩ := D.lis_rep h1 rb
          exact .inr (.inr (.inl ⟨p, ps, toPy_dp h2 ra, .lst h4 (toPys_dp h3 h5), s1, s2, rfl⟩))
        · cases h
      · cases h
  unfold inB at h
  split at h
  · rename_i z
    cases (show y = _ from rb)
    split at h
    · rename_i c
      cases (show x = _ from ra)
      split at h
      · rename_i hc
        cases h
        refine .inl ⟨c.cps.getD 0 0, z, ?_, rfl, rfl⟩
        obtain ⟨cps⟩ := c
        simp only at hc
        congr 1
        congr 1
        apply Array.ext
        · simpa using hc
        · intro i h1 h2
          have e : i = 0 := by simp at h2; omega
          subst e
          simp [Array.getD, h1]
      · cases h
    · cases h
  · rename_i ks l
    split at h
    · rename_i hl
      simp only [Rep] at rb
      obtain ⟨p, vs, rfl, n, h1, hlen, h2⟩ := rb
      cases hk : a.key with
      | none => rw [hk] at h; cases h
      | some j =>
        rw [hk] at h
        have e : hasK ks j = k := Option.some.inj h
        refine .inr (.inr (.inr ⟨p, _, rfl, .inl ⟨_, j, h1, D.key_rep hk ra, rfl⟩, ?_⟩))
        rw [valV_zip j ks vs hlen, e]
    · cases h
  · split at h
    · rename_i l hs
      exact seqs hs h
    · cases h
theorem c_in {k : Nat} (hr : Room k X.A) : CmpD X .In dIn := by
  refine ⟨_, op_inW (by have := hr.un; omega), fun H Z a b d x y Q hz ra rb h k => ?_⟩
  unfold dIn at h
  cases e : inB a b with
  | none => rw [e] at h; cases h
  | some c =>
    rw [e] at h
    have e2 : D.bl c = d := Option.some.inj h
    subst e2
    exact ⟨c, inB_ok e ra rb, k _ H (Same.refl H) rfl⟩
theorem c_notin {k : Nat} (hr : Room k X.A) : CmpD X .NotIn dNotIn := by
  refine ⟨_, op_notInW (by have := hr.un; omega), fun H Z a b d x y Q hz ra rb h k => ?_⟩
  unfold dNotIn at h
  cases e : inB a b with
  | none => rw [e] at h; cases h
  | some c =>
    rw [e] at h
    have e2 : D.bl (!c) = d := Option.some.inj h
    subst e2
    exact ⟨c, inB_ok e ra rb, k _ H (Same.refl H) rfl⟩
end
/-! ### a[i] -/
def dIx (x y : D) : Option D := match y with
  | .int i => (match x with
    | .str z => if z.length ≤ sizeLine then (atI z.cps.toList i).map fun c => .str ⟨#[c]⟩ else none
    | _ => x.seq.bind fun l => atI l i)
  | _ => none
section
variable {X : Cx} {E : XK} {pos : Pos} {a b : Expr} {ma mb : M D} {K : PySem.W.Frag}
theorem Reps.atI {H : Hp} {Z : Addr → Prop} {l : List D} {vs : List V} {i : Int} {d : D} (r : Reps K H Z l vs) (h : L2.atI l i = some d) : ∃ v, L2.atI vs i = some v ∧ Rep K H Z d v := by
  unfold L2.atI at h ⊢
  rw [← r.len]
  cases e : ixN l.length i with
  | none => rw [e] at h; cases h
  | some j =>
    rw [e] at h
    exact r.get h
theorem ix_opD : OpD K (rIx K) dIx := by
  intro H Z a b d x y Q hz ra rb h k
  unfold dIx at h
  split at h
  · rename_i i
    cases (show y = _ from rb)
    split at h
    · rename_i z
      cases (show x = _ from ra)
      split at h
      · rename_i hl
        cases e : L2.atI z.cps.toList i with
        | none => rw [e] at h; cases h
        | some c =>
          rw [e] at h
          cases h
          exact .inr (.inr ⟨z, i, c, rfl, rfl, hl, e, k _ H (Same.refl H) rfl⟩)
      · cases h
    · cases e : a.seq with
      | none => rw [e] at h; cases h
      | some l =>
        rw [e] at h
        obtain ⟨p, vs, rfl, h1, h2⟩ := D.seq_rep e ra
        obtain ⟨v, h3, h4⟩ := h2.atI (show L2.atI l i = some d from h)
        rcases h1 with h1 | h1
        · exact .inl ⟨p, vs, i, v, rfl, rfl, h1, h3, k _ H (Same.refl H) h4⟩
        · exact .inr (.inl ⟨p, vs, i, v, rfl, rfl, h1, h3, k _ H (Same.refl H) h4⟩)
  · cases h
theorem d_item (ha : PE X a (tD X.K E ma)) (hb : PE X b (tD X.K E mb)) (hs : PlainIx b := by exact fun _ _ => rfl) : PE X (.Subscript a b pos) (tD X.K E (m2 dIx ma mb)) := d_ix ix_seq ix_opD ha hb hs
end
/-! ### slices -/
def cutD (l : List D) (lo hi : Option Int) : List D := (l.drop (HT.sIx l.length 0 lo)).take (HT.sIx l.length l.length hi - HT.sIx l.length 0 lo)
def mOpt (m : Option (M D)) : M (Option Int) := match m with
  | none => fun ρ => .ok none ρ
  | some m => fun ρ => bindR (m ρ) fun d ρ => match d with
    | .int i => .ok (some i) ρ
    | _ => .fail
def rO : RG (Option Int) (Option Int) := fun _ _ _ _ a b => a = b
def dCut (d : D) (lo hi : Option Int) : Option D := match d with
  | .lst l => some (.lst (cutD l lo hi))
  | .rol l => some (.lst (cutD l lo hi))
  | .tup l => some (.tup (cutD l lo hi))
  | _ => none
def mSl (ma : M D) (ml mh : Option (M D)) : M D := fun ρ => bindR (ma ρ) fun a ρ => bindR (mOpt ml ρ) fun lo ρ => bindR (mOpt mh ρ) fun hi ρ => liftO (dCut a lo hi) ρ
section
variable {X : Cx} {E : XK} {pos p2 : Pos} {e : Expr} {ma m : M D} {K : PySem.W.Frag}
theorem Reps.cut {H : Hp} {Z : Addr → Prop} {l : List D} {vs : List V} (lo hi : Option Int) (r : Reps K H Z l vs) : Reps K H Z (cutD l lo hi) (cutV vs lo hi) := by
  unfold cutD cutV
  rw [r.len]
  exact (r.drop _).take _
theorem do_none : PO X none (tG X.K E rO (mOpt none)) := by
  refine ⟨fun pins s σ H Q I h => po_none.run pins s σ H Q I ?_⟩
  obtain ⟨c, Z, ρ, r, q⟩ := h
  exact q.done r rfl
theorem do_some (h : PE X e (tD X.K E m)) : PO X (some e) (tG X.K E rO (mOpt (some m))) := by
  refine ⟨fun pins s σ H Q I q => (po_some h).run pins s σ H Q I ?_⟩
  obtain ⟨c, Z, ρ, r, q⟩ := q
  refine ⟨c, Z, ρ, r, q.bind fun d ρ1 v H1 r1 e1 h1 q1 => ?_⟩
  split at q1
  · rename_i i
    cases (show v = _ from h1)
    exact ⟨i, rfl, q1.done r1 rfl⟩
  · exact q1.elim
theorem d_slice {lo hi : Option Expr} {ml mh : Option (M D)} (he : PE X e (tD X.K E ma)) (hl : PO X lo (tG X.K E rO (mOpt ml))) (hh : PO X hi (tG X.K E rO (mOpt mh))) : PE X (.Subscript e (.Slice lo hi none p2) pos) (tD X.K E (mSl ma ml mh)) := by
  refine (pe_slice (sl_list.or sl_tupA) he hl hh).imp fun σ H Q h => ?_
  obtain ⟨c, Z, ρ, r, q⟩ := h
  refine ⟨c, Z, ρ, r, q.bind fun d ρ1 v H1 r1 e1 h1 q1 => ⟨c, Z, ρ1, r1, q1.bind fun lo ρ2 lo' H2 r2 e2 h2 q2 => ⟨c, Z, ρ2, r2, q2.bind fun hi ρ3 hi' H3 r3 e3 h3 q3 => ?_⟩⟩⟩
  cases (show lo = lo' from h2)
  cases (show hi = hi' from h3)
  obtain ⟨w, hw, k⟩ := q3.lift r3
  have rd : Rep X.K H3 Z d v := (h1.ext e2).ext e3
  unfold dCut at hw
  split at hw
  · cases hw
    simp only [Rep] at rd
    obtain ⟨p, vs, rfl, g1, g2⟩ := rd
    exact .inl ⟨p, vs, rfl, g1.sq, fun a ha => k _ _ (same_upd ha) (new_lst r3.dom ha (g2.cut _ _))⟩
  · cases hw
    simp only [Rep] at rd
    obtain ⟨p, vs, rfl, g1, g2⟩ := rd
    exact .inl ⟨p, vs, rfl, g1.sq, fun a ha => k _ _ (same_upd ha) (new_lst r3.dom ha (g2.cut _ _))⟩
  · rename_i l
    cases hw
    have rd' := rd
    simp only [Rep] at rd
    obtain ⟨p, vs, rfl, g1, g2⟩ := rd
    refine .inr ⟨p, vs, rfl, g1.sq, fun hw => ?_, fun _ a ha => k _ _ (same_upd ha) (new_tup r3.dom ha (g2.cut _ _))⟩
    have e4 : cutD l lo hi = l := by
      unfold cutD
      rw [← g2.len] at hw
      rw [hw.1, hw.2]
      simp
    rw [e4] at k
    exact k _ H3 (Same.refl H3) rd'
  · cases hw
def dRev : D → Option D
  | .lst l => some (.lst l.reverse)
  | .rol l => some (.lst l.reverse)
  | _ => none
theorem d_rev {k : Nat} {p1 p3 : Pos} (he : PE X e (tD X.K E ma)) : PE X (.Subscript e (.Slice none none (some (.UnaryOp .USub (.Constant (.int 1) k p1) p2)) p3) pos) (tD X.K E (m1 dRev ma)) := by
  refine (pe_revL he).imp fun σ H Q h => ?_
  obtain ⟨c, Z, ρ, r, q⟩ := h
  refine ⟨c, Z, ρ, r, q.bind fun d ρ1 v H1 r1 e1 h1 q1 => ?_⟩
  obtain ⟨w, hw, k⟩ := q1.lift r1
  have h1 : Rep X.K H1 Z d v := h1
  unfold dRev at hw
  split at hw
  · cases hw
    simp only [Rep] at h1
    obtain ⟨p, vs, rfl, g1, g2⟩ := h1
    exact ⟨p, vs, rfl, g1.sq, fun a ha => k _ _ (same_upd ha) (new_lst r1.dom ha g2.rev)⟩
  · cases hw
    simp only [Rep] at h1
    obtain ⟨p, vs, rfl, g1, g2⟩ := h1
    exact ⟨p, vs, rfl, g1.sq, fun a ha => k _ _ (same_upd ha) (new_lst r1.dom ha g2.rev)⟩
  · cases hw
end
end DL
set_option Elab.async false
set_option linter.all false
set_option maxRecDepth 100000
set_option maxHeartbeats 4000000
namespace DL
open PySem PySem.Spec PyProof.Rows L2
variable [CTab]
/-! ### tests -/
def mTest (m : M D) : M Bool := fun ρ => bindR (m ρ) fun d ρ => match d with
  | .bl b => .ok b ρ
  | _ => .fail
section
variable {X : Cx} {E : XK} {pos : Pos} {a b e : Expr} {ma mb mc : M D} {K : PySem.W.Frag}
theorem test_gen {σ : St} {H : Hp} {Q : Bool → Hp → Prop} {t : TE} (h : tT K E (mTest ma) σ H Q) (i : ∀ Q, tD K E ma σ H Q → t σ H Q) : tTest t σ H Q := by
  refine i _ ?_
  obtain ⟨c, Z, ρ, r, q⟩ := h
  refine ⟨c, Z, ρ, r, q.bind fun d ρ1 v H1 r1 e1 h1 q1 => ?_⟩
  split at q1
  · rename_i k
    exact ⟨k, h1, q1.done r1 rfl⟩
  · exact q1.elim
theorem d_cmp1 {op : CmpOp} {f : D → D → Option D} (ho : CmpD X op f) (ha : PE X a (tD X.K E ma)) (hb : PE X b (tD X.K E mb)) (hm : behindInMarks op b = false := by rfl) : PE X (.Compare a [op] [b] pos) (tD X.K E (m2 f ma mb)) := by
  obtain ⟨r, h1, h2⟩ := ho
  exact d_cmp h1 h2 ha hb hm
theorem dt_cmp1 {op : CmpOp} {f : D → D → Option D} (ho : CmpD X op f) (ha : PE X a (tD X.K E ma)) (hb : PE X b (tD X.K E mb)) (hm : behindInMarks op b = false := by rfl) : PT X (.Compare a [op] [b] pos) (tT X.K E (mTest (m2 f ma mb))) := by
  obtain ⟨r, h1, h2⟩ := ho
  exact (pt_cmpR h1 ha hb hm).imp fun σ H Q h => test_gen h fun Q h => op_gen h2 h
/-- a op1 b op2 c -/
def mChain (f g : D → D → Option D) (ma mb mc : M D) : M D := fun ρ => bindR (ma ρ) fun a ρ => bindR (mb ρ) fun b ρ => match f a b with
  | some (.bl true) => bindR (mc ρ) fun c ρ => liftO (g b c) ρ
  | some (.bl false) => .ok (.bl false) ρ
  | _ => .fail
theorem chain_gen {f g : D → D → Option D} {r r' : R2} (hf : OpD K r f) (hg : OpD K r' g) {σ : St} {H : Hp} {Q : VK} (h : tD K E (mChain f g ma mb mc) σ H Q) : tChain r r' (tD K E ma) (tD K E mb) (tD K E mc) σ H Q := by
  obtain ⟨c, Z, ρ, r0, q⟩ := h
  refine ⟨c, Z, ρ, r0, q.bind fun x ρ1 u H1 r1 e1 hx q1 => ⟨c, Z, ρ1, r1, q1.bind fun y ρ2 v H2 r2 e2 hy q2 => ?_⟩⟩
  split at q2
  · rename_i hd
    refine hf H2 Z x y _ u v _ r2.dom (hx.ext e2) hy hd fun w H3 s3 hw => ⟨true, hw, ?_⟩
    rw [if_pos rfl]
    refine ⟨c, Z, ρ2, r2.same s3, (tR.ext q2 (Ext.same s3)).bind fun z ρ4 z' H4 r4 e4 hz' q4 => ?_⟩
    obtain ⟨d, hd, k⟩ := q4.lift r4
    exact hg H4 Z y z d v z' Q r4.dom ((hy.ext (Ext.same s3)).ext e4) hz' hd k
  · rename_i hd
    refine hf H2 Z x y _ u v _ r2.dom (hx.ext e2) hy hd fun w H3 s3 hw => ⟨false, hw, ?_⟩
    rw [if_neg Bool.false_ne_true]
    exact q2.new r2 s3 rfl
  · exact q2.elim
theorem d_chain {c : Expr} {op op' : CmpOp} {f g : D → D → Option D} (ho : CmpD X op f) (ho' : CmpD X op' g) (ha : PE X a (tD X.K E ma)) (hb : PE X b (tD X.K E mb)) (hc : PE X c (tD X.K E mc))
    (hm : lastMarks [op, op'] [b, c] = false := by with_unfolding_all rfl) : PE X (.Compare a [op, op'] [b, c] pos) (tD X.K E (mChain f g ma mb mc)) := by
  obtain ⟨r, h1, h2⟩ := ho
  obtain ⟨r', h3, h4⟩ := ho'
  exact (pe_chain h1 h3 ha hb hc hm).imp fun σ H Q h => chain_gen h2 h4 h
theorem dt_chain {c : Expr} {op op' : CmpOp} {f g : D → D → Option D} (ho : CmpD X op f) (ho' : CmpD X op' g) (ha : PE X a (tD X.K E ma)) (hb : PE X b (tD X.K E mb)) (hc : PE X c (tD X.K E mc))
    (hm : lastMarks [op, op'] [b, c] = false := by with_unfolding_all rfl) : PT X (.Compare a [op, op'] [b, c] pos) (tT X.K E (mTest (mChain f g ma mb mc))) := by
  obtain ⟨r, h1, h2⟩ := ho
  obtain ⟨r', h3, h4⟩ := ho'
  exact (pt_chain h1 h3 ha hb hc hm).imp fun σ H Q h => test_gen h fun Q h => chain_gen h2 h4 h
/-! ### a value's truth -/
def dTru : D → Option Bool
  | .non => some false
  | .bl b => some b
  | .int i => some (i != 0)
  | .str y => if y.length ≤ sizeLine then some ((y.length : Int) != 0) else none
  | .lst l => some (!l.isEmpty)
  | .rol l => some (!l.isEmpty)
  | .tup l => some (!l.isEmpty)
  | _ => none
def mTru (m : M D) : M Bool := fun ρ => bindR (m ρ) fun d ρ => liftO (dTru d) ρ
theorem Reps.emp {H : Hp} {Z : Addr → Prop} {l : List D} {vs : List V} (r : Reps K H Z l vs) : (!l.isEmpty) = !vs.isEmpty := by
  have e := r.len
  cases l <;> cases vs <;> simp_all
theorem tru_ok' {H : Hp} {Z : Addr → Prop} {d : D} {v : V} {k : Bool} (h : dTru d = some k) (r : Rep K H Z d v) : TruV K v H k := by
  cases d with
  | non => cases (show v = _ from r); cases h; rfl
  | bl b => cases (show v = _ from r); cases h; rfl
  | int b => cases (show v = _ from r); cases h; rfl
  | str y =>
    cases (show v = _ from r)
    have h : (if y.length ≤ sizeLine then some ((y.length : Int) != 0) else none) = some k := h
    split at h
    · rename_i hl
      cases h
      exact ⟨hl, rfl⟩
    · cases h
  | lst l =>
    simp only [Rep] at r
    obtain ⟨p, vs, rfl, h1, h2⟩ := r
    cases h
    exact .inl ⟨vs, h1.sq, h2.emp⟩
  | rol l =>
    simp only [Rep] at r
    obtain ⟨p, vs, rfl, h1, h2⟩ := r
    cases h
    exact .inl ⟨vs, h1.sq, h2.emp⟩
  | tup l =>
    simp only [Rep] at r
    obtain ⟨p, vs, rfl, h1, h2⟩ := r
    cases h
    exact .inr (.inl ⟨vs, h1.sq, h2.emp⟩)
  | dct _ _ => cases h
  | ob _ _ => cases h
theorem tR.liftB {o : Option Bool} {c : Cz} {Z : Addr → Prop} {ρ : Env} {σ : St} {H : Hp} {Q : Bool → Hp → Prop} (h : tR K E rB c Z σ H Q (liftO o ρ)) (r : Rel K c Z ρ σ H) : ∃ k, o = some k ∧ Q k H := by
  cases o with
  | none => exact h.elim
  | some k => exact ⟨k, rfl, h.done r rfl⟩
/-- the truth of a name, a call, a field, an item -/
theorem dt_tru (ha : PE X e (tD X.K E ma)) (he : ∀ whole, isTrue e X.env whole = (do let v ← whole; standAt e.pos; holding [v] (truthy v)) := by intro _; rfl) : PT X e (tT X.K E (mTru ma)) := by
  refine (pt_truth ha he).imp fun σ H Q h => ?_
  obtain ⟨c, Z, ρ, r, q⟩ := h
  refine ⟨c, Z, ρ, r, q.bind fun d ρ1 v H1 r1 e1 h1 q1 => ?_⟩
  obtain ⟨k, hk, q2⟩ := q1.liftB r1
  exact ⟨k, tru_ok' hk h1, q2⟩
/-! ### and, or, not -/
variable {ta tb : M Bool} {rest : List Expr}
def mAndT (ta tb : M Bool) : M Bool := fun ρ => bindR (ta ρ) fun k ρ => if k = true then tb ρ else .ok false ρ
def mOrT (ta tb : M Bool) : M Bool := fun ρ => bindR (ta ρ) fun k ρ => if k = true then .ok true ρ else tb ρ
def mNotT (ta : M Bool) : M Bool := fun ρ => bindR (ta ρ) fun k ρ => .ok (!k) ρ
theorem _root_.L2.PW.imp {X : Cx} {e : Expr} {t t' : TT} (h : PW X e t) (i : ∀ σ H Q, t' σ H Q → t σ H Q) : PW X e t' := ⟨fun wh pins s σ H Q I q => h.run wh pins s σ H Q I (i σ H Q q)⟩
theorem dw_and1 (ha : PT X a (tT X.K E ta)) : PW X (.BoolOp .And [a] pos) (tT X.K E ta) := pw_and1 ha
theorem dw_or1 (ha : PT X a (tT X.K E ta)) : PW X (.BoolOp .Or [a] pos) (tT X.K E ta) := pw_or1 ha
theorem dw_and (ha : PT X a (tT X.K E ta)) (hb : PW X (.BoolOp .And (b :: rest) pos) (tT X.K E tb)) : PW X (.BoolOp .And (a :: b :: rest) pos) (tT X.K E (mAndT ta tb)) := by
  refine (pw_and ha hb).imp fun σ H Q h => ?_
  obtain ⟨c, Z, ρ, r, q⟩ := h
  refine ⟨c, Z, ρ, r, q.bind fun k ρ1 k' H1 r1 e1 h1 q1 => ?_⟩
  cases (show k = k' from h1)
  cases k with
  | true => exact iteT ⟨c, Z, ρ1, r1, q1⟩
  | false => exact iteF (q1.done r1 rfl)
theorem dw_or (ha : PT X a (tT X.K E ta)) (hb : PW X (.BoolOp .Or (b :: rest) pos) (tT X.K E tb)) : PW X (.BoolOp .Or (a :: b :: rest) pos) (tT X.K E (mOrT ta tb)) := by
  refine (pw_or ha hb).imp fun σ H Q h => ?_
  obtain ⟨c, Z, ρ, r, q⟩ := h
  refine ⟨c, Z, ρ, r, q.bind fun k ρ1 k' H1 r1 e1 h1 q1 => ?_⟩
  cases (show k = k' from h1)
  cases k with
  | true => exact iteT (q1.done r1 rfl)
  | false => exact iteF ⟨c, Z, ρ1, r1, q1⟩
theorem dt_not (ha : PT X a (tT X.K E ta)) : PT X (.UnaryOp .Not a pos) (tT X.K E (mNotT ta)) := by
  refine (pt_not ha).imp fun σ H Q h => ?_
  obtain ⟨c, Z, ρ, r, q⟩ := h
  refine ⟨c, Z, ρ, r, q.bind fun k ρ1 k' H1 r1 e1 h1 q1 => ?_⟩
  cases (show k = k' from h1)
  exact q1.done r1 rfl
/-- .. as values: all but the last True or False -/
def mAndV (ma mb : M D) : M D := fun ρ => bindR (ma ρ) fun d ρ => match d with
  | .bl true => mb ρ
  | .bl false => .ok (.bl false) ρ
  | _ => .fail
def mOrV (ma mb : M D) : M D := fun ρ => bindR (ma ρ) fun d ρ => match d with
  | .bl false => mb ρ
  | .bl true => .ok (.bl true) ρ
  | _ => .fail
theorem d_one {op} (h : PE X a (tD X.K E ma)) : PE X (.BoolOp op [a] pos) (tD X.K E ma) := pe_one h
theorem d_and (ha : PE X a (tD X.K E ma)) (hb : PE X (.BoolOp .And (b :: rest) pos) (tD X.K E mb)) : PE X (.BoolOp .And (a :: b :: rest) pos) (tD X.K E (mAndV ma mb)) := by
  refine (pe_and ha hb).imp fun σ H Q h => ?_
  obtain ⟨c, Z, ρ, r, q⟩ := h
  refine ⟨c, Z, ρ, r, q.bind fun d ρ1 v H1 r1 e1 h1 q1 => ?_⟩
  split at q1
  · exact ⟨true, h1, iteT ⟨c, Z, ρ1, r1, q1⟩⟩
  · exact ⟨false, h1, iteF (q1.done r1 rfl)⟩
  · exact q1.elim
theorem d_or (ha : PE X a (tD X.K E ma)) (hb : PE X (.BoolOp .Or (b :: rest) pos) (tD X.K E mb)) : PE X (.BoolOp .Or (a :: b :: rest) pos) (tD X.K E (mOrV ma mb)) := by
  refine (pe_or ha hb).imp fun σ H Q h => ?_
  obtain ⟨c, Z, ρ, r, q⟩ := h
  refine ⟨c, Z, ρ, r, q.bind fun d ρ1 v H1 r1 e1 h1 q1 => ?_⟩
  split at q1
  · exact ⟨false, h1, iteF ⟨c, Z, ρ1, r1, q1⟩⟩
  · exact ⟨true, h1, iteT (q1.done r1 rfl)⟩
  · exact q1.elim
def mNotV (ma : M D) : M D := fun ρ => bindR (ma ρ) fun d ρ => match dTru d with
  | some k => .ok (.bl (!k)) ρ
  | none => .fail
theorem d_not (ha : PE X a (tD X.K E ma)) : PE X (.UnaryOp .Not a pos) (tD X.K E (mNotV ma)) := by
  refine (pe_notT ha).imp fun σ H Q h => ?_
  obtain ⟨c, Z, ρ, r, q⟩ := h
  refine ⟨c, Z, ρ, r, q.bind fun d ρ1 v H1 r1 e1 h1 q1 => ?_⟩
  split at q1
  · rename_i k hk
    exact ⟨k, tru_ok' hk h1, q1.done r1 rfl⟩
  · exact q1.elim
def mIfE (t : M Bool) (ma mb : M D) : M D := fun ρ => bindR (t ρ) fun k ρ => if k = true then ma ρ else mb ρ
theorem d_ifexp {c : Expr} (hc : PT X c (tT X.K E ta)) (ha : PE X a (tD X.K E ma)) (hb : PE X b (tD X.K E mb)) : PE X (.IfExp c a b pos) (tD X.K E (mIfE ta ma mb)) := by
  refine (pe_ifExp hc ha hb).imp fun σ H Q h => ?_
  obtain ⟨c, Z, ρ, r, q⟩ := h
  refine ⟨c, Z, ρ, r, q.bind fun k ρ1 k' H1 r1 e1 h1 q1 => ?_⟩
  cases (show k = k' from h1)
  cases k with
  | true => exact iteT ⟨c, Z, ρ1, r1, q1⟩
  | false => exact iteF ⟨c, Z, ρ1, r1, q1⟩
end
/-! ### arguments, displays -/
def mNil : M (List D) := fun ρ => .ok [] ρ
def mCons (m : M D) (ms : M (List D)) : M (List D) := fun ρ => bindR (m ρ) fun d ρ => bindR (ms ρ) fun l ρ => .ok (d :: l) ρ
def mStar (m : M D) (ms : M (List D)) : M (List D) := fun ρ => bindR (m ρ) fun d ρ => match d.seq with
  | some l => bindR (ms ρ) fun r ρ => .ok (l ++ r) ρ
  | none => .fail
def mLst (ms : M (List D)) : M D := fun ρ => bindR (ms ρ) fun l ρ => if l.length ≤ sizeLine then .ok (.lst l) ρ else .fail
def mTup (ms : M (List D)) : M D := fun ρ => bindR (ms ρ) fun l ρ => if l.length ≤ sizeLine then .ok (.tup l) ρ else .fail
section
variable {X : Cx} {E : XK} {pos p : Pos} {e : Expr} {es : List Expr} {m : M D} {ms : M (List D)} {K : PySem.W.Frag}
theorem da_nil : PA X [] (tAr X.K E mNil) := pa_nil.imp fun σ H Q ⟨c, Z, ρ, r, q⟩ => q.done r rfl
theorem da_cons (ha : PE X e (tD X.K E m)) (hr : PA X es (tAr X.K E ms)) (hs : starEach (e :: es) X.env = (false, eval e X.env) :: starEach es X.env := by rfl) : PA X (e :: es) (tAr X.K E (mCons m ms)) := by
  refine (pa_cons ha hr hs).imp fun σ H Q h => ?_
  obtain ⟨c, Z, ρ, r, q⟩ := h
  exact ⟨c, Z, ρ, r, q.bind fun d ρ1 v H1 r1 e1 h1 q1 => ⟨c, Z, ρ1, r1, q1.bind fun l ρ2 vs H2 r2 e2 h2 q2 => q2.done r2 (Reps.cons (h1.ext e2) h2)⟩⟩
theorem da_star (ha : PE X e (tD X.K E m)) (hr : PA X es (tAr X.K E ms)) (hs : starEach (.Starred e p :: es) X.env = (true, eval e X.env) :: starEach es X.env := by rfl) : PA X (.Starred e p :: es) (tAr X.K E (mStar m ms)) := by
  refine (StX.pa_star ha hr hs).imp fun σ H Q h => ?_
  obtain ⟨c, Z, ρ, r, q⟩ := h
  refine ⟨c, Z, ρ, r, q.bind fun d ρ1 v H1 r1 e1 h1 q1 => ?_⟩
  split at q1
  · rename_i l hl
    obtain ⟨a, vs, rfl, h2, h3⟩ := D.seq_rep hl h1
    exact ⟨a, vs, rfl, h2.symm, ⟨c, Z, ρ1, r1, q1.bind fun l' ρ2 vs' H2 r2 e2 h4 q2 => q2.done r2 ((Reps.ext e2 _ _ h3).app h4)⟩⟩
  · exact q1.elim
theorem d_list (h : PA X es (tAr X.K E ms)) : PE X (.List es pos) (tD X.K E (mLst ms)) := by
  refine (pe_lst h).imp fun σ H Q h => ?_
  obtain ⟨c, Z, ρ, r, q⟩ := h
  refine ⟨c, Z, ρ, r, q.bind fun l ρ1 vs H1 r1 e1 h1 q1 => ?_⟩
  have h1 : Reps X.K H1 Z l vs := h1
  split at q1
  · rename_i hl
    exact ⟨by rw [← h1.len]; exact hl, fun p hp => q1.new r1 (same_upd hp) (new_lst r1.dom hp h1)⟩
  · exact q1.elim
theorem d_tuple {k : Nat} (h : PA X es (tAr X.K E ms)) : PE X (.Tuple es k pos) (tD X.K E (mTup ms)) := by
  refine (pe_tup h).imp fun σ H Q h => ?_
  obtain ⟨c, Z, ρ, r, q⟩ := h
  refine ⟨c, Z, ρ, r, q.bind fun l ρ1 vs H1 r1 e1 h1 q1 => ?_⟩
  have h1 : Reps X.K H1 Z l vs := h1
  split at q1
  · rename_i hl
    exact ⟨by rw [← h1.len]; exact hl, fun p hp => q1.new r1 (same_upd hp) (new_tup r1.dom hp h1)⟩
  · exact q1.elim
end
/-! ### calls of built-ins -/
def mCa (f : List D → Option D) (ms : M (List D)) : M D := fun ρ => bindR (ms ρ) fun l ρ => liftO (f l) ρ
def CaD (K : PySem.W.Frag) (r : List V → Hp → VK → Prop) (f : List D → Option D) : Prop := ∀ (H : Hp) (Z : Addr → Prop) (l : List D) (d : D) (xs : List V) (Q : VK), (∀ p, Z p → H p ≠ none) → Reps K H Z l xs → f l = some d →
  (∀ v H', Same H H' → Rep K H' Z d v → Q v H') → r xs H Q
section
variable {X : Cx} {E : XK} {pos p : Pos} {x : Str} {e : Expr} {es : List Expr} {ms : M (List D)} {K : PySem.W.Frag} {r : List V → Hp → VK → Prop} {f : List D → Option D}
theorem ca_gen (hf : CaD K r f) {σ : St} {H : Hp} {Q : VK} (h : tD K E (mCa f ms) σ H Q) : tCB r (tAr K E ms) σ H Q := by
  obtain ⟨c, Z, ρ, r0, q⟩ := h
  refine ⟨c, Z, ρ, r0, q.bind fun l ρ1 vs H1 r1 e1 h1 q1 => ?_⟩
  obtain ⟨d, hd, k⟩ := q1.lift r1
  exact hf H1 Z l d vs Q r1.dom h1 hd k
theorem d_callB {id : String} (hc : CallR X (.builtin id) r) (hf : CaD X.K r f) (hm : X.mg x = none) (hv : bootBuiltins x = some (.builtin id)) (ha : PA X (e :: es) (tAr X.K E ms)) (hg : Gl X x := by rfl) (hn : x ≠ "__name__" := by decide) (hdb : (x == ("__debug__" : Str)) = false := by decide)
    (he : starEach (e :: es) X.env = (false, eval e X.env) :: starEach es X.env := by rfl) (hpl : (backTo pos (starEach es X.env)).any (·.1) = false := by rfl) : PE X (.Call (.Name x p) (e :: es) [] pos) (tD X.K E (mCa f ms)) :=
  (pe_callB hc hg hm hv ha hn hdb he hpl).imp fun _ _ _ h => ca_gen hf h
theorem d_callTy {T : String} (hc : CallR X (.type T) r) (hf : CaD X.K r f) (hm : X.mg x = none) (hv : bootBuiltins x = some (.type T)) (ha : PA X (e :: es) (tAr X.K E ms)) (hg : Gl X x := by rfl) (hn : x ≠ "__name__" := by decide) (hdb : (x == ("__debug__" : Str)) = false := by decide)
    (he : starEach (e :: es) X.env = (false, eval e X.env) :: starEach es X.env := by rfl) (hpl : (backTo pos (starEach es X.env)).any (·.1) = false := by rfl) : PE X (.Call (.Name x p) (e :: es) [] pos) (tD X.K E (mCa f ms)) :=
  (pe_callTy hc hg hm hv ha hn hdb he hpl).imp fun _ _ _ h => ca_gen hf h
end
def fLen : List D → Option D
  | [.str y] => if y.length ≤ sizeLine then some (.int (y.length : Nat)) else none
  | [.lst l] => some (.int (l.length : Nat))
  | [.rol l] => some (.int (l.length : Nat))
  | [.tup l] => some (.int (l.length : Nat))
  | [.dct ks l] => if ks.length = l.length then some (.int (ks.length : Nat)) else none
  | _ => none
def fInt : List D → Option D
  | [.int i] => some (.int i)
  | [.bl b] => some (.int (if b then 1 else 0))
  | _ => none
def fBool : List D → Option D
  | [.int i] => some (.bl (i != 0))
  | [.bl b] => some (.bl b)
  | _ => none
def fStr : List D → Option D
  | [.int i] => if i.natAbs.log2 < 1920 then some (.str (toString i)) else none
  | _ => none
def fTup : List D → Option D
  | [.lst l] => some (.tup l)
  | [.rol l] => some (.tup l)
  | [.tup l] => some (.tup l)
  | _ => none
def fLst : List D → Option D
  | [.lst l] => some (.lst l)
  | [.rol l] => some (.lst l)
  | [.tup l] => some (.lst l)
  | _ => none
def dInts : List D → Option (List Int)
  | [] => some []
  | .int i :: r => (dInts r).map fun l => i :: l
  | _ => none
def dBls : List D → Option (List Bool)
  | [] => some []
  | .bl i :: r => (dBls r).map fun l => i :: l
  | _ => none
def dStrs : List D → Option (List Str)
  | [] => some []
  | .str i :: r => (dStrs r).map fun l => i :: l
  | _ => none
def maxI : List Int → Option Int
  | [] => none
  | n :: r => some (r.foldl max n)
def minI : List Int → Option Int
  | [] => none
  | n :: r => some (r.foldl min n)
def fSum : List D → Option D
  | [d] => d.lis.bind fun l => (dInts l).map fun ns => .int ns.sum
  | _ => none
def fMax : List D → Option D
  | [d] => d.lis.bind fun l => (dInts l).bind fun ns => (maxI ns).map .int
  | [.int i, .int j] => some (.int (if j > i then j else i))
  | _ => none
def fMin : List D → Option D
  | [d] => d.lis.bind fun l => (dInts l).bind fun ns => (minI ns).map .int
  | [.int i, .int j] => some (.int (if j < i then j else i))
  | _ => none
def fAny : List D → Option D
  | [d] => d.lis.bind fun l => (dBls l).map fun bs => .bl (bs.any id)
  | _ => none
def fAll : List D → Option D
  | [d] => d.lis.bind fun l => (dBls l).map fun bs => .bl (bs.all id)
  | _ => none
def fAbs : List D → Option D
  | [.int i] => some (.int (if i < 0 then -i else i))
  | _ => none
section
variable {X : Cx} {K : PySem.W.Frag} {H : Hp} {Z : Addr → Prop}
theorem Reps.inv1 {d : D} {xs : List V} (h : Reps K H Z [d] xs) : ∃ v, xs = [v] ∧ Rep K H Z d v := by
  obtain ⟨v, r, e, h1, h2⟩ := h.inv
  cases (show r = [] from h2)
  exact ⟨v, e, h1⟩
theorem Reps.inv2 {d e : D} {xs : List V} (h : Reps K H Z [d, e] xs) : ∃ v u, xs = [v, u] ∧ Rep K H Z d v ∧ Rep K H Z e u := by
  obtain ⟨v, r, q, h1, h2⟩ := h.inv
  obtain ⟨u, q2, h3⟩ := h2.inv1
  exact ⟨v, u, by rw [q, q2], h1, h3⟩
theorem dInts_rep : ∀ {l : List D} {ns : List Int} {vs : List V}, dInts l = some ns → Reps K H Z l vs → vs = ns.map V.int
  | [], ns, vs, h, r => by
    cases h
    exact r
  | d :: l, ns, vs, h, r => by
    obtain ⟨v, r', e, h1, h2⟩ := r.inv
    cases d <;> first | (cases h; done) | skip
    rename_i i
    simp only [dInts] at h
    cases hl : dInts l with
    | none => rw [hl] at h; cases h
    | some ms =>
      rw [hl] at h
      cases h
      cases (show v = _ from h1)
      rw [e, dInts_rep hl h2]
      rfl
theorem dBls_rep : ∀ {l : List D} {ns : List Bool} {vs : List V}, dBls l = some ns → Reps K H Z l vs → vs = ns.map V.bl
  | [], ns, vs, h, r => by
    cases h
    exact r
  | d :: l, ns, vs, h, r => by
    obtain ⟨v, r', e, h1, h2⟩ := r.inv
    cases d <;> first | (cases h; done) | skip
    rename_i i
    simp only [dBls] at h
    cases hl : dBls l with
    | none => rw [hl] at h; cases h
    | some ms =>
      rw [hl] at h
      cases h
      cases (show v = _ from h1)
      rw [e, dBls_rep hl h2]
      rfl
theorem dStrs_rep : ∀ {l : List D} {ns : List Str} {vs : List V}, dStrs l = some ns → Reps K H Z l vs → vs = ns.map V.str
  | [], ns, vs, h, r => by
    cases h
    exact r
  | d :: l, ns, vs, h, r => by
    obtain ⟨v, r', e, h1, h2⟩ := r.inv
    cases d <;> first | (cases h; done) | skip
    rename_i i
    simp only [dStrs] at h
    cases hl : dStrs l with
    | none => rw [hl] at h; cases h
    | some ms =>
      rw [hl] at h
      cases h
      cases (show v = _ from h1)
      rw [e, dStrs_rep hl h2]
      rfl
theorem ca_int : CaD K (fun xs H Q => (∃ i, xs = [.int i] ∧ Q (.int i) H) ∨ ∃ k, xs = [.bl k] ∧ Q (.int (if k then 1 else 0)) H) fInt := by
  intro H Z l d xs Q hz r h k
  unfold fInt at h
  split at h
  · cases h
    obtain ⟨v, rfl, h1⟩ := r.inv1
    cases (show v = _ from h1)
    exact .inl ⟨_, rfl, k _ H (Same.refl H) rfl⟩
  · cases h
    obtain ⟨v, rfl, h1⟩ := r.inv1
    cases (show v = _ from h1)
    exact .inr ⟨_, rfl, k _ H (Same.refl H) rfl⟩
  · cases h
theorem ca_bool : CaD K (fun xs H Q => (∃ i, xs = [.int i] ∧ Q (.bl (i != 0)) H) ∨ ∃ k, xs = [.bl k] ∧ Q (.bl k) H) fBool := by
  intro H Z l d xs Q hz r h k
  unfold fBool at h
  split at h
  · cases h
    obtain ⟨v, rfl, h1⟩ := r.inv1
    cases (show v = _ from h1)
    exact .inl ⟨_, rfl, k _ H (Same.refl H) rfl⟩
  · cases h
    obtain ⟨v, rfl, h1⟩ := r.inv1
    cases (show v = _ from h1)
    exact .inr ⟨_, rfl, k _ H (Same.refl H) rfl⟩
  · cases h
theorem ca_str : CaD K (fun xs H Q => ∃ i, xs = [.int i] ∧ i.natAbs.log2 < 1920 ∧ Q (.str (toString i)) H) fStr := by
  intro H Z l d xs Q hz r h k
  unfold fStr at h
  split at h
  · split at h
    · rename_i hl
      cases h
      obtain ⟨v, rfl, h1⟩ := r.inv1
      cases (show v = _ from h1)
      exact ⟨_, rfl, hl, k _ H (Same.refl H) rfl⟩
    · cases h
  · cases h
theorem ca_abs : CaD K (fun xs H Q => ∃ i, xs = [.int i] ∧ Q (.int (if i < 0 then -i else i)) H) fAbs := by
  intro H Z l d xs Q hz r h k
  unfold fAbs at h
  split at h
  · cases h
    obtain ⟨v, rfl, h1⟩ := r.inv1
    cases (show v = _ from h1)
    exact ⟨_, rfl, k _ H (Same.refl H) rfl⟩
  · cases h
/-- len, of a dict too -/
theorem call_lenA : CallR X (.builtin "len") (fun xs H Q => (∃ x n, xs = [x] ∧ LenV X.K x H n ∧ Q (.int n) H) ∨ ∃ p kvs, xs = [.ref p] ∧ Rd H p (.dK kvs) ∧ Q (.int (kvs.length : Nat)) H) := by
  intro pins s σ H xs us Q I r h
  rcases h with h | ⟨p, kvs, rfl, h1, q⟩
  · exact call_len pins s σ H xs us Q I r h
  · rw [Vals.ref1 r]
    exact d_len I h1 fun t s' I' => ⟨.int _, H, I', ⟨_, rfl⟩, q⟩
theorem ca_len : CaD K (fun xs H Q => (∃ x n, xs = [x] ∧ LenV K x H n ∧ Q (.int n) H) ∨ ∃ p kvs, xs = [.ref p] ∧ Rd H p (.dK kvs) ∧ Q (.int (kvs.length : Nat)) H) fLen := by
  intro H Z l d xs Q hz r h k
  unfold fLen at h
  split at h
  · split at h
    · rename_i hl
      cases h
      obtain ⟨v, rfl, h1⟩ := r.inv1
      cases (show v = _ from h1)
      exact .inl ⟨_, _, rfl, ⟨hl, rfl⟩, k _ H (Same.refl H) rfl⟩
    · cases h
  · cases h
    obtain ⟨v, rfl, h1⟩ := r.inv1
    simp only [Rep] at h1
    obtain ⟨p, vs, rfl, h2, h3⟩ := h1
    exact .inl ⟨_, _, rfl, .inl ⟨vs, h2.sq, h3.len⟩, k _ H (Same.refl H) rfl⟩
  · cases h
    obtain ⟨v, rfl, h1⟩ := r.inv1
    simp only [Rep] at h1
    obtain ⟨p, vs, rfl, h2, h3⟩ := h1
    exact .inl ⟨_, _, rfl, .inl ⟨vs, h2.sq, h3.len⟩, k _ H (Same.refl H) rfl⟩
  · cases h
    obtain ⟨v, rfl, h1⟩ := r.inv1
    simp only [Rep] at h1
    obtain ⟨p, vs, rfl, h2, h3⟩ := h1
    exact .inl ⟨_, _, rfl, .inr ⟨vs, h2.sq, h3.len⟩, k _ H (Same.refl H) rfl⟩
  · split at h
    · cases h
      obtain ⟨v, rfl, h1⟩ := r.inv1
      simp only [Rep] at h1
      obtain ⟨p, vs, rfl, n, h2, hl, h3⟩ := h1
      refine .inr ⟨p, _, rfl, h2, k _ H (Same.refl H) ?_⟩
      show V.int _ = V.int _
      rw [List.length_zip, ← hl, Nat.min_self]
    · cases h
  · cases h
theorem ca_tup : CaD K (fun xs H Q => ∃ p ys, xs = [.ref p] ∧ ((SqL K H p ys ∧ ∀ l, H l = none → Q (.ref l) (upd H l (.tup ys))) ∨ (SqT K H p ys ∧ Q (.ref p) H))) fTup := by
  intro H Z l d xs Q hz r h k
  unfold fTup at h
  split at h
  · cases h
    obtain ⟨v, rfl, h1⟩ := r.inv1
    simp only [Rep] at h1
    obtain ⟨p, vs, rfl, h2, h3⟩ := h1
    exact ⟨p, vs, rfl, .inl ⟨h2.sq, fun a ha => k _ _ (same_upd ha) (new_tup hz ha h3)⟩⟩
  · cases h
    obtain ⟨v, rfl, h1⟩ := r.inv1
    simp only [Rep] at h1
    obtain ⟨p, vs, rfl, h2, h3⟩ := h1
    exact ⟨p, vs, rfl, .inl ⟨h2.sq, fun a ha => k _ _ (same_upd ha) (new_tup hz ha h3)⟩⟩
  · cases h
    obtain ⟨v, rfl, h1⟩ := r.inv1
    have h1' := h1
    simp only [Rep] at h1
    obtain ⟨p, vs, rfl, h2, h3⟩ := h1
    exact ⟨p, vs, rfl, .inr ⟨h2.sq, k _ H (Same.refl H) h1'⟩⟩
  · cases h
theorem ca_lst : CaD K (fun xs H Q => ∃ p ys, xs = [.ref p] ∧ (SqL K H p ys ∨ SqT K H p ys) ∧ ∀ l, H l = none → Q (.ref l) (upd H l (.lst ys))) fLst := by
  intro H Z l d xs Q hz r h k
  have go : ∀ {e : D} {ds : List D}, l = [e] → e.seq = some ds → d = .lst ds → ∃ p ys, xs = [.ref p] ∧ (SqL K H p ys ∨ SqT K H p ys) ∧ ∀ l, H l = none → Q (.ref l) (upd H l (.lst ys)) := by
    intro e ds e1 e2 e3
    subst e1 e3
    obtain ⟨v, rfl, h1⟩ := r.inv1
    obtain ⟨p, vs, rfl, h2, h3⟩ := D.seq_rep e2 h1
    exact ⟨p, vs, rfl, h2, fun a ha => k _ _ (same_upd ha) (new_lst hz ha h3)⟩
  unfold fLst at h
  split at h
  · cases h
    exact go rfl rfl rfl
  · cases h
    exact go rfl rfl rfl
  · cases h
    exact go rfl rfl rfl
  · cases h
theorem ca_sum : CaD K (rSum K) fSum := by
  intro H Z l d xs Q hz r h k
  unfold fSum at h
  split at h
  · obtain ⟨v, rfl, h1⟩ := r.inv1
    rename_i e
    cases e1 : e.lis with
    | none => rw [e1] at h; cases h
    | some ds =>
      rw [e1] at h
      obtain ⟨p, vs, rfl, h2, h3⟩ := D.lis_rep e1 h1
      cases e2 : dInts ds with
      | none => simp only [Option.bind_some, e2] at h; cases h
      | some ns =>
        simp only [Option.bind_some, e2, Option.map_some] at h
        cases h
        have e3 := dInts_rep e2 h3
        subst e3
        exact ⟨p, ns, rfl, h2, k _ H (Same.refl H) rfl⟩
  · cases h
theorem ca_any : CaD K (rAny K) fAny := by
  intro H Z l d xs Q hz r h k
  unfold fAny at h
  split at h
  · obtain ⟨v, rfl, h1⟩ := r.inv1
    rename_i e
    cases e1 : e.lis with
    | none => rw [e1] at h; cases h
    | some ds =>
      rw [e1] at h
      obtain ⟨p, vs, rfl, h2, h3⟩ := D.lis_rep e1 h1
      cases e2 : dBls ds with
      | none => simp only [Option.bind_some, e2] at h; cases h
      | some ns =>
        simp only [Option.bind_some, e2, Option.map_some] at h
        cases h
        have e3 := dBls_rep e2 h3
        subst e3
        exact ⟨p, ns, rfl, h2, k _ H (Same.refl H) rfl⟩
  · cases h
theorem ca_all : CaD K (rAll K) fAll := by
  intro H Z l d xs Q hz r h k
  unfold fAll at h
  split at h
  · obtain ⟨v, rfl, h1⟩ := r.inv1
    rename_i e
    cases e1 : e.lis with
    | none => rw [e1] at h; cases h
    | some ds =>
      rw [e1] at h
      obtain ⟨p, vs, rfl, h2, h3⟩ := D.lis_rep e1 h1
      cases e2 : dBls ds with
      | none => simp only [Option.bind_some, e2] at h; cases h
      | some ns =>
        simp only [Option.bind_some, e2, Option.map_some] at h
        cases h
        have e3 := dBls_rep e2 h3
        subst e3
        exact ⟨p, ns, rfl, h2, k _ H (Same.refl H) rfl⟩
  · cases h
end
end DL
set_option Elab.async false
set_option linter.all false
set_option maxRecDepth 100000
set_option maxHeartbeats 4000000
namespace DL
open PySem PySem.Spec PyProof.Rows L2
variable [CTab]
/-! ### max, min -/
section
theorem maxI_spec : ∀ {r : List Int} {n : Int}, r.foldl max n ∈ n :: r ∧ ∀ y ∈ n :: r, y ≤ r.foldl max n
  | [], n => by simp
  | a :: r, n => by
    obtain ⟨h1, h2⟩ := maxI_spec (r := r) (n := max n a)
    rw [List.foldl_cons]
    refine ⟨?_, fun y hy => ?_⟩
    · rcases List.mem_cons.mp h1 with e | h
      · rw [e]
        by_cases hc : n ≤ a
        · rw [Int.max_eq_right hc]; simp
        · rw [Int.max_eq_left (by omega)]; simp
      · exact List.mem_cons_of_mem _ (List.mem_cons_of_mem _ h)
    · have h0 := h2 (max n a) List.mem_cons_self
      rcases List.mem_cons.mp hy with e | hy
      · subst e
        exact Int.le_trans (Int.le_max_left _ _) h0
      · rcases List.mem_cons.mp hy with e | hy
        · subst e
          exact Int.le_trans (Int.le_max_right _ _) h0
        · exact h2 y (List.mem_cons_of_mem _ hy)
theorem minI_spec : ∀ {r : List Int} {n : Int}, r.foldl min n ∈ n :: r ∧ ∀ y ∈ n :: r, r.foldl min n ≤ y
  | [], n => by simp
  | a :: r, n => by
    obtain ⟨h1, h2⟩ := minI_spec (r := r) (n := min n a)
    rw [List.foldl_cons]
    refine ⟨?_, fun y hy => ?_⟩
    · rcases List.mem_cons.mp h1 with e | h
      · rw [e]
        by_cases hc : n ≤ a
        · rw [Int.min_eq_left hc]; simp
        · rw [Int.min_eq_right (by omega)]; simp
      · exact List.mem_cons_of_mem _ (List.mem_cons_of_mem _ h)
    · have h0 := h2 (min n a) List.mem_cons_self
      rcases List.mem_cons.mp hy with e | hy
      · subst e
        exact Int.le_trans h0 (Int.min_le_left _ _)
      · rcases List.mem_cons.mp hy with e | hy
        · subst e
          exact Int.le_trans h0 (Int.min_le_right _ _)
        · exact h2 y (List.mem_cons_of_mem _ hy)
variable {X : Cx} {K : PySem.W.Frag} {H : Hp} {Z : Addr → Prop}
theorem ca_max : CaD K (fun xs H Q => rMax K xs H Q ∨ ∃ i j, xs = [.int i, .int j] ∧ Q (.int (if j > i then j else i)) H) fMax := by
  intro H Z l d xs Q hz r h k
  unfold fMax at h
  split at h
  · rename_i e
    obtain ⟨v, rfl, h1⟩ := r.inv1
    cases e1 : e.lis with
    | none => rw [e1] at h; cases h
    | some ds =>
      obtain ⟨p, vs, rfl, h2, h3⟩ := D.lis_rep e1 h1
      cases e2 : dInts ds with
      | none => simp only [e1, Option.bind_some, e2] at h; cases h
      | some ns =>
        have e3 := dInts_rep e2 h3
        subst e3
        simp only [e1, Option.bind_some, e2] at h
        cases ns with
        | nil => cases h
        | cons n r =>
          cases h
          obtain ⟨g1, g2⟩ := maxI_spec (r := r) (n := n)
          refine .inl ⟨p, n :: r, rfl, h2, by simp, fun m hm hall => k _ H (Same.refl H) ?_⟩
          show V.int m = V.int _
          rw [Int.le_antisymm (g2 m hm) (hall _ g1)]
  · cases h
    obtain ⟨v, u, rfl, h1, h2⟩ := r.inv2
    cases (show v = _ from h1)
    cases (show u = _ from h2)
    exact .inr ⟨_, _, rfl, k _ H (Same.refl H) rfl⟩
  · cases h
theorem ca_min : CaD K (fun xs H Q => rMin K xs H Q ∨ ∃ i j, xs = [.int i, .int j] ∧ Q (.int (if j < i then j else i)) H) fMin := by
  intro H Z l d xs Q hz r h k
  unfold fMin at h
  split at h
  · rename_i e
    obtain ⟨v, rfl, h1⟩ := r.inv1
    cases e1 : e.lis with
    | none => rw [e1] at h; cases h
    | some ds =>
      obtain ⟨p, vs, rfl, h2, h3⟩ := D.lis_rep e1 h1
      cases e2 : dInts ds with
      | none => simp only [e1, Option.bind_some, e2] at h; cases h
      | some ns =>
        have e3 := dInts_rep e2 h3
        subst e3
        simp only [e1, Option.bind_some, e2] at h
        cases ns with
        | nil => cases h
        | cons n r =>
          cases h
          obtain ⟨g1, g2⟩ := minI_spec (r := r) (n := n)
          refine .inl ⟨p, n :: r, rfl, h2, by simp, fun m hm hall => k _ H (Same.refl H) ?_⟩
          show V.int m = V.int _
          rw [Int.le_antisymm (hall _ g1) (g2 m hm)]
  · cases h
    obtain ⟨v, u, rfl, h1, h2⟩ := r.inv2
    cases (show v = _ from h1)
    cases (show u = _ from h2)
    exact .inr ⟨_, _, rfl, k _ H (Same.refl H) rfl⟩
  · cases h
theorem call_maxA (hc : X.calm = true) : CallR X (.builtin "max") (fun xs H Q => rMax X.K xs H Q ∨ ∃ i j, xs = [.int i, .int j] ∧ Q (.int (if j > i then j else i)) H) := (cr_max hc).or (call_max2 hc)
theorem call_minA (hc : X.calm = true) : CallR X (.builtin "min") (fun xs H Q => rMin X.K xs H Q ∨ ∃ i j, xs = [.int i, .int j] ∧ Q (.int (if j < i then j else i)) H) := (cr_min hc).or (call_min2 hc)
end
/-! ### sorted -/
def insB {α : Type} (le : α → α → Bool) (a : α) : List α → List α
  | [] => [a]
  | b :: r => if le a b = true then a :: b :: r else b :: insB le a r
def isort {α : Type} (le : α → α → Bool) : List α → List α
  | [] => []
  | a :: r => insB le a (isort le r)
section
variable {α : Type} {le : α → α → Bool}
theorem insB_perm (a : α) : ∀ l : List α, (insB le a l).Perm (a :: l)
  | [] => .refl _
  | b :: r => by
    unfold insB
    split
    · exact .refl _
    · exact ((insB_perm a r).cons b).trans (.swap a b r)
theorem isort_perm : ∀ l : List α, (isort le l).Perm l
  | [] => .refl _
  | a :: r => (insB_perm a _).trans ((isort_perm r).cons a)
theorem insB_pw (tr : ∀ a b c, le a b = true → le b c = true → le a c = true) (tot : ∀ a b, le a b = true ∨ le b a = true) (a : α) : ∀ l : List α, l.Pairwise (fun x y => le x y = true) → (insB le a l).Pairwise (fun x y => le x y = true)
  | [], _ => by simp [insB]
  | b :: r, h => by
    obtain ⟨h1, h2⟩ := List.pairwise_cons.mp h
    unfold insB
    split
    · rename_i hab
      refine List.pairwise_cons.mpr ⟨fun y hy => ?_, h⟩
      rcases List.mem_cons.mp hy with e | hy
      · rw [e]; exact hab
      · exact tr _ _ _ hab (h1 y hy)
    · rename_i hab
      refine List.pairwise_cons.mpr ⟨fun y hy => ?_, insB_pw tr tot a r h2⟩
      rcases List.mem_cons.mp ((insB_perm a r).mem_iff.mp hy) with e | hy
      · rw [e]; exact (tot a b).resolve_left hab
      · exact h1 y hy
theorem isort_pw (tr : ∀ a b c, le a b = true → le b c = true → le a c = true) (tot : ∀ a b, le a b = true ∨ le b a = true) : ∀ l : List α, (isort le l).Pairwise (fun x y => le x y = true)
  | [] => .nil
  | a :: r => insB_pw tr tot a _ (isort_pw tr tot r)
end
def leI (a b : Int) : Bool := decide (a ≤ b)
def leS (a b : Str) : Bool := !decide (b.cps.toList < a.cps.toList)
theorem leI_tr (a b c : Int) (h1 : leI a b = true) (h2 : leI b c = true) : leI a c = true := decide_eq_true (Int.le_trans (of_decide_eq_true h1) (of_decide_eq_true h2))
theorem leI_tot (a b : Int) : leI a b = true ∨ leI b a = true := (Int.le_total a b).imp decide_eq_true decide_eq_true
theorem leS_iff (a b : Str) : leS a b = true ↔ a.cps.toList ≤ b.cps.toList := by
  unfold leS
  rw [Bool.not_eq_true', decide_eq_false_iff_not]
  exact List.not_lt
theorem leS_tr (a b c : Str) (h1 : leS a b = true) (h2 : leS b c = true) : leS a c = true := (leS_iff a c).mpr (List.le_trans ((leS_iff a b).mp h1) ((leS_iff b c).mp h2))
theorem leS_tot (a b : Str) : leS a b = true ∨ leS b a = true := (List.le_total a.cps.toList b.cps.toList).imp (leS_iff a b).mpr (leS_iff b a).mpr
theorem str_ext {a b : Str} (h : a.cps.toList = b.cps.toList) : a = b := by
  obtain ⟨⟨x⟩⟩ := a
  obtain ⟨⟨y⟩⟩ := b
  exact congrArg (fun l => (⟨⟨l⟩⟩ : Str)) h
theorem leS_anti (a b : Str) (h1 : leS a b = true) (h2 : leS b a = true) : a = b := str_ext (List.le_antisymm ((leS_iff a b).mp h1) ((leS_iff b a).mp h2))
theorem risingS_pw : ∀ (r : List Str) (p : Str), PyProof.Rows.risingS p r = true → (p :: r).Pairwise fun x y => leS x y = true
  | [], p, _ => by simp
  | x :: r, p, h => by
    have h' : (!ltCps x.cps.toList p.cps.toList && PyProof.Rows.risingS x r) = true := h
    obtain ⟨h1, h2⟩ := Bool.and_eq_true_iff.mp h'
    have ih := risingS_pw r x h2
    have hp : leS p x = true := by
      unfold leS
      rw [← PyProof.Rows.ltCps_eq]
      exact h1
    refine List.pairwise_cons.mpr ⟨fun y hy => ?_, ih⟩
    rcases List.mem_cons.mp hy with e | hy
    · rw [e]; exact hp
    · exact leS_tr _ _ _ hp ((List.pairwise_cons.mp ih).1 y hy)
theorem sortedS_pw : ∀ {l : List Str}, PyProof.Rows.sortedS l = true → l.Pairwise fun x y => leS x y = true
  | [], _ => .nil
  | x :: r, h => risingS_pw r x h
def fSorted : List D → Option D
  | [d] => d.lis.bind fun l => match dInts l with
    | some ns => some (.lst ((isort leI ns).map .int))
    | none => match dStrs l with
      | some ss => if ss.length < 64 then some (.lst ((isort leS ss).map .str)) else none
      | none => none
  | _ => none
section
variable {X : Cx} {K : PySem.W.Frag} {H : Hp} {Z : Addr → Prop}
theorem reps_ints : ∀ ns : List Int, Reps K H Z (ns.map .int) (ns.map V.int)
  | [] => rfl
  | n :: r => Reps.cons rfl (reps_ints r)
theorem reps_strs : ∀ ns : List Str, Reps K H Z (ns.map .str) (ns.map V.str)
  | [] => rfl
  | n :: r => Reps.cons rfl (reps_strs r)
theorem reps_bls : ∀ ns : List Bool, Reps K H Z (ns.map .bl) (ns.map V.bl)
  | [] => rfl
  | n :: r => Reps.cons rfl (reps_bls r)
theorem ca_sorted : CaD K (fun xs H Q => rSortedI K xs H Q ∨ rSortedS K xs H Q) fSorted := by
  intro H Z l d xs Q hz r h k
  unfold fSorted at h
  split at h
  · rename_i e
    obtain ⟨v, rfl, h1⟩ := r.inv1
    cases e1 : e.lis with
    | none => rw [e1] at h; cases h
    | some ds =>
      obtain ⟨p, vs, rfl, h2, h3⟩ := D.lis_rep e1 h1
      rw [e1, Option.bind_some] at h
      cases e2 : dInts ds with
      | some ns =>
        rw [e2] at h
        cases h
        have e3 := dInts_rep e2 h3
        subst e3
        refine .inl ⟨p, ns, rfl, h2, fun ns' q hp hs hq => ?_⟩
        have e4 : ns' = isort leI ns := List.Perm.eq_of_pairwise (le := fun a b => leI a b = true) (fun a b _ _ q1 q2 => Int.le_antisymm (of_decide_eq_true q1) (of_decide_eq_true q2)) (hs.imp decide_eq_true) (isort_pw leI_tr leI_tot ns) (hp.trans (isort_perm ns).symm)
        subst e4
        exact k _ _ (same_upd hq) (new_lst hz hq (reps_ints _))
      | none =>
        rw [e2] at h
        cases e5 : dStrs ds with
        | none => simp only [e5] at h; cases h
        | some ss =>
          simp only [e5] at h
          split at h
          · rename_i h64
            cases h
            have e3 := dStrs_rep e5 h3
            subst e3
            refine .inr ⟨p, ss, rfl, h2, h64, fun ys q hp hs hq => ?_⟩
            have e4 : ys = isort leS ss := List.Perm.eq_of_pairwise (le := fun a b => leS a b = true) (fun a b _ _ q1 q2 => leS_anti a b q1 q2) (sortedS_pw hs) (isort_pw leS_tr leS_tot ss) (hp.trans (isort_perm ss).symm)
            subst e4
            exact k _ _ (same_upd hq) (new_lst hz hq (reps_strs _))
          · cases h
  · cases h
theorem call_sortedA : CallR X (.builtin "sorted") (fun xs H Q => rSortedI X.K xs H Q ∨ rSortedS X.K xs H Q) := cr_sortedI.or cr_sortedS
end
/-! ### isinstance -/
/-- the name of a built-in type -/
def D.tn : D → Option String
  | .non => some "NoneType"
  | .bl _ => some "bool"
  | .int _ => some "int"
  | .str _ => some "str"
  | .lst _ => some "list"
  | .rol _ => some "list"
  | .tup _ => some "tuple"
  | .dct _ _ => some "dict"
  | .ob _ _ => none
section
variable {X : Cx} {K : PySem.W.Frag} {H : Hp} {Z : Addr → Prop}
theorem D.tyx {d : D} {n : String} {v : V} (h : d.tn = some n) (r : Rep K H Z d v) : TyX K H v (.type n) := by
  cases d with
  | non => cases h; cases (show v = _ from r); exact .base .non
  | bl b => cases h; cases (show v = _ from r); exact .base (.bl b)
  | int b => cases h; cases (show v = _ from r); exact .base (.int b)
  | str b => cases h; cases (show v = _ from r); exact .base (.str b)
  | lst l =>
    cases h
    simp only [Rep] at r
    obtain ⟨p, vs, rfl, ⟨_, h1⟩, h2⟩ := r
    rcases h1 with h1 | ⟨o, h1⟩
    · exact .base (.lst h1)
    · exact .base (.frz h1)
  | rol l =>
    cases h
    simp only [Rep] at r
    obtain ⟨p, vs, rfl, h1, h2⟩ := r
    rcases h1 with ⟨_, h1 | ⟨o, h1⟩⟩ | ⟨o, its, n, h1, h3, _⟩
    · exact .base (.lst h1)
    · exact .base (.frz h1)
    · exact .kList h1 h3
  | tup l =>
    cases h
    simp only [Rep] at r
    obtain ⟨p, vs, rfl, h1, h2⟩ := r
    rcases h1 with ⟨_, h1 | ⟨o, h1⟩⟩ | ⟨o, its, n, h1, h3, _⟩
    · exact .base (.tup h1)
    · exact .fTuple h1
    · exact .kTuple h1 h3
  | dct ks l =>
    cases h
    simp only [Rep] at r
    obtain ⟨p, vs, rfl, _, h1, _, h2⟩ := r
    rcases h1 with h1 | ⟨o, h1⟩
    · exact .base (.dK h1)
    · exact .fDict h1
  | ob _ _ => cases h
end
end DL
set_option Elab.async false
set_option linter.all false
set_option maxRecDepth 100000
set_option maxHeartbeats 4000000
namespace DL
open PySem PySem.Spec PyProof.Rows L2
variable [CTab]
/-! ### types of data, isinstance -/
inductive Ty where
  | non | bool | int | str | list | tuple | dict
  deriving DecidableEq
def Ty.nm : Ty → String
  | .non => "NoneType" | .bool => "bool" | .int => "int" | .str => "str" | .list => "list" | .tuple => "tuple" | .dict => "dict"
def Ty.sub : Ty → Ty → Bool
  | .bool, .int => true
  | a, b => decide (a = b)
def D.ty : D → Option Ty
  | .non => some .non
  | .bl _ => some .bool
  | .int _ => some .int
  | .str _ => some .str
  | .lst _ => some .list
  | .rol _ => some .list
  | .tup _ => some .tuple
  | .dct _ _ => some .dict
  | .ob _ _ => none
theorem kit_all (t T : Ty) : kitB t.nm T.nm = some (t.sub T) := by
  cases t <;> cases T <;> decide +kernel
theorem D.tyx' {K : PySem.W.Frag} {H : Hp} {Z : Addr → Prop} {d : D} {t : Ty} {v : V} (h : d.ty = some t) (r : Rep K H Z d v) : TyX K H v (.type t.nm) := by
  have e : d.tn = some t.nm := by cases d <;> cases h <;> rfl
  exact D.tyx e r
/-- what an instance's class must be for isinstance -/
structure ClsI (K : PySem.W.Frag) (C : Addr) : Prop where
  cl : Cls K C
  ha : PySem.W.findIn K (.ref C) "__class__" = some (some (.builtin "object.__class__"))
  hn : PySem.W.specialIn K (.builtin "object.__class__") "__get__" = some (some (.builtin "getset_descriptor.__get__"))
  htk : PySem.W.takesIn K (.builtin "object.__class__") = some true
  hm : PySem.W.mroIn K C (.type "object") = some true
def clsIB (K : PySem.W.Frag) (x : Str) : Bool := (He.Fa.cls x).ok K && (He.eqO (PySem.W.findIn K (.ref (He.ga K x)) "__class__") (some (some (.builtin "object.__class__"))) && (He.eqO (PySem.W.specialIn K (.builtin "object.__class__") "__get__") (some (some (.builtin "getset_descriptor.__get__"))) &&
  (decide (PySem.W.takesIn K (.builtin "object.__class__") = some true) && decide (PySem.W.mroIn K (He.ga K x) (.type "object") = some true))))
theorem clsIB_ok {K : PySem.W.Frag} {x : Str} (h : clsIB K x = true) : ClsI K (He.ga K x) := by
  obtain ⟨h1, h⟩ := He.ba h
  obtain ⟨h2, h⟩ := He.ba h
  obtain ⟨h3, h⟩ := He.ba h
  obtain ⟨h4, h5⟩ := He.ba h
  exact ⟨He.cls_ok h1, He.eqO_ok h2, He.eqO_ok h3, of_decide_eq_true h4, of_decide_eq_true h5⟩
/-- the facts of the plain classes numbered below n -/
structure CFacts (K : PySem.W.Frag) (n : Nat) : Prop where
  cls : ∀ c, c < n → ClsI K (He.ga K (cN c))
  noat : ∀ c f, c < n → f ∈ cF c → NoAttr K (He.ga K (cN c)) f
  nd : ∀ c, c < n → (cF c).Nodup
  isi : ∀ c e, c < n → e < n → PySem.W.kitOne K (.ref (He.ga K (cN c))) (.ref (He.ga K (cN e))) = some (c == e)
  bui : ∀ (t : Ty) e, e < n → PySem.W.kitOne K (.type t.nm) (.ref (He.ga K (cN e))) = some false
def Ty.all : List Ty := [.non, .bool, .int, .str, .list, .tuple, .dict]
theorem Ty.mem (t : Ty) : t ∈ Ty.all := by cases t <;> simp [Ty.all]
def cfactsB (K : PySem.W.Frag) (n : Nat) : Bool := (List.range n).all fun c => clsIB K (cN c) && (((cF c).all fun f => (He.Fa.noat (cN c) f).ok K) && (decide (cF c).Nodup &&
  (((List.range n).all fun e => decide (PySem.W.kitOne K (.ref (He.ga K (cN c))) (.ref (He.ga K (cN e))) = some (c == e))) && Ty.all.all fun t => decide (PySem.W.kitOne K (.type t.nm) (.ref (He.ga K (cN c))) = some false))))
theorem cfacts_ok {K : PySem.W.Frag} {n : Nat} (h : cfactsB K n = true) : CFacts K n := by
  have at_ : ∀ c, c < n → _ := fun c hc => List.all_eq_true.mp h c (List.mem_range.mpr hc)
  refine ⟨fun c hc => clsIB_ok (He.ba (at_ c hc)).1, fun c f hc hf => ?_, fun c hc => ?_, fun c e hc he => ?_, fun t e he => ?_⟩
  · exact He.noat_ok (List.all_eq_true.mp (He.ba (He.ba (at_ c hc)).2).1 f hf)
  · exact of_decide_eq_true (He.ba (He.ba (He.ba (at_ c hc)).2).2).1
  · exact of_decide_eq_true (List.all_eq_true.mp (He.ba (He.ba (He.ba (He.ba (at_ c hc)).2).2).2).1 e (List.mem_range.mpr he))
  · exact of_decide_eq_true (List.all_eq_true.mp (He.ba (He.ba (He.ba (He.ba (at_ e he)).2).2).2).2 t (Ty.mem t))
def isTy (T : Ty) (d : D) : Option Bool := d.ty.map fun t => t.sub T
def isTys (Ts : List Ty) (d : D) : Option Bool := d.ty.map fun t => Ts.any fun T => t.sub T
def isCl (n e : Nat) : D → Option Bool
  | .ob c _ => if c < n then some (c == e) else none
  | d => d.ty.map fun _ => false
def mIs (f : D → Option Bool) (m : M D) : M D := m1 (fun d => (f d).map .bl) m
section
variable {X : Cx} {E : XK} {pos p p2 : Pos} {e : Expr} {m : M D}
theorem d_isTy (T : Ty) {y : Str} {tp : Pos} (he : PE X e (tD X.K E m)) (hm : X.mg "isinstance" = none) (hy : X.mg y = none) (hv : bootBuiltins y = some (.type T.nm)) (hg : Gl X "isinstance" := by rfl) (hgy : Gl X y := by rfl) (hn : y ≠ "__name__" := by decide) (hd : (y == ("__debug__" : Str)) = false := by decide)
    (hs : starEach [e, .Name y tp] X.env = (false, eval e X.env) :: starEach [.Name y tp] X.env := by rfl) (hs2 : starEach [.Name y tp] X.env = (false, eval (.Name y tp) X.env) :: starEach [] X.env := by rfl) (hpl : (backTo pos (starEach [.Name y tp] X.env)).any (·.1) = false := by rfl) :
    PE X (.Call (.Name "isinstance" p) [e, .Name y tp] [] pos) (tD X.K E (mIs (isTy T) m)) := by
  have hb : PE X (.Name y tp) (tC (.ty T.nm)) := pe_bltn hgy hy hv rfl hn hd
  refine (pe_callB call_isi hg hm (by decide +kernel) (pa_cons he (pa_cons hb pa_nil hs2) hs) (by decide) (by decide) hs hpl).imp fun σ H Q h => ?_
  obtain ⟨c, Z, ρ, r, q⟩ := h
  refine ⟨c, Z, ρ, r, q.bind fun d ρ1 v H1 r1 e1 h1 q1 => ?_⟩
  obtain ⟨w, hw, k⟩ := q1.lift r1
  cases ht : d.ty with
  | none => simp [isTy, ht] at hw
  | some t =>
    simp only [isTy, ht, Option.map_some, Option.some.injEq] at hw
    subst hw
    exact ⟨v, _, _, _, t.sub T, rfl, .ty T.nm, D.tyx' ht h1, kit_ty (kit_all t T), k _ H1 (Same.refl H1) rfl⟩
theorem d_isTys2 (T S : Ty) {y z : Str} {yp zp : Pos} {kt : Nat} {tp : Pos} (he : PE X e (tD X.K E m)) (hm : X.mg "isinstance" = none) (hy : X.mg y = none) (hz : X.mg z = none) (hv : bootBuiltins y = some (.type T.nm)) (hw : bootBuiltins z = some (.type S.nm)) (hg : Gl X "isinstance" := by rfl) (hgy : Gl X y := by rfl) (hgz : Gl X z := by rfl)
    (hn : y ≠ "__name__" := by decide) (hd : (y == ("__debug__" : Str)) = false := by decide) (hn2 : z ≠ "__name__" := by decide) (hd2 : (z == ("__debug__" : Str)) = false := by decide)
    (hs : starEach [e, .Tuple [.Name y yp, .Name z zp] kt tp] X.env = (false, eval e X.env) :: starEach [.Tuple [.Name y yp, .Name z zp] kt tp] X.env := by rfl)
    (hs2 : starEach [.Tuple [.Name y yp, .Name z zp] kt tp] X.env = (false, eval (.Tuple [.Name y yp, .Name z zp] kt tp) X.env) :: starEach [] X.env := by rfl) (hpl : (backTo pos (starEach [.Tuple [.Name y yp, .Name z zp] kt tp] X.env)).any (·.1) = false := by rfl)
    (hs3 : starEach [.Name y yp, .Name z zp] X.env = (false, eval (.Name y yp) X.env) :: starEach [.Name z zp] X.env := by rfl) (hs4 : starEach [.Name z zp] X.env = (false, eval (.Name z zp) X.env) :: starEach [] X.env := by rfl) :
    PE X (.Call (.Name "isinstance" p) [e, .Tuple [.Name y yp, .Name z zp] kt tp] [] pos) (tD X.K E (mIs (isTys [T, S]) m)) := by
  have hb : PE X (.Name y yp) (tC (.ty T.nm)) := pe_bltn hgy hy hv rfl hn hd
  have hc : PE X (.Name z zp) (tC (.ty S.nm)) := pe_bltn hgz hz hw rfl hn2 hd2
  have ht : PE X (.Tuple [.Name y yp, .Name z zp] kt tp) (tTup (tCons (tC (.ty T.nm)) (tCons (tC (.ty S.nm)) tNil))) := pe_tup (pa_cons hb (pa_cons hc pa_nil hs4) hs3)
  refine (pe_callB call_isiT hg hm (by decide +kernel) (pa_cons he (pa_cons ht pa_nil hs2) hs) (by decide) (by decide) hs hpl).imp fun σ H Q h => ?_
  obtain ⟨c, Z, ρ, r, q⟩ := h
  refine ⟨c, Z, ρ, r, q.bind fun d ρ1 v H1 r1 e1 h1 q1 => ?_⟩
  obtain ⟨w, hw, k⟩ := q1.lift r1
  cases ht : d.ty with
  | none => simp [isTys, ht] at hw
  | some t =>
    simp only [isTys, ht, Option.map_some, Option.some.injEq] at hw
    subst hw
    refine ⟨by show 2 ≤ sizeLine; decide, fun a ha => ?_⟩
    have s := same_upd (o := .tup [V.ty T.nm, V.ty S.nm]) ha
    have h2 : TyX X.K (upd H1 a (.tup [V.ty T.nm, V.ty S.nm])) v (.type t.nm) := D.tyx' ht (h1.ext (Ext.same s))
    refine ⟨v, a, [.ty T.nm, .ty S.nm], _, [.type T.nm, .type S.nm], [T, S].any fun T => t.sub T, rfl, upd_same, .cons (.ty _) (.cons (.ty _) .nil), h2, ?_, k _ _ s rfl⟩
    refine kitAny_cons (kit_ty (kit_all t T)) (fun _ => kitAny_cons (kit_ty (kit_all t S)) (fun _ => ?_) (fun h => ?_)) (fun h => ?_)
    · rename_i h1 h2
      rw [kitAny_nil]
      simp [h1, h2]
    · simp [h]
    · simp [h]
theorem d_isCl {n : Nat} (cf : CFacts X.K n) (ec : Nat) (hec : ec < n) {y : Str} {tp : Pos} (hy : y = cN ec) (he : PE X e (tD X.K E m)) (hm : X.mg "isinstance" = none) (hmy : X.mg y = some (.ref (He.ga X.K y))) (hg : Gl X "isinstance" := by rfl) (hgy : Gl X y := by rfl) (hd : (y == ("__debug__" : Str)) = false := by decide)
    (hs : starEach [e, .Name y tp] X.env = (false, eval e X.env) :: starEach [.Name y tp] X.env := by rfl) (hs2 : starEach [.Name y tp] X.env = (false, eval (.Name y tp) X.env) :: starEach [] X.env := by rfl) (hpl : (backTo pos (starEach [.Name y tp] X.env)).any (·.1) = false := by rfl) :
    PE X (.Call (.Name "isinstance" p) [e, .Name y tp] [] pos) (tD X.K E (mIs (isCl n ec) m)) := by
  subst hy
  have hb : PE X (.Name (cN ec) tp) (tC (.ref (He.ga X.K (cN ec)))) := pe_glob hgy hmy rfl hd
  refine (pe_callB call_isi hg hm (by decide +kernel) (pa_cons he (pa_cons hb pa_nil hs2) hs) (by decide) (by decide) hs hpl).imp fun σ H Q h => ?_
  obtain ⟨c, Z, ρ, r, q⟩ := h
  refine ⟨c, Z, ρ, r, q.bind fun d ρ1 v H1 r1 e1 h1 q1 => ?_⟩
  obtain ⟨w, hw, k⟩ := q1.lift r1
  have h1 : Rep X.K H1 Z d v := h1
  have plain : ∀ t, d.ty = some t → isCl n ec d = some false → tC (.ref (He.ga X.K (cN ec))) σ H1 fun x H2 => rIsi X.K [v, x] H2 Q := fun t ht hi => by
    have hw : (isCl n ec d).map D.bl = some w := hw
    rw [hi] at hw
    cases hw
    exact ⟨v, _, _, _, false, rfl, .own _, D.tyx' ht h1, cf.bui t ec hec, k _ H1 (Same.refl H1) rfl⟩
  cases d with
  | ob c l =>
    have hw : (if c < n then some (c == ec) else none).map D.bl = some w := hw
    split at hw
    · rename_i hc
      cases hw
      simp only [Rep] at h1
      obtain ⟨a, dx, vs, rfl, _, h2, _⟩ := h1
      have g := cf.cls c hc
      exact ⟨_, _, _, _, c == ec, rfl, .own _, .base (.ins h2 g.cl g.ha g.hn g.htk g.hm), cf.isi c ec hc hec, k _ H1 (Same.refl H1) rfl⟩
    · cases hw
  | non => exact plain _ rfl rfl
  | bl _ => exact plain _ rfl rfl
  | int _ => exact plain _ rfl rfl
  | str _ => exact plain _ rfl rfl
  | lst _ => exact plain _ rfl rfl
  | rol _ => exact plain _ rfl rfl
  | tup _ => exact plain _ rfl rfl
  | dct _ _ => exact plain _ rfl rfl
end
/-! ### fields -/
/-- o.f: fs tells for each class where f stands -/
def dFld (fs : List (Nat × Nat)) : D → Option D
  | .ob c l => (fs.lookup c).bind fun i => l[i]?
  | _ => none
theorem lookup_zip {f : Str} : ∀ {ns : List Str} {vs : List V} {i : Nat} {v : V}, ns.Nodup → ns[i]? = some f → vs[i]? = some v → (ns.zip vs).lookup f = some v
  | [], _, i, _, _, h, _ => by simp at h
  | n :: ns, [], i, _, _, _, h => by simp at h
  | n :: ns, u :: vs, 0, v, _, h1, h2 => by
    simp only [List.getElem?_cons_zero, Option.some.injEq] at h1 h2
    subst h1 h2
    rw [List.zip_cons_cons, List.lookup_cons_self]
  | n :: ns, u :: vs, i + 1, v, nd, h1, h2 => by
    obtain ⟨hn, hr⟩ := List.nodup_cons.mp nd
    simp only [List.getElem?_cons_succ] at h1 h2
    have hne : (f == n) = false := by
      refine beq_eq_false_iff_ne.mpr fun e => ?_
      subst e
      exact hn (List.mem_of_getElem? h1)
    rw [List.zip_cons_cons, List.lookup_cons, hne]
    exact lookup_zip hr h1 h2
theorem lookup_mem {fs : List (Nat × Nat)} {c i : Nat} : fs.lookup c = some i → (c, i) ∈ fs := by
  induction fs with
  | nil => intro h; cases h
  | cons p r ih =>
    obtain ⟨a, b⟩ := p
    rw [List.lookup_cons]
    cases e : c == a with
    | true =>
      intro h
      cases h
      rw [eq_of_beq e]
      exact List.mem_cons_self
    | false =>
      intro h
      exact List.mem_cons_of_mem _ (ih h)
section
variable {X : Cx} {E : XK} {pos : Pos} {e : Expr} {m : M D}
theorem d_fld {n : Nat} {f : Str} (cf : CFacts X.K n) (fs : List (Nat × Nat)) (he : PE X e (tD X.K E m)) (hf : (fs.all fun q => decide (q.1 < n) && decide ((cF q.1)[q.2]? = some f)) = true := by decide +kernel)
    (hb : attributeBase e f X.env (eval e X.env) = eval e X.env := by rfl) : PE X (.Attribute e f pos) (tD X.K E (m1 (dFld fs) m)) := by
  refine (pe_fld he hb).imp fun σ H Q h => ?_
  obtain ⟨c, Z, ρ, r, q⟩ := h
  refine ⟨c, Z, ρ, r, q.bind fun d ρ1 v H1 r1 e1 h1 q1 => ?_⟩
  obtain ⟨w, hw, k⟩ := q1.lift r1
  have h1 : Rep X.K H1 Z d v := h1
  unfold dFld at hw
  split at hw
  · rename_i c' l _
    cases hl : fs.lookup c' with
    | none => rw [hl] at hw; cases hw
    | some i =>
      rw [hl] at hw
      have hw : l[i]? = some w := hw
      obtain ⟨g1, g2⟩ := Bool.and_eq_true_iff.mp (List.all_eq_true.mp hf _ (lookup_mem hl))
      have g1 := of_decide_eq_true g1
      have g2 := of_decide_eq_true g2
      simp only [Rep] at h1
      obtain ⟨a, dx, vs, rfl, _, h2, _, h3⟩ := h1
      obtain ⟨u, hu, ru⟩ := h3.get hw
      exact ⟨a, _, dx, _, u, rfl, h2, (cf.cls c' g1).cl, cf.noat c' f g1 (List.mem_of_getElem? g2), lookup_zip (cf.nd c' g1) g2 hu, k _ H1 (Same.refl H1) ru⟩
  · cases hw
end
end DL
set_option Elab.async false
set_option linter.all false
set_option maxRecDepth 100000
set_option maxHeartbeats 4000000
namespace DL
open PySem PySem.Spec PyProof.Rows L2
variable [CTab]
/-! ### what a def is -/
/-- how a def's run ends: its value, what became of the things handed in to be changed -/
inductive FR where
  | fail
  | ok (d : D) (ts : List Ct)
  | exc (c : Nat) (l : List D)
abbrev FD := List W → FR
def RepWs (K : PySem.W.Frag) (H : Hp) (Z : Addr → Prop) : List W → List V → Prop
  | [], vs => vs = []
  | .val d :: ws, vs => ∃ v r, vs = v :: r ∧ Rep K H Z d v ∧ RepWs K H Z ws r
  | .inn t :: ws, vs => ∃ p r, vs = .ref p :: r ∧ Z p ∧ RepC K H Z t p ∧ RepWs K H Z ws r
  | .own _ :: _, _ => False
/-- where the things handed in to be changed stand -/
def inAd : List W → List V → List Addr
  | .inn _ :: ws, .ref p :: vs => p :: inAd ws vs
  | _ :: ws, _ :: vs => inAd ws vs
  | _, _ => []
def RepCs (K : PySem.W.Frag) (H : Hp) (Z : Addr → Prop) : List Ct → List Addr → Prop
  | [], ps => ps = []
  | t :: ts, ps => ∃ p r, ps = p :: r ∧ RepC K H Z t p ∧ RepCs K H Z ts r
/-- the promise of a def -/
def spF (K : PySem.W.Frag) (n : Nat) (f : FD) : Sp := fun vs H Q E => ∃ Z ws, ws.length = n ∧ (∀ p, Z p → H p ≠ none) ∧ RepWs K H Z ws vs ∧ (inAd ws vs).Nodup ∧
  match f ws with
  | .fail => False
  | .ok d ts => ∀ v H', (∀ a o, a ∉ inAd ws vs → H a = some o → H' a = some o) → RepCs K H' Z ts (inAd ws vs) → Rep K H' Z d v → Q v H'
  | .exc c l => ∀ ed us H', (∀ a o, a ∉ inAd ws vs → H a = some o → H' a = some o) → H' ed = some (.xd ((cF c).zip us)) → us.length ≤ (cF c).length → Reps K H' Z l us → E (.ref (He.ga K (cN c))) (some ed) H'
section
variable {K : PySem.W.Frag} {H : Hp} {Z : Addr → Prop}
theorem RepWs.len : ∀ {ws : List W} {vs : List V}, RepWs K H Z ws vs → ws.length = vs.length
  | [], vs, h => by
    cases (show vs = [] from h)
    rfl
  | .val d :: ws, vs, h => by
    obtain ⟨v, r, e, _, h2⟩ := h
    subst e
    exact congrArg (· + 1) (RepWs.len h2)
  | .inn t :: ws, vs, h => by
    obtain ⟨v, r, e, _, _, h2⟩ := h
    subst e
    exact congrArg (· + 1) (RepWs.len h2)
  | .own _ :: ws, vs, h => h.elim
theorem spF_len {n : Nat} {f : FD} : ∀ vs H Q E, spF K n f vs H Q E → vs.length = n := by
  rintro vs H Q E ⟨Z, ws, h, _, h2, _⟩
  rw [← h, h2.len]
end
/-! ### arguments of a def's call: data, or a slot whose thing may be changed -/
inductive Ar where
  | d (x : D)
  | s (i : Nat)
def rAr : RG (List Ar) (List V) := fun K σ H Z as vs => Paired (fun a v => match a with
  | .d x => Rep K H Z x v
  | .s i => σ[i]? = some (some v)) as vs
def mANil : M (List Ar) := fun ρ => .ok [] ρ
def mACons (m : M D) (ms : M (List Ar)) : M (List Ar) := fun ρ => bindR (m ρ) fun d ρ => bindR (ms ρ) fun l ρ => .ok (.d d :: l) ρ
def holds (ρ : Env) (i : Nat) : Option Ct := match ρ[i]? with
  | some (some (.own t)) => some t
  | some (some (.inn t)) => some t
  | _ => none
def mASlot (i : Nat) (ms : M (List Ar)) : M (List Ar) := fun ρ => match holds ρ i with
  | some _ => bindR (ms ρ) fun l ρ => .ok (.s i :: l) ρ
  | none => .fail
theorem holds_hold {ρ : Env} {i : Nat} {t : Ct} (h : holds ρ i = some t) : ∃ w, ρ[i]? = some (some w) ∧ Hold w t := by
  unfold holds at h
  split at h
  · rename_i u e
    cases h
    exact ⟨_, e, .own _⟩
  · rename_i u e
    cases h
    exact ⟨_, e, .inn _⟩
  · cases h
section
variable {X : Cx} {E : XK} {pos p : Pos} {e : Expr} {es : List Expr} {m : M D} {ms : M (List Ar)} {K : PySem.W.Frag}
abbrev tAs (K : PySem.W.Frag) (E : XK) (m : M (List Ar)) : TA := tG K E rAr m
theorem rAr_ext {σ : St} {H H' : Hp} {Z : Addr → Prop} {as : List Ar} {vs : List V} (e : Ext Z H H') (h : rAr K σ H Z as vs) : rAr K σ H' Z as vs := Paired.mapP h fun a v q => by
  cases a with
  | d x => exact (show Rep K H Z x v from q).ext e
  | s i => exact q
theorem as_nil : PA X [] (tAs X.K E mANil) := pa_nil.imp fun σ H Q ⟨c, Z, ρ, r, q⟩ => q.done r .nil
theorem as_cons (ha : PE X e (tD X.K E m)) (hr : PA X es (tAs X.K E ms)) (hs : starEach (e :: es) X.env = (false, eval e X.env) :: starEach es X.env := by rfl) : PA X (e :: es) (tAs X.K E (mACons m ms)) := by
  refine (pa_cons ha hr hs).imp fun σ H Q h => ?_
  obtain ⟨c, Z, ρ, r, q⟩ := h
  exact ⟨c, Z, ρ, r, q.bind fun d ρ1 v H1 r1 e1 h1 q1 => ⟨c, Z, ρ1, r1, q1.bind fun l ρ2 vs H2 r2 e2 h2 q2 => q2.done r2 (.cons (show Rep _ _ _ _ _ from Rep.ext e2 _ _ h1) h2)⟩⟩
theorem as_slot (i : Nat) {x : Str} {xp : Pos} (hr : PA X es (tAs X.K E ms)) (hN : X.N[i]? = some x := by rfl) (hv : Vis X.env.scope x := by first | exact Or.inl rfl | exact Or.inr (Or.inl rfl) | exact Or.inr (Or.inr rfl)) (hd : (x == ("__debug__" : Str)) = false := by decide)
    (hcd : (x == ("__classdict__" : Str)) = false := by decide) (hs : starEach (.Name x xp :: es) X.env = (false, eval (.Name x xp) X.env) :: starEach es X.env := by rfl) : PA X (.Name x xp :: es) (tAs X.K E (mASlot i ms)) := by
  refine (pa_cons (pe_var hN hv hd hcd) hr hs).imp fun σ H Q h => ?_
  obtain ⟨c, Z, ρ, r, q⟩ := h
  unfold mASlot at q
  split at q
  · rename_i t ht
    obtain ⟨w, hw, hh⟩ := holds_hold ht
    obtain ⟨p, h1, _, _⟩ := r.hold hw hh
    exact ⟨_, h1, ⟨c, Z, ρ, r, q.bind fun l ρ2 vs H2 r2 e2 h2 q2 => q2.done r2 (.cons h1 h2)⟩⟩
  · exact q.elim
end
/-- how many arguments there are -/
class ArLen (n : outParam Nat) (ms : M (List Ar)) : Prop where
  len : ∀ ρ as ρ', ms ρ = .ok as ρ' → as.length = n
instance : ArLen 0 mANil := ⟨fun ρ as ρ' h => by cases h; rfl⟩
theorem bind_ok {α β : Type} {r : Res α} {k : α → Env → Res β} {b : β} {ρ' : Env} (h : bindR r k = .ok b ρ') : ∃ a ρ1, r = .ok a ρ1 ∧ k a ρ1 = .ok b ρ' := by
  cases r with
  | fail => cases h
  | ok a ρ1 => exact ⟨a, ρ1, rfl, h⟩
  | exc x l ρ1 => cases h
instance {n : Nat} {m : M D} {ms : M (List Ar)} [i : ArLen n ms] : ArLen (n + 1) (mACons m ms) := ⟨fun ρ as ρ' h => by
  obtain ⟨a, ρ1, _, h⟩ := bind_ok h
  obtain ⟨l, ρ2, h2, h⟩ := bind_ok h
  cases h
  exact congrArg (· + 1) (i.len _ _ _ h2)⟩
instance {n j : Nat} {ms : M (List Ar)} [i : ArLen n ms] : ArLen (n + 1) (mASlot j ms) := ⟨fun ρ as ρ' h => by
  unfold mASlot at h
  split at h
  · obtain ⟨l, ρ2, h2, h⟩ := bind_ok h
    cases h
    exact congrArg (· + 1) (i.len _ _ _ h2)
  · cases h⟩
/-! ### the call -/
/-- the arguments as they are handed over, and the one slot whose thing may be changed -/
def toWs (ρ : Env) : List Ar → Option (List W × Option Nat)
  | [] => some ([], none)
  | .d x :: r => (toWs ρ r).map fun q => (.val x :: q.1, q.2)
  | .s i :: r => match holds ρ i, toWs ρ r with
    | some t, some (ws, none) => some (.inn t :: ws, some i)
    | _, _ => none
def putBack (ρ : Env) : Option Nat → List Ct → Option Env
  | none, [] => some ρ
  | some i, [t] => match ρ[i]? with
    | some (some w) => some (ρ.set i (some (w.put t)))
    | _ => none
  | _, _ => none
def callF (f : FD) (as : List Ar) (ρ : Env) : Res D := match toWs ρ as with
  | none => .fail
  | some (ws, o) => match f ws with
    | .fail => .fail
    | .ok d ts => (match putBack ρ o ts with
      | some ρ' => .ok d ρ'
      | none => .fail)
    | .exc c l => match o with
      | none => .exc c l ρ
      | some _ => .fail
def mCall (f : FD) (ms : M (List Ar)) : M D := fun ρ => bindR (ms ρ) fun as ρ => callF f as ρ
section
variable {K : PySem.W.Frag} {E : XK} {c : Cz} {Z : Addr → Prop} {ρ : Env} {σ : St} {H : Hp}
theorem toWs_none (r : Rel K c Z ρ σ H) : ∀ {as : List Ar} {vs : List V} {ws : List W}, toWs ρ as = some (ws, none) → rAr K σ H Z as vs → RepWs K H Z ws vs ∧ inAd ws vs = []
  | [], vs, ws, h, q => by
    cases q
    simp only [toWs, Option.some.injEq, Prod.mk.injEq] at h
    obtain ⟨h1, _⟩ := h
    subst h1
    exact ⟨rfl, rfl⟩
  | .d x :: r', vs, ws, h, q => by
    cases q with
    | cons q1 q2 =>
      simp only [toWs] at h
      cases e : toWs ρ r' with
      | none => rw [e] at h; cases h
      | some y =>
        obtain ⟨ws', o⟩ := y
        rw [e] at h
        simp only [Option.map_some, Option.some.injEq, Prod.mk.injEq] at h
        obtain ⟨h1, h2⟩ := h
        subst h1 h2
        obtain ⟨g1, g2⟩ := toWs_none r e q2
        refine ⟨⟨_, _, rfl, q1, g1⟩, ?_⟩
        show inAd (.val x :: ws') _ = []
        unfold inAd
        exact g2
  | .s i :: r', vs, ws, h, q => by
    simp only [toWs] at h
    split at h <;> cases h
theorem toWs_some (r : Rel K c Z ρ σ H) {i : Nat} : ∀ {as : List Ar} {vs : List V} {ws : List W}, toWs ρ as = some (ws, some i) → rAr K σ H Z as vs → ∃ p w t, ρ[i]? = some (some w) ∧ Hold w t ∧ σ[i]? = some (some (.ref p)) ∧ RepWs K H Z ws vs ∧ inAd ws vs = [p]
  | [], vs, ws, h, q => by
    simp [toWs] at h
  | .d x :: r', vs, ws, h, q => by
    cases q with
    | cons q1 q2 =>
      simp only [toWs] at h
      cases e : toWs ρ r' with
      | none => rw [e] at h; cases h
      | some y =>
        obtain ⟨ws', o⟩ := y
        rw [e] at h
        simp only [Option.map_some, Option.some.injEq, Prod.mk.injEq] at h
        obtain ⟨h1, h2⟩ := h
        subst h1 h2
        obtain ⟨p, w, t, a1, a2, a3, g1, g2⟩ := toWs_some r e q2
        refine ⟨p, w, t, a1, a2, a3, ⟨_, _, rfl, q1, g1⟩, ?_⟩
        show inAd (.val x :: ws') _ = [p]
        unfold inAd
        exact g2
  | .s j :: r', vs, ws, h, q => by
    cases q with
    | cons q1 q2 =>
      simp only [toWs] at h
      split at h
      · rename_i t ws' ht hr'
        cases h
        obtain ⟨w, hw, hh⟩ := holds_hold ht
        obtain ⟨p, h1, h2, h3⟩ := r.hold hw hh
        have e := h1.symm.trans q1
        cases e
        obtain ⟨g1, g2⟩ := toWs_none r hr' q2
        refine ⟨p, w, t, hw, hh, h1, ⟨p, _, rfl, h2, h3, g1⟩, ?_⟩
        show p :: inAd ws' _ = [p]
        rw [g2]
      · cases h
/-- a call's reading leads to the callee's promise -/
theorem call_gen {n : Nat} {f : FD} {as : List Ar} {vs : List V} {Q : VK} (r : Rel K c Z ρ σ H) (ha : rAr K σ H Z as vs) (hn : vs.length = n) (q : tR K E rD c Z σ H Q (callF f as ρ)) : spF K n f vs H Q E := by
  unfold callF at q
  cases e : toWs ρ as with
  | none => rw [e] at q; exact q.elim
  | some y =>
    obtain ⟨ws, o⟩ := y
    rw [e] at q
    cases o with
    | none =>
      obtain ⟨g1, g2⟩ := toWs_none r e ha
      refine ⟨Z, ws, by rw [g1.len]; exact hn, r.dom, g1, by rw [g2]; exact .nil, ?_⟩
      cases ef : f ws with
      | fail => simp only [ef] at q; exact q.elim
      | ok d ts =>
        simp only [ef] at q
        intro v H' hk ht hd
        rw [g2] at ht hk
        cases ts with
        | nil =>
          have s : Same H H' := fun a o h => hk a o (by simp) h
          exact q v H' (r.same s) (Ext.same s) hd
        | cons t ts =>
          obtain ⟨_, _, e2, _⟩ := ht
          cases e2
      | exc x l =>
        simp only [ef] at q
        intro ed us H' hk h1 h2 h3
        rw [g2] at hk
        have s : Same H H' := fun a o h => hk a o (by simp) h
        exact q ed us H' (r.same s) (Ext.same s) h1 h2 h3
    | some i =>
      obtain ⟨p, w, t, a1, a2, a3, g1, g2⟩ := toWs_some r e ha
      refine ⟨Z, ws, by rw [g1.len]; exact hn, r.dom, g1, by rw [g2]; simp, ?_⟩
      cases ef : f ws with
      | fail => simp only [ef] at q; exact q.elim
      | ok d ts =>
        simp only [ef] at q
        intro v H' hk ht hd
        rw [g2] at ht hk
        match ts, ht, q with
        | [], ht, q => cases ht
        | [t'], ht, q =>
          obtain ⟨p', r', e2, ht1, ht2⟩ := ht
          cases e2
          have hk' : ∀ a o, a ≠ p → H a = some o → H' a = some o := fun a o hne h => hk a o (by simpa using hne) h
          simp only [putBack, a1] at q
          have hz : Z p := by
            obtain ⟨q1, q2, z, _⟩ := r.hold a1 a2
            rw [a3] at q2
            cases q2
            exact z
          exact q v H' (r.put a1 a2 a3 hk' ht1) (fun a o nz h => hk' a o (fun e => nz (by rw [e]; exact hz)) h) hd
        | _ :: _ :: _, ht, q =>
          obtain ⟨_, _, e2, _, ht2⟩ := ht
          cases e2
          obtain ⟨_, _, e3, _⟩ := ht2
          cases e3
      | exc x l =>
        simp only [ef] at q
        exact q.elim
end
section
variable {X : Cx} {CX : CXT} {E : XK} {pos p : Pos} {e : Expr} {es : List Expr} {ms : M (List Ar)} {k n : Nat} {f : Addr} {fd : FuncData} {ps : List Str} {g : FD} {x : Str}
theorem rAr_len {K : PySem.W.Frag} {σ : St} {H : Hp} {Z : Addr → Prop} {as : List Ar} {vs : List V} (h : rAr K σ H Z as vs) : as.length = vs.length := Paired.length h
/-- what the callee is: its promise, its place, its binding -/
structure Callee (P : Program) (w : World) (K : PySem.W.Frag) (mg : Str → Option Value) (base : Heap) (CX : CXT) (k : Nat) (x : Str) (n : Nat) (g : FD) : Prop where
  ex : ∃ (f : Addr) (fd : FuncData) (ps : List Str), FnOk P w K mg base CX k f fd ps (spF K n g) ∧ mg x = some (.ref f) ∧ PySem.W.keepIn K (.ref f) = true ∧ Binds K fd ps [] ∧ ps.length = n
theorem d_call {j : Nat} (c : Callee X.prog X.w X.K X.mg X.base CX k x n g) (hr : Room j X.A) (hx : Passes CX X E) (ha : PA X (e :: es) (tAs X.K E ms)) (hj : k ≤ j := by decide) (hg : Gl X x := by rfl) (hdb : (x == ("__debug__" : Str)) = false := by decide)
    [hml : ArLen n ms] (he : starEach (e :: es) X.env = (false, eval e X.env) :: starEach es X.env := by rfl) (hpl : (backTo pos (starEach es X.env)).any (·.1) = false := by rfl) :
    PE X (.Call (.Name x p) (e :: es) [] pos) (tD X.K E (mCall g ms)) := by
  obtain ⟨f, fd, ps, F, hm, hk, hb, hps⟩ := c.ex
  refine (pe_call F (hr.mono hj) hg hm hk hb .nil hx ha hdb he hpl).imp fun σ H Q h => ?_
  obtain ⟨c, Z, ρ, r, q⟩ := h
  refine ⟨c, Z, ρ, r, ?_⟩
  have q' : tR X.K E rD c Z σ H Q (bindR (ms ρ) fun as ρ => callF g as ρ) := q
  cases em : ms ρ with
  | fail => rw [em] at q'; exact q'
  | exc x l ρ1 => rw [em] at q'; exact q'
  | ok as ρ1 =>
    rw [em] at q'
    intro vs H1 r1 e1 h1
    rw [List.append_nil]
    exact call_gen r1 h1 (by rw [← rAr_len h1]; exact hml.len _ _ _ em) (q'.ext e1)
end
end DL
set_option Elab.async false
set_option linter.all false
set_option maxRecDepth 100000
set_option maxHeartbeats 4000000
namespace DL
open PySem PySem.Spec PyProof.Rows L2
variable [CTab]
/-! ### dicts: look-ups -/
def lookD : List Key → List D → Key → Option D
  | j :: ks, d :: l, k => if j = k then some d else lookD ks l k
  | _, _, _ => none
section
variable {K : PySem.W.Frag} {H : Hp} {Z : Addr → Prop}
theorem lookD_rep {k : Key} : ∀ {ks : List Key} {l : List D} {vs : List V}, Reps K H Z l vs → match lookD ks l k with
    | some d => ∃ v, valV (ks.zip vs) k = some v ∧ Rep K H Z d v
    | none => valV (ks.zip vs) k = none
  | [], l, vs, r => by simp [lookD, valV]
  | j :: ks, [], vs, r => by
    cases (show vs = [] from r)
    simp [lookD, valV]
  | j :: ks, d :: l, vs, r => by
    obtain ⟨v, r', e, h1, h2⟩ := r.inv
    subst e
    have ih := lookD_rep (k := k) (ks := ks) h2
    unfold lookD
    rw [List.zip_cons_cons]
    by_cases e : j = k
    · rw [if_pos e, valV_pos e]
      exact ⟨v, rfl, h1⟩
    · rw [if_neg e, valV_neg e]
      exact ih
end
/-- PE of two readings -/
theorem pe_or {X : Cx} {e : Expr} {t u : TE} (h : PE X e t) (h' : PE X e u) : PE X e (fun σ H Q => t σ H Q ∨ u σ H Q) := ⟨fun pins s σ H Q I q => q.elim (h.run pins s σ H Q I) (h'.run pins s σ H Q I)⟩
/-! ### a[i], d[k] -/
def dItem (x y : D) : Option D := match x with
  | .dct ks l => y.key.bind fun k => lookD ks l k
  | _ => dIx x y
section
variable {X : Cx} {E : XK} {pos : Pos} {a b e f : Expr} {ma mb me mf : M D} {K : PySem.W.Frag}
theorem d_sub_ {k : Nat} (hr : Room k X.A) (ha : PE X a (tD X.K E ma)) (hb : PE X b (tD X.K E mb)) (hs : PlainIx b := by exact fun _ _ => rfl) (hd : NoSl b := by exact fun _ _ => rfl) : PE X (.Subscript a b pos) (tD X.K E (m2 dItem ma mb)) := by
  refine (pe_or (pe_dget (hu_of hr) ha hb hd) (pe_ix ix_seq ha hb hs)).imp fun σ H Q h => ?_
  obtain ⟨c, Z, ρ, r, q⟩ := h
  have q' : tR X.K E rD c Z σ H Q (bindR (ma ρ) fun x ρ => bindR (mb ρ) fun y ρ => liftO (dItem x y) ρ) := q
  have seq : (∀ x ρ1, ma ρ = .ok x ρ1 → ∀ y, dItem x y = dIx x y) → tOp (rIx X.K) (tD X.K E ma) (tD X.K E mb) σ H Q := fun hx => by
    refine op_gen ix_opD (ma := ma) (mb := mb) ⟨c, Z, ρ, r, ?_⟩
    show tR X.K E rD c Z σ H Q (bindR (ma ρ) fun x ρ => bindR (mb ρ) fun y ρ => liftO (dIx x y) ρ)
    cases em : ma ρ with
    | fail => rw [em] at q'; exact q'
    | exc _ _ _ => rw [em] at q'; exact q'
    | ok x ρ1 =>
      rw [em] at q'
      simp only [bindR_ok, hx x ρ1 em] at q'
      exact q'
  cases em : ma ρ with
  | fail => rw [em] at q'; exact q'.elim
  | exc _ _ _ => exact .inr (seq fun x ρ1 e => by rw [em] at e; cases e)
  | ok x ρ1 =>
    by_cases hx : ∃ ks l, x = .dct ks l
    · obtain ⟨ks, l, rfl⟩ := hx
      rw [em, bindR_ok] at q'
      refine .inl ⟨c, Z, ρ, r, ?_⟩
      rw [em]
      intro u H1 r1 e1 hx
      refine ⟨c, Z, ρ1, r1, (tR.ext q' e1).bind fun y ρ2 v H2 r2 e2 hy q2 => ?_⟩
      obtain ⟨d, hd, kk⟩ := q2.lift r2
      cases hk : y.key with
      | none => simp [dItem, hk] at hd
      | some k =>
        simp only [dItem, hk, Option.bind_some] at hd
        have hx2 : Rep X.K H2 Z (.dct ks l) u := Rep.ext e2 _ _ hx
        simp only [Rep] at hx2
        obtain ⟨p, vs, rfl, _, h1, _, h2⟩ := hx2
        have lk := lookD_rep (k := k) (ks := ks) h2
        rw [hd] at lk
        obtain ⟨w, hw, rw'⟩ := lk
        exact ⟨p, w, rfl, .inl ⟨_, k, h1, D.key_rep hk hy, hw.symm⟩, kk w H2 (Same.refl H2) rw'⟩
    · exact .inr (seq fun x2 ρ2 e y => by
        rw [em] at e
        cases e
        unfold dItem
        split
        · exact absurd ⟨_, _, rfl⟩ hx
        · rfl)
/-! ### d.get(k), d.get(k, x) -/
def dGet1 : D → D → Option D
  | .dct ks l, y => y.key.map fun k => (lookD ks l k).getD .non
  | _, _ => none
def dGet2 : D → D → D → Option D
  | .dct ks l, y, z => y.key.map fun k => (lookD ks l k).getD z
  | _, _, _ => none
def isDct : D → Bool
  | .dct _ _ => true
  | _ => false
def mGet1 (ma mb : M D) : M D := fun ρ => bindR (ma ρ) fun x ρ => if isDct x = true then bindR (mb ρ) fun y ρ => liftO (dGet1 x y) ρ else .fail
def mGet2 (ma mb mc : M D) : M D := fun ρ => bindR (ma ρ) fun x ρ => if isDct x = true then bindR (mb ρ) fun y ρ => bindR (mc ρ) fun z ρ => liftO (dGet2 x y z) ρ else .fail
theorem isD_of {H : Hp} {Z : Addr → Prop} {d : D} {v : V} (h : isDct d = true) (r : Rep K H Z d v) : ∃ a, v = .ref a ∧ IsD H a := by
  cases d <;> first | (cases h; done) | skip
  simp only [Rep] at r
  obtain ⟨p, vs, rfl, _, h1, _⟩ := r
  exact ⟨p, rfl, .inl ⟨_, h1⟩⟩
theorem look_at {H : Hp} {Z : Addr → Prop} {ks : List Key} {l : List D} {v y : V} {dy : D} {k : Key} (r : Rep K H Z (.dct ks l) v) (hk : dy.key = some k) (hy : Rep K H Z dy y) :
    ∃ a o, v = .ref a ∧ DGet H a y o ∧ match lookD ks l k with
      | some d => ∃ w, o = some w ∧ Rep K H Z d w
      | none => o = none := by
  simp only [Rep] at r
  obtain ⟨p, vs, rfl, _, h1, _, h2⟩ := r
  refine ⟨p, _, rfl, .inl ⟨_, k, h1, D.key_rep hk hy, rfl⟩, ?_⟩
  have lk := lookD_rep (k := k) (ks := ks) h2
  cases e : lookD ks l k with
  | none => rw [e] at lk; exact lk
  | some d =>
    rw [e] at lk
    exact lk
variable {apos cpos : Pos}
theorem d_get1 {k : Nat} (hr : Room k X.A) (ho : PE X a (tD X.K E ma)) (he : PE X e (tD X.K E me)) (m : M1 X a "get" apos e cpos := by exact ⟨by rfl, by rfl, by rfl, by rfl⟩) : PE X (.Call (.Attribute a "get" apos) [e] [] cpos) (tD X.K E (mGet1 ma me)) := by
  refine (pe_dget1 (hu_of hr) ho he m).imp fun σ H Q h => ?_
  obtain ⟨c, Z, ρ, r, q⟩ := h
  refine ⟨c, Z, ρ, r, q.bind fun x ρ1 u H1 r1 e1 hx q1 => ?_⟩
  split at q1
  · rename_i hd
    obtain ⟨p, rfl, hp⟩ := isD_of hd hx
    refine ⟨p, rfl, hp, c, Z, ρ1, r1, q1.bind fun y ρ2 v H2 r2 e2 hy q2 => ?_⟩
    obtain ⟨d, hd', kk⟩ := q2.lift r2
    cases x <;> first | (cases hd; done) | skip
    rename_i ks l
    cases hk : y.key with
    | none => simp [dGet1, hk] at hd'
    | some k =>
      simp only [dGet1, hk, Option.map_some, Option.some.injEq] at hd'
      obtain ⟨p', o, e3, g, lk⟩ := look_at (Rep.ext e2 _ _ hx) hk hy
      cases e3
      refine ⟨o, g, ?_⟩
      cases e4 : lookD ks l k with
      | none =>
        rw [e4] at lk hd'
        subst lk hd'
        exact kk _ H2 (Same.refl H2) rfl
      | some d' =>
        rw [e4] at lk hd'
        obtain ⟨w, rfl, hw⟩ := lk
        subst hd'
        exact kk _ H2 (Same.refl H2) hw
  · exact q1.elim
theorem d_get2 {k : Nat} (hr : Room k X.A) (ho : PE X a (tD X.K E ma)) (he : PE X e (tD X.K E me)) (hf : PE X f (tD X.K E mf)) (m : M2 X a "get" apos e f cpos := by exact ⟨by rfl, by rfl, by rfl, by rfl⟩) : PE X (.Call (.Attribute a "get" apos) [e, f] [] cpos) (tD X.K E (mGet2 ma me mf)) := by
  refine (pe_dget2 (hu_of hr) ho he hf m).imp fun σ H Q h => ?_
  obtain ⟨c, Z, ρ, r, q⟩ := h
  refine ⟨c, Z, ρ, r, q.bind fun x ρ1 u H1 r1 e1 hx q1 => ?_⟩
  split at q1
  · rename_i hd
    obtain ⟨p, rfl, hp⟩ := isD_of hd hx
    refine ⟨p, rfl, hp, c, Z, ρ1, r1, q1.bind fun y ρ2 v H2 r2 e2 hy q2 => ⟨c, Z, ρ2, r2, q2.bind fun z ρ3 w H3 r3 e3 hz q3 => ?_⟩⟩
    obtain ⟨d, hd', kk⟩ := q3.lift r3
    cases x <;> first | (cases hd; done) | skip
    rename_i ks l
    cases hk : y.key with
    | none => simp [dGet2, hk] at hd'
    | some k =>
      simp only [dGet2, hk, Option.map_some, Option.some.injEq] at hd'
      obtain ⟨p', o, e3', g, lk⟩ := look_at (Rep.ext e3 _ _ (Rep.ext e2 _ _ hx)) hk (Rep.ext e3 _ _ hy)
      cases e3'
      refine ⟨o, g, ?_⟩
      cases e4 : lookD ks l k with
      | none =>
        rw [e4] at lk hd'
        subst lk hd'
        exact kk _ H3 (Same.refl H3) hz
      | some d' =>
        rw [e4] at lk hd'
        obtain ⟨w', rfl, hw⟩ := lk
        subst hd'
        exact kk _ H3 (Same.refl H3) hw
  · exact q1.elim
end
/-! ### xs.index(y) -/
def idxV (y : V) : List V → Option Nat
  | [] => none
  | x :: r => if eqV x y = true then some 0 else (idxV y r).map (· + 1)
def idxP (y : PyData) : List PyData → Option Nat
  | [] => none
  | x :: r => if PyData.eqv x y = true then some 0 else (idxP y r).map (· + 1)
def mIndexOf (f : D → D → Option D) (ma mb : M D) : M D := fun ρ => bindR (ma ρ) fun x ρ => if x.lis.isSome = true then bindR (mb ρ) fun y ρ => liftO (f x y) ρ else .fail
def dIndex (x y : D) : Option D := x.lis.bind fun l => match y.sc, scs l with
  | some v, some vs => (idxV v vs).map fun j => .int (j : Nat)
  | _, _ => match toPy y, toPys l with
    | some p, some ps => if (SeqAt.shaped p && SeqAt.shaped (.list ps)) = true then (idxP p ps).map fun j => .int (j : Nat) else none
    | _, _ => none
abbrev mIndex (ma mb : M D) : M D := mIndexOf dIndex ma mb
theorem idxV_ok {y : V} : ∀ {xs : List V} {j : Nat}, idxV y xs = some j → ∃ z, xs[j]? = some z ∧ eqV z y = true ∧ ∀ (m : Nat) (z' : V), m < j → xs[m]? = some z' → eqV z' y = false
  | [], j, h => by cases h
  | x :: r, j, h => by
    unfold idxV at h
    split at h
    · rename_i e
      cases h
      exact ⟨x, rfl, e, fun m z' hm => absurd hm (Nat.not_lt_zero _)⟩
    · rename_i e
      cases hi : idxV y r with
      | none => rw [hi] at h; cases h
      | some i =>
        rw [hi, Option.map_some, Option.some.injEq] at h
        subst h
        obtain ⟨z, h1, h2, h3⟩ := idxV_ok hi
        refine ⟨z, by simpa using h1, h2, fun m z' hm hz => ?_⟩
        cases m with
        | zero =>
          simp only [List.getElem?_cons_zero, Option.some.injEq] at hz
          subst hz
          exact Bool.eq_false_iff.mpr e
        | succ m => exact h3 m z' (by omega) (by simpa using hz)
theorem idxP_ok {y : PyData} : ∀ {xs : List PyData} {j : Nat}, idxP y xs = some j → ∃ z, xs[j]? = some z ∧ PyData.eqv z y = true ∧ ∀ (m : Nat) (z' : PyData), m < j → xs[m]? = some z' → PyData.eqv z' y = false
  | [], j, h => by cases h
  | x :: r, j, h => by
    unfold idxP at h
    split at h
    · rename_i e
      cases h
      exact ⟨x, rfl, e, fun m z' hm => absurd hm (Nat.not_lt_zero _)⟩
    · rename_i e
      cases hi : idxP y r with
      | none => rw [hi] at h; cases h
      | some i =>
        rw [hi, Option.map_some, Option.some.injEq] at h
        subst h
        obtain ⟨z, h1, h2, h3⟩ := idxP_ok hi
        refine ⟨z, by simpa using h1, h2, fun m z' hm hz => ?_⟩
        cases m with
        | zero =>
          simp only [List.getElem?_cons_zero, Option.some.injEq] at hz
          subst hz
          exact Bool.eq_false_iff.mpr e
        | succ m => exact h3 m z' (by omega) (by simpa using hz)
section
variable {X : Cx} {E : XK} {pos apos cpos : Pos} {o e : Expr} {ma mb : M D} {K : PySem.W.Frag}
theorem Rep.tyL {H : Hp} {Z : Addr → Prop} {d : D} {l : List D} {v : V} (h : d.lis = some l) (r : Rep K H Z d v) : tyV K "list" v H := by
  cases d <;> simp only [D.lis, Option.some.injEq, reduceCtorEq] at h
  · simp only [Rep] at r
    obtain ⟨p, vs, rfl, h1, h2⟩ := r
    exact .inl ⟨rfl, vs, h1.sq⟩
  · simp only [Rep] at r
    obtain ⟨p, vs, rfl, h1, h2⟩ := r
    exact .inl ⟨rfl, vs, h1.sq⟩
theorem d_index {k : Nat} (hr : Room k X.A) (ho : PE X o (tD X.K E ma)) (he : PE X e (tD X.K E mb)) (hbase : attributeBase o "index" X.env (eval o X.env) = eval o X.env := by rfl)
    (hfew : ((backTo cpos (starEach [e] X.env)).all (fun x => !x.1) && (backToKw cpos (keywordEach [] X.env)).all (fun x => x.1.isSome) && decide ([e].length + ([] : List Keyword).length + (if ([] : List Keyword).isEmpty then 0 else 1) < 30)) = true := by rfl)
    (hline : (apos.endLine == cpos.line) = true := by rfl) (hs : starEach [e] X.env = (false, eval e X.env) :: starEach [] X.env := by rfl) : PE X (.Call (.Attribute o "index" apos) [e] [] cpos) (tD X.K E (mIndex ma mb)) := by
  refine (pe_bm PySem.F.plainAttrs_list PySem.F.slot_list_index PySem.F.type_list_index (mt_index.or (mt_indexD (by have := hr.un; omega))) ho (pa_cons he pa_nil hs) hbase hfew hline hs).imp fun σ H Q h => ?_
  obtain ⟨c, Z, ρ, r, q⟩ := h
  refine ⟨c, Z, ρ, r, q.bind fun x ρ1 u H1 r1 e1 hx q1 => ?_⟩
  split at q1
  · rename_i hl
    obtain ⟨l, hl⟩ := Option.isSome_iff_exists.mp hl
    refine ⟨Rep.tyL hl hx, c, Z, ρ1, r1, q1.bind fun y ρ2 v H2 r2 e2 hy q2 => ?_⟩
    obtain ⟨d, hd, kk⟩ := q2.lift r2
    have hx2 := Rep.ext e2 _ _ hx
    obtain ⟨p, vs, rfl, h1, h2⟩ := D.lis_rep hl hx2
    simp only [dIndex, hl, Option.bind_some] at hd
    split at hd
    · rename_i yv xs h3 h4
      cases hi : idxV yv xs with
      | none => rw [hi] at hd; cases hd
      | some j =>
        rw [hi] at hd
        cases hd
        have e5 := scs_rep h4 h2
        have e6 := D.sc_rep h3 hy
        subst e5 e6
        obtain ⟨z, g1, g2, g3⟩ := idxV_ok hi
        exact .inl ⟨p, _, _, j, z, rfl, rfl, h1, sc_flat h3, scs_flat h4, g1, g2, g3, kk _ H2 (Same.refl H2) rfl⟩
    · split at hd
      · rename_i yp ps h3 h4
        split at hd
        · rename_i hsh
          obtain ⟨s1, s2⟩ := Bool.and_eq_true_iff.mp hsh
          cases hi : idxP yp ps with
          | none => rw [hi] at hd; cases hd
          | some j =>
            rw [hi] at hd
            cases hd
            obtain ⟨z, g1, g2, g3⟩ := idxP_ok hi
            exact .inr ⟨p, _, yp, ps, j, z, rfl, rfl, .lst h1 (toPys_dp h4 h2), toPy_dp h3 hy, s2, s1, g1, g2, g3, kk _ H2 (Same.refl H2) rfl⟩
        · cases hd
      · cases hd
  · exact q1.elim
end
/-! ### C(..) -/
def mNew (c : Nat) (g : FD) (ms : M (List Ar)) : M D := fun ρ => bindR (ms ρ) fun as ρ => match toWs ρ as with
  | some (ws, none) => (match g (.inn (.ob c []) :: ws) with
    | .ok .non [.ob c' l] => if c' = c then .ok (.ob c l) ρ else .fail
    | .exc x l => .exc x l ρ
    | _ => .fail)
  | _ => .fail
/-- what is made: its class, its __init__ -/
structure Maker (P : Program) (w : World) (K : PySem.W.Frag) (mg : Str → Option Value) (base : Heap) (CX : CXT) (k : Nat) (x : Str) (n : Nat) (c : Nat) (g : FD) : Prop where
  nm : x = cN c
  gl : mg x = some (.ref (He.ga K x))
  ex : ∃ (f : Addr) (fd : FuncData) (ps : List Str), Mk K (He.ga K x) f ∧ FnOk P w K mg base CX k f fd ps (spF K (n + 1) g) ∧ Binds K fd ps [] ∧ ps.length = n + 1
section
variable {X : Cx} {CX : CXT} {E : XK} {pos p : Pos} {e : Expr} {es : List Expr} {ms : M (List Ar)} {k n c : Nat} {g : FD} {x : Str} {K : PySem.W.Frag}
theorem RepWs.ext {H H' : Hp} {Z : Addr → Prop} (e : Ext Z H H') : ∀ {ws : List W} {vs : List V}, (inAd ws vs = []) → RepWs K H Z ws vs → RepWs K H' Z ws vs
  | [], vs, _, h => h
  | .val d :: ws, vs, hi, h => by
    obtain ⟨v, r, e1, h1, h2⟩ := h
    subst e1
    have hi' : inAd ws r = [] := by
      have h0 : inAd (.val d :: ws) (v :: r) = inAd ws r := by simp [inAd]
      rw [h0] at hi
      exact hi
    exact ⟨v, r, rfl, h1.ext e, RepWs.ext e hi' h2⟩
  | .inn t :: ws, vs, hi, h => by
    obtain ⟨p, r, e1, _⟩ := h
    subst e1
    cases hi
  | .own _ :: ws, vs, _, h => h.elim
theorem RepWs.zed {H : Hp} {Z Z' : Addr → Prop} (hz : ∀ a o, ¬ Z a → H a = some o → ¬ Z' a) : ∀ {ws : List W} {vs : List V}, (inAd ws vs = []) → RepWs K H Z ws vs → RepWs K H Z' ws vs
  | [], vs, _, h => h
  | .val d :: ws, vs, hi, h => by
    obtain ⟨v, r, e1, h1, h2⟩ := h
    subst e1
    have hi' : inAd ws r = [] := by
      have h0 : inAd (.val d :: ws) (v :: r) = inAd ws r := by simp [inAd]
      rw [h0] at hi
      exact hi
    exact ⟨v, r, rfl, h1.zed hz, RepWs.zed hz hi' h2⟩
  | .inn t :: ws, vs, hi, h => by
    obtain ⟨p, r, e1, _⟩ := h
    subst e1
    cases hi
  | .own _ :: ws, vs, _, h => h.elim
theorem d_new {j : Nat} (mk : Maker X.prog X.w X.K X.mg X.base CX k x n c g) (hr : Room j X.A) (hx : Passes CX X E) (ha : PA X (e :: es) (tAs X.K E ms)) [hml : ArLen n ms] (hj : k + 1 ≤ j := by decide) (hg : Gl X x := by rfl) (hdb : (x == ("__debug__" : Str)) = false := by decide)
    (he : starEach (e :: es) X.env = (false, eval e X.env) :: starEach es X.env := by rfl) (hpl : (backTo pos (starEach es X.env)).any (·.1) = false := by rfl) :
    PE X (.Call (.Name x p) (e :: es) [] pos) (tD X.K E (mNew c g ms)) := by
  obtain ⟨f, fd, ps, M, F, hb, hps⟩ := mk.ex
  refine (pe_make M F (hr.mono hj) hg mk.gl hb .nil hx ha hdb he hpl).imp fun σ H Q h => ?_
  obtain ⟨cz, Z, ρ, r, q⟩ := h
  refine ⟨cz, Z, ρ, r, ?_⟩
  have q' : tR X.K E rD cz Z σ H Q (bindR (ms ρ) _) := q
  cases em : ms ρ with
  | fail => rw [em] at q'; exact q'
  | exc x l ρ1 => rw [em] at q'; exact q'
  | ok as ρ1 =>
    rw [em] at q'
    intro vs H1 r1 e1 h1 a dx ha hdx hne
    rw [List.append_nil]
    have q2 := q'.ext e1
    simp only [bindR_ok] at q2
    cases ew : toWs ρ1 as with
    | none => rw [ew] at q2; exact q2.elim
    | some y =>
      obtain ⟨ws, o⟩ := y
      rw [ew] at q2
      cases o with
      | some i => exact q2.elim
      | none =>
        obtain ⟨g1, g2⟩ := toWs_none r1 ew h1
        have s1 : Same H1 (upd H1 dx (.own a)) := same_upd hdx
        have ha2 : upd H1 dx (.own a) a = none := by rw [upd_ne (Ne.symm hne)]; exact ha
        have s2 : Same H1 (upd (upd H1 dx (.own a)) a (.ins (He.ga X.K x) dx [])) := s1.trans (same_upd ha2)
        have zs : ∀ b o, ¬ Z b → H1 b = some o → ¬ (Z b ∨ b = a) := fun b o n e z => z.elim n fun q => by
          rw [q, ha] at e
          cases e
        have hin : inAd (.inn (.ob c []) :: ws) (.ref a :: vs) = [a] := by
          show a :: inAd ws vs = [a]
          rw [g2]
        refine ⟨fun b => Z b ∨ b = a, .inn (.ob c []) :: ws, ?_, fun b z e => ?_, ⟨a, vs, rfl, .inr rfl, ⟨_, upd_same, dx, [], ?_, by simp, rfl⟩, (g1.zed zs g2).ext (Ext.same s2) g2⟩, by rw [hin]; simp, ?_⟩
        · show ws.length + 1 = n + 1
          rw [g1.len, ← rAr_len h1, hml.len _ _ _ em]
        · rcases z with z | z
          · exact r1.dom b z (s2.free e)
          · rw [z, upd_same] at e
            cases e
        · rw [mk.nm, List.zip_nil_right]
        · simp only at q2
          cases ef : g (.inn (.ob c []) :: ws) with
          | fail => rw [ef] at q2; exact q2.elim
          | exc x' l =>
            rw [ef] at q2
            intro ed us H' hk h1 h2 h3
            rw [hin] at hk
            have s3 : Same H1 H' := fun b o h => hk b o (by rw [List.mem_singleton]; exact ne_of_none h ha) (s2 b o h)
            exact q2 ed us H' (r1.same s3) (Ext.same s3) h1 h2 (Reps.zed (fun b o n e z => n (.inl z)) _ _ h3)
          | ok d ts =>
            rw [ef] at q2
            match d, ts, q2 with
            | .non, [.ob c' l], q2 =>
              simp only at q2
              split at q2
              · rename_i hc
                subst hc
                intro v H' hk ht hd
                rw [hin] at hk ht
                obtain ⟨p', r', e2, ⟨o, ho, dx', us, eo, hl, hr'⟩, _⟩ := ht
                cases e2
                subst eo
                have s3 : Same H1 H' := fun b o h => hk b o (by rw [List.mem_singleton]; exact ne_of_none h ha) (s2 b o h)
                refine ⟨hd, q2.new r1 s3 ?_⟩
                show Rep X.K H' Z (.ob c' l) (.ref a)
                simp only [Rep]
                exact ⟨a, dx', us, rfl, fun z => r1.dom a z ha, ho, hl, Reps.zed (fun b o n e z => n (.inl z)) _ _ hr'⟩
              · exact q2.elim
            | .non, [], q2 => exact q2.elim
            | .non, [.lst _], q2 => exact q2.elim
            | .non, [.dct _ _], q2 => exact q2.elim
            | .non, t1 :: _ :: _, q2 =>
              cases t1 <;> exact q2.elim
            | .bl _, _, q2 => exact q2.elim
            | .int _, _, q2 => exact q2.elim
            | .str _, _, q2 => exact q2.elim
            | .lst _, _, q2 => exact q2.elim
            | .rol _, _, q2 => exact q2.elim
            | .tup _, _, q2 => exact q2.elim
            | .dct _ _, _, q2 => exact q2.elim
            | .ob _ _, _, q2 => exact q2.elim
end
end DL
set_option Elab.async false
set_option linter.all false
set_option maxRecDepth 100000
set_option maxHeartbeats 4000000
namespace DL
open PySem PySem.Spec PyProof.Rows L2
variable [CTab]
/-! ### statements -/
def RelS (K : PySem.W.Frag) (c : Cz) (ρ : Env) (σ : St) (H : Hp) : Prop := ∃ Z, Rel K c Z ρ σ H
def tSR (K : PySem.W.Frag) (E : XK) (c : Cz) (Dn : Ends) : Res Fl → Prop
  | .fail => False
  | .ok .nx ρ => ∀ σ H, RelS K c ρ σ H → Dn.nx σ H
  | .ok .bk ρ => ∀ σ H, RelS K c ρ σ H → Dn.bk σ H
  | .ok .ct ρ => ∀ σ H, RelS K c ρ σ H → Dn.ct σ H
  | .ok (.rt d) ρ => ∀ σ v H, RelS K c ρ σ H → Rep K H c.Z0 d v → Dn.rt v H
  | .exc x l ρ => ∀ σ ed vs H, RelS K c ρ σ H → H ed = some (.xd ((cF x).zip vs)) → vs.length ≤ (cF x).length → Reps K H c.Z0 l vs → E (.ref (He.ga K (cN x))) (some ed) H
def tS (K : PySem.W.Frag) (E : XK) (m : M Fl) : TS := fun Dn σ H => ∃ c ρ, RelS K c ρ σ H ∧ tSR K E c Dn (m ρ)
section
variable {α β : Type} {K : PySem.W.Frag} {E : XK} {Ra : RG α β} {c : Cz} {Z : Addr → Prop} {ρ : Env} {σ : St} {H H1 : Hp} {Dn : Ends} {Q' : β → Hp → Prop}
theorem Rel.z0 (r : Rel K c Z ρ σ H) : ∀ a o, ¬ Z a → H a = some o → ¬ c.Z0 a := fun a o n _ z => n (r.base a z).1
theorem tSR.expr {r : Res α} {k : α → Env → Res Fl} (h : tSR K E c Dn (bindR r k)) (f : ∀ a ρ1 b H1, Rel K c Z ρ1 σ H1 → Ra K σ H1 Z a b → tSR K E c Dn (k a ρ1) → Q' b H1) : tR K E Ra c Z σ H Q' r := by
  cases r with
  | fail => exact h
  | ok a ρ => exact fun b H' h1 h2 h3 => f a ρ b H' h1 h3 h
  | exc x l ρ => exact fun ed vs H' h1 h2 h3 h4 h5 => h σ ed vs H' ⟨Z, h1⟩ h3 h4 (Reps.zed h1.z0 _ _ h5)
end
def mSeq (a b : M Fl) : M Fl := fun ρ => match a ρ with
  | .ok .nx ρ1 => b ρ1
  | r => r
def mSkip : M Fl := fun ρ => .ok .nx ρ
def mBreak : M Fl := fun ρ => .ok .bk ρ
def mCont : M Fl := fun ρ => .ok .ct ρ
def mSet (i : Nat) (m : M D) : M Fl := fun ρ => bindR (m ρ) fun d ρ => .ok .nx (ρ.set i (some (.val d)))
def mRet (m : M D) : M Fl := fun ρ => bindR (m ρ) fun d ρ => .ok (.rt d) ρ
def mRetN : M Fl := fun ρ => .ok (.rt .non) ρ
def mDo (m : M D) : M Fl := fun ρ => bindR (m ρ) fun _ ρ => .ok .nx ρ
def mIf (t : M Bool) (a b : M Fl) : M Fl := fun ρ => bindR (t ρ) fun k ρ => if k = true then a ρ else b ρ
def mNever : M Fl := fun _ => .fail
/-- a thing of one's own is data from here on -/
def mFrz (i : Nat) (m : M Fl) : M Fl := fun ρ => match ρ[i]? with
  | some (some (.own t)) => m (ρ.set i (some (.val t.toD)))
  | _ => .fail
/-- a slot is forgotten -/
def mDrop (i : Nat) (m : M Fl) : M Fl := fun ρ => m (ρ.set i none)
section
variable {X : Cx} {E : XK} {pos pos' : Pos} {st : Stmt} {rest : List Stmt} {e : Expr} {m : M D} {a b ms : M Fl} {t : M Bool}
theorem s_nil : PSs X [] (tS X.K E mSkip) := pss_nil.imp fun Dn σ H ⟨c, ρ, r, q⟩ => q σ H r
theorem s_cons (h1 : PS X st (tS X.K E a)) (h2 : PSs X rest (tS X.K E b)) : PSs X (st :: rest) (tS X.K E (mSeq a b)) := by
  refine (pss_cons h1 h2).imp fun Dn σ H h => ?_
  obtain ⟨c, ρ, r, q⟩ := h
  refine ⟨c, ρ, r, ?_⟩
  unfold mSeq at q
  cases ea : a ρ with
  | fail => rw [ea] at q; exact q
  | exc x l ρ1 => rw [ea] at q; exact q
  | ok f ρ1 =>
    rw [ea] at q
    cases f with
    | nx => exact fun σ1 H1 r1 => ⟨c, ρ1, r1, q⟩
    | bk => exact q
    | ct => exact q
    | rt d => exact q
theorem s_one (h1 : PS X st (tS X.K E a)) : PSs X [st] (tS X.K E a) := pss_one h1
theorem s_pass : PS X (.Pass pos) (tS X.K E mSkip) := ps_pass.imp fun Dn σ H ⟨c, ρ, r, q⟩ => q σ H r
theorem s_break : PS X (.Break pos) (tS X.K E mBreak) := ps_break.imp fun Dn σ H ⟨c, ρ, r, q⟩ => q σ H r
theorem s_cont : PS X (.Continue pos) (tS X.K E mCont) := ps_continue.imp fun Dn σ H ⟨c, ρ, r, q⟩ => q σ H r
theorem s_never : PS X st (tS X.K E mNever) := ps_never.imp fun Dn σ H ⟨c, ρ, r, q⟩ => q
theorem ss_never {sts : List Stmt} : PSs X sts (tS X.K E mNever) := pss_never.imp fun Dn σ H ⟨c, ρ, r, q⟩ => q
theorem s_set (i : Nat) {x : Str} (hN : X.N.Nodup) (he : PE X e (tD X.K E m)) (hi : X.N[i]? = some x := by rfl) (hx : Loc X.env.scope x := by first | exact Or.inl rfl | exact Or.inr rfl) (hs : swapsWith e (some (.Name x pos')) pos.line X.env = pure false := by rfl) (hf : X.fn x = true ∨ X.env.scope.names.lookup x = some .local := by first | exact .inl rfl | exact .inr rfl) :
    PS X (.Assign [.Name x pos'] e pos) (tS X.K E (mSet i m)) := by
  refine (ps_set hN hi hx he hs hf).imp fun Dn σ H h => ?_
  obtain ⟨c, ρ, ⟨Z, r⟩, q⟩ := h
  exact ⟨c, Z, ρ, r, tSR.expr (k := fun d ρ => .ok .nx (ρ.set i (some (.val d)))) q fun d ρ1 v H1 r1 h1 q1 => q1 _ _ ⟨Z, r1.set h1⟩⟩
theorem s_ret (he : PE X e (tD X.K E m)) : PS X (.Return (some e) pos) (tS X.K E (mRet m)) := by
  refine (ps_ret he).imp fun Dn σ H h => ?_
  obtain ⟨c, ρ, ⟨Z, r⟩, q⟩ := h
  exact ⟨c, Z, ρ, r, tSR.expr (k := fun d ρ => .ok (.rt d) ρ) q fun d ρ1 v H1 r1 h1 q1 => q1 σ v H1 ⟨Z, r1⟩ (Rep.zed r1.z0 _ _ h1)⟩
theorem s_retN : PS X (.Return none pos) (tS X.K E mRetN) := ps_retN.imp fun Dn σ H ⟨c, ρ, r, q⟩ => q σ .non H r rfl
theorem s_expr (he : PE X e (tD X.K E m)) (hs : swapsWith e none pos.line X.env = pure false := by rfl) : PS X (.Expr e pos) (tS X.K E (mDo m)) := by
  refine (ps_expr he hs).imp fun Dn σ H h => ?_
  obtain ⟨c, ρ, ⟨Z, r⟩, q⟩ := h
  exact ⟨c, Z, ρ, r, tSR.expr (k := fun d ρ => .ok .nx ρ) q fun d ρ1 v H1 r1 h1 q1 => q1 σ H1 ⟨Z, r1⟩⟩
theorem s_if {cnd : Expr} {p q : List Stmt} (hc : PT X cnd (tT X.K E t)) (ha : PSs X p (tS X.K E a)) (hb : PSs X q (tS X.K E b)) : PS X (.If cnd p q pos) (tS X.K E (mIf t a b)) := by
  refine (ps_if hc ha hb).imp fun Dn σ H h => ?_
  obtain ⟨c, ρ, ⟨Z, r⟩, q⟩ := h
  refine ⟨c, Z, ρ, r, tSR.expr (k := fun k ρ => if k = true then a ρ else b ρ) q fun k ρ1 k' H1 r1 h1 q1 => ?_⟩
  cases (show k = k' from h1)
  cases k with
  | true => exact iteT ⟨c, ρ1, ⟨Z, r1⟩, q1⟩
  | false => exact iteF ⟨c, ρ1, ⟨Z, r1⟩, q1⟩
theorem s_frz (i : Nat) (h : PS X st (tS X.K E a)) : PS X st (tS X.K E (mFrz i a)) := h.imp fun Dn σ H q => by
  obtain ⟨c, ρ, ⟨Z, r⟩, q⟩ := q
  unfold mFrz at q
  split at q
  · rename_i t ht
    obtain ⟨Z', r'⟩ := r.frz ht
    exact ⟨c, _, ⟨Z', r'⟩, q⟩
  · exact q.elim
theorem s_drop (i : Nat) (h : PS X st (tS X.K E a)) : PS X st (tS X.K E (mDrop i a)) := h.imp fun Dn σ H q => by
  obtain ⟨c, ρ, ⟨Z, r⟩, q⟩ := q
  exact ⟨c, _, ⟨Z, r.drop i⟩, q⟩
theorem ss_frz (i : Nat) (h : PSs X rest (tS X.K E a)) : PSs X rest (tS X.K E (mFrz i a)) := h.imp fun Dn σ H q => by
  obtain ⟨c, ρ, ⟨Z, r⟩, q⟩ := q
  unfold mFrz at q
  split at q
  · rename_i t ht
    obtain ⟨Z', r'⟩ := r.frz ht
    exact ⟨c, _, ⟨Z', r'⟩, q⟩
  · exact q.elim
theorem ss_drop (i : Nat) (h : PSs X rest (tS X.K E a)) : PSs X rest (tS X.K E (mDrop i a)) := h.imp fun Dn σ H q => by
  obtain ⟨c, ρ, ⟨Z, r⟩, q⟩ := q
  exact ⟨c, _, ⟨Z, r.drop i⟩, q⟩
end
/-! ### a new thing of one's own -/
def tO (K : PySem.W.Frag) (E : XK) (m : M Ct) : TE := fun σ H Q => ∃ c Z ρ, Rel K c Z ρ σ H ∧ match m ρ with
  | .fail => False
  | .ok t ρ' => ∀ p Z' H', NewAt K c Z' ρ' σ H' t p → (∀ d v, Rep K H Z d v → Rep K H' Z' d v) → Q (.ref p) H'
  | .exc x l ρ' => ∀ ed vs H', Rel K c Z ρ' σ H' → H' ed = some (.xd ((cF x).zip vs)) → vs.length ≤ (cF x).length → Reps K H' Z l vs → E (.ref (He.ga K (cN x))) (some ed) H'
theorem Rep.new {K : PySem.W.Frag} {Z : Addr → Prop} {H : Hp} {p : Addr} {o : HO} {d : D} {v : V} (h : Rep K H Z d v) (hp : H p = none) : Rep K (upd H p o) (fun a => Z a ∨ a = p) d v :=
  (h.zed fun a u n e z => z.elim n fun q => by rw [q, hp] at e; cases e).ext (Ext.same (same_upd hp))
def oLst (ms : M (List D)) : M Ct := fun ρ => bindR (ms ρ) fun l ρ => if l.length ≤ sizeLine then .ok (.lst l) ρ else .fail
def oDct : M Ct := fun ρ => .ok (.dct [] []) ρ
def mSetO (i : Nat) (m : M Ct) : M Fl := fun ρ => bindR (m ρ) fun t ρ => .ok .nx (ρ.set i (some (.own t)))
section
variable {X : Cx} {E : XK} {pos pos' : Pos} {e : Expr} {es : List Expr} {mo : M Ct} {ms : M (List D)}
theorem o_list (h : PA X es (tAr X.K E ms)) : PE X (.List es pos) (tO X.K E (oLst ms)) := by
  refine (pe_lst h).imp fun σ H Q h => ?_
  obtain ⟨c, Z, ρ, r, q⟩ := h
  unfold oLst at q
  refine ⟨c, Z, ρ, r, ?_⟩
  cases em : ms ρ with
  | fail => rw [em] at q; exact q
  | exc x l ρ1 => rw [em] at q; exact fun ed vs H' h1 h2 h3 h4 h5 => q ed vs H' h1 h3 h4 h5
  | ok l ρ1 =>
    rw [em] at q
    simp only [bindR_ok] at q
    intro vs H1 r1 e1 h1
    have h1 : Reps X.K H1 Z l vs := h1
    by_cases hl : l.length ≤ sizeLine
    · rw [if_pos hl] at q
      exact ⟨by rw [← h1.len]; exact hl, fun p hp => q p _ _ (r1.newAt hp ⟨vs, rfl, h1⟩) fun d v hd => Rep.new (hd.ext e1) hp⟩
    · rw [if_neg hl] at q
      exact q.elim
theorem o_dict : PE X (.Dict [] [] pos) (tO X.K E oDct) := by
  refine pe_dnewK.imp fun σ H Q h => ?_
  obtain ⟨c, Z, ρ, r, q⟩ := h
  exact fun p hp => q p _ _ (r.newAt hp ⟨[], rfl, rfl, rfl⟩) fun d v hd => Rep.new hd hp
theorem s_setO (i : Nat) {x : Str} (hN : X.N.Nodup) (he : PE X e (tO X.K E mo)) (hi : X.N[i]? = some x := by rfl) (hx : Loc X.env.scope x := by first | exact Or.inl rfl | exact Or.inr rfl) (hs : swapsWith e (some (.Name x pos')) pos.line X.env = pure false := by rfl) (hf : X.fn x = true ∨ X.env.scope.names.lookup x = some .local := by first | exact .inl rfl | exact .inr rfl) :
    PS X (.Assign [.Name x pos'] e pos) (tS X.K E (mSetO i mo)) := by
  refine (ps_set hN hi hx he hs hf).imp fun Dn σ H h => ?_
  obtain ⟨c, ρ, ⟨Z, r⟩, q⟩ := h
  unfold mSetO at q
  refine ⟨c, Z, ρ, r, ?_⟩
  cases em : mo ρ with
  | fail => rw [em] at q; exact q
  | exc x l ρ1 => rw [em] at q; exact fun ed vs H' h1 h3 h4 h5 => q σ ed vs H' ⟨Z, h1⟩ h3 h4 (Reps.zed h1.z0 _ _ h5)
  | ok t ρ1 =>
    rw [em] at q
    exact fun p Z' H' n _ => q _ _ ⟨Z', n.set i⟩
end
/-! ### changes of a thing of one's own -/
/-- the thing in slot i becomes another, given data -/
def mMut (i : Nat) (f : Ct → D → Option Ct) (m : M D) : M Fl := fun ρ => bindR (m ρ) fun d ρ => match ρ[i]? with
  | some (some w) => (match holds ρ i with
    | some t => (match f t d with
      | some t' => .ok .nx (ρ.set i (some (w.put t')))
      | none => .fail)
    | none => .fail)
  | _ => .fail
def cApp : Ct → D → Option Ct
  | .lst l, d => if l.length < sizeLine then some (.lst (l ++ [d])) else none
  | _, _ => none
def cExt : Ct → D → Option Ct
  | .lst l, .lst r => if l.length + r.length ≤ sizeLine then some (.lst (l ++ r)) else none
  | _, _ => none
def mApp (i : Nat) (m : M D) : M Fl := fun ρ => match holds ρ i with
  | some (.lst _) => mMut i cApp m ρ
  | _ => .fail
def mExt (i : Nat) (m : M D) : M Fl := fun ρ => match holds ρ i with
  | some (.lst _) => mMut i cExt m ρ
  | _ => .fail
def mAug (i : Nat) (f : D → D → Option D) (m : M D) : M Fl := fun ρ => match ρ[i]? with
  | some (some (.val a)) => bindR (m ρ) fun b ρ => (match f a b with
    | some d => .ok .nx (ρ.set i (some (.val d)))
    | none => .fail)
  | _ => .fail
section
variable {X : Cx} {E : XK} {pos pos' apos cpos : Pos} {e : Expr} {m : M D} {K : PySem.W.Frag}
theorem mut_gen {i : Nat} {f : Ct → D → Option Ct} {c : Cz} {Z : Addr → Prop} {ρ : Env} {σ : St} {H : Hp} {Dn : Ends} {d : D}
    (q : tSR K E c Dn (match ρ[i]? with
      | some (some w) => (match holds ρ i with
        | some t => (match f t d with
          | some t' => Res.ok Fl.nx (ρ.set i (some (w.put t')))
          | none => .fail)
        | none => .fail)
      | _ => .fail)) (r : Rel K c Z ρ σ H) :
    ∃ p t t', σ[i]? = some (some (.ref p)) ∧ RepC K H Z t p ∧ Z p ∧ f t d = some t' ∧ ∀ H', (∀ a o, a ≠ p → H a = some o → H' a = some o) → RepC K H' Z t' p → Dn.nx σ H' := by
  split at q
  · rename_i w hw
    split at q
    · rename_i t ht
      split at q
      · rename_i t' hf
        obtain ⟨w', hw', hh⟩ := holds_hold ht
        rw [hw] at hw'
        cases hw'
        obtain ⟨p, h1, h2, h3⟩ := r.hold hw hh
        exact ⟨p, t, t', h1, h3, h2, hf, fun H' hk hn => q _ _ ⟨Z, r.put hw hh h1 hk hn⟩⟩
      · exact q.elim
    · exact q.elim
  · exact q.elim
/-- x.append(e) -/
theorem s_append (i : Nat) {x : Str} {np : Pos} (he : PE X e (tD X.K E m)) (hN : X.N[i]? = some x := by rfl) (hv : Vis X.env.scope x := by first | exact Or.inl rfl | exact Or.inr (Or.inl rfl) | exact Or.inr (Or.inr rfl)) (hd : (x == ("__debug__" : Str)) = false := by decide) (hcd : (x == ("__classdict__" : Str)) = false := by decide)
    (hbase : attributeBase (.Name x np) "append" X.env (eval (.Name x np) X.env) = eval (.Name x np) X.env := by rfl)
    (hfew : ((backTo cpos (starEach [e] X.env)).all (fun x => !x.1) && (backToKw cpos (keywordEach [] X.env)).all (fun x => x.1.isSome) && decide ([e].length + ([] : List Keyword).length + (if ([] : List Keyword).isEmpty then 0 else 1) < 30)) = true := by rfl)
    (hline : (apos.endLine == cpos.line) = true := by rfl) (hs : starEach [e] X.env = (false, eval e X.env) :: starEach [] X.env := by rfl)
    (hsw : swapsWith (.Call (.Attribute (.Name x np) "append" apos) [e] [] cpos) none pos.line X.env = pure false := by rfl) :
    PS X (.Expr (.Call (.Attribute (.Name x np) "append" apos) [e] [] cpos) pos) (tS X.K E (mApp i m)) := by
  refine (ps_expr (pe_bm PySem.F.plainAttrs_list PySem.F.slot_list_append PySem.F.type_list_append mt_append (pe_var hN hv hd hcd) (pa_cons he pa_nil hs) hbase hfew hline hs) hsw).imp fun Dn σ H h => ?_
  obtain ⟨c, ρ, ⟨Z, r⟩, q⟩ := h
  unfold mApp at q
  split at q
  · rename_i l0 ht
    obtain ⟨w, hw, hh⟩ := holds_hold ht
    obtain ⟨p, h1, h2, o, h3, vs, rfl, h4⟩ := r.hold hw hh
    refine ⟨_, h1, .inl ⟨rfl, vs, SqL.of h3⟩, c, Z, ρ, r, tSR.expr q fun d ρ1 v H1 r1 hd q1 => ?_⟩
    obtain ⟨p', t, t', g1, g2, g3, g4, k⟩ := mut_gen q1 r1
    rw [h1] at g1
    cases g1
    obtain ⟨o, g5, g6⟩ := g2
    cases t with
    | dct _ _ => cases g4
    | ob _ _ => cases g4
    | lst l =>
      obtain ⟨us, rfl, g7⟩ := g6
      have g4 : (if l.length < sizeLine then some (Ct.lst (l ++ [d])) else none) = some t' := g4
      split at g4
      · rename_i hl
        cases g4
        refine ⟨p, us, v, rfl, rfl, g5, by rw [← g7.len]; exact hl, k _ (fun a o ne e => by rw [upd_ne ne]; exact e) ⟨_, upd_same, _, rfl, ?_⟩⟩
        have ex : Ext Z H1 (upd H1 p (.lst (us ++ [v]))) := fun a o nz e => by rw [upd_ne (fun z => nz (by rw [z]; exact g3))]; exact e
        exact (Reps.ext ex _ _ g7).app (Reps.one (Rep.ext ex _ _ hd))
      · cases g4
  · exact q.elim
/-- += of lists, the right one locked or not -/
def rExtL : R2 := fun x y H Q => ∃ l b xs zs, x = .ref l ∧ y = .ref b ∧ H l = some (.lst xs) ∧ Rd H b (.lst zs) ∧ xs.length + zs.length ≤ sizeLine ∧ Q (.ref l) (upd H l (.lst (xs ++ zs)))
theorem iop_extL : OpR X (inplaceOp .Add) rExtL := by
  intro pins s σ H x y v u Q I rx ry h
  obtain ⟨l, b, xs, zs, rfl, rfl, hH, hB, hz, q⟩ := h
  cases rx
  cases ry
  obtain ⟨_, its, n, r, hl, e⟩ := I.lstM hH
  obtain ⟨_, its2, n2, r2, hl2, e2⟩ := lst_at I hB
  have hsz : its.toArray.size + its2.toArray.size ≤ sizeLine := by simp only [List.size_toArray]; omega
  have hno : ¬ (!its.toArray.isEmpty && Builtin.List.listTooLong (its.toArray.size + its2.toArray.size)) = true := by rw [notLongL hsz, Bool.and_false]; exact Bool.false_ne_true
  refine iadd_road ⟨_, e, rfl⟩ ⟨_, e2, rfl⟩ (call_meets PySem.F.slot_list_iadd ⟨_, e, rfl⟩ PySem.F.entry_list_iadd (PySem.F.args_list_iadd_2 _ _)
    (AutoSeq1.list___iadd___list_list_0 l its.toArray n b its2.toArray n2 hno (by simp only [List.size_toArray]; omega) (by omega)) ⟨e, e2, ?_⟩)
  exact ⟨.ref l, _, I.lset (its' := its ++ its2) (t' := s.toks) hH e (by simp) (r.append r2) (by simp only [List.length_append]; omega), rfl, q⟩
theorem set_same {σ : St} {i : Nat} {v : V} (h : σ[i]? = some (some v)) : σ.set i (some v) = σ := by
  apply List.ext_getElem?
  intro j
  by_cases hj : i = j
  · subst hj
    rw [List.getElem?_set_self (List.getElem?_eq_some_iff.mp h).1, h]
  · rw [List.getElem?_set_ne hj]
/-- x += e, x a list of one's own -/
theorem s_extend (i : Nat) {x : Str} (hN : X.N.Nodup) (he : PE X e (tD X.K E m)) (hi : X.N[i]? = some x := by rfl) (hx : Loc X.env.scope x := by first | exact Or.inl rfl | exact Or.inr rfl) (hf : X.fn x = true ∨ X.env.scope.names.lookup x = some .local := by first | exact .inl rfl | exact .inr rfl) :
    PS X (.AugAssign (.Name x pos') .Add e pos) (tS X.K E (mExt i m)) := by
  refine (ps_aug hN hi hx he iop_extL hf).imp fun Dn σ H h => ?_
  obtain ⟨c, ρ, ⟨Z, r⟩, q⟩ := h
  unfold mExt at q
  split at q
  · rename_i l0 ht
    obtain ⟨w, hw, hh⟩ := holds_hold ht
    obtain ⟨p, h1, h2, _⟩ := r.hold hw hh
    refine ⟨_, h1, c, Z, ρ, r, tSR.expr q fun d ρ1 v H1 r1 hd q1 => ?_⟩
    obtain ⟨p', t, t', g1, g2, g3, g4, k⟩ := mut_gen q1 r1
    rw [h1] at g1
    cases g1
    obtain ⟨o, g5, g6⟩ := g2
    cases t with
    | dct _ _ => cases g4
    | ob _ _ => cases g4
    | lst l =>
      cases d <;> first | (cases g4; done) | skip
      rename_i rr
      obtain ⟨us, rfl, g7⟩ := g6
      have hd : Rep X.K H1 Z (.lst rr) v := hd
      simp only [Rep] at hd
      obtain ⟨b, zs, rfl, ⟨nz, hb⟩, hz⟩ := hd
      have g4 : (if l.length + rr.length ≤ sizeLine then some (Ct.lst (l ++ rr)) else none) = some t' := g4
      split at g4
      · rename_i hl
        cases g4
        refine ⟨p, b, us, zs, rfl, rfl, g5, hb, by rw [← g7.len, ← hz.len]; exact hl, ?_⟩
        show Dn.nx (σ.set i (some (V.ref p))) _
        rw [set_same h1]
        have ex : Ext Z H1 (upd H1 p (.lst (us ++ zs))) := fun a o nz e => by rw [upd_ne (fun z => nz (by rw [z]; exact g3))]; exact e
        exact k _ (fun a o ne e => by rw [upd_ne ne]; exact e) ⟨_, upd_same, _, rfl, (Reps.ext ex _ _ g7).app (Reps.ext ex _ _ hz)⟩
      · cases g4
  · exact q.elim
/-- x += e, x -= e of numbers -/
theorem s_augI (i : Nat) {x : Str} {op : Operator} {g : Int → Int → Int} {f : D → D → Option D} (ho : PIp X op (ipI g)) (hg : ∀ a b d, f a b = some d → ∃ j k, a = .int j ∧ b = .int k ∧ d = .int (g j k)) (hN : X.N.Nodup) (he : PE X e (tD X.K E m)) (hi : X.N[i]? = some x := by rfl) (hx : Loc X.env.scope x := by first | exact Or.inl rfl | exact Or.inr rfl) (hf : X.fn x = true ∨ X.env.scope.names.lookup x = some .local := by first | exact .inl rfl | exact .inr rfl) :
    PS X (.AugAssign (.Name x pos') op e pos) (tS X.K E (mAug i f m)) := by
  refine (ps_aug hN hi hx he ho hf).imp fun Dn σ H h => ?_
  obtain ⟨c, ρ, ⟨Z, r⟩, q⟩ := h
  unfold mAug at q
  split at q
  · rename_i dx hx'
    obtain ⟨v, h1, h2⟩ := r.val i dx hx'
    refine ⟨v, h1, c, Z, ρ, r, tSR.expr q fun b ρ1 y H1 r1 hb q3 => ?_⟩
    cases ef : f dx b with
    | none => rw [ef] at q3; exact q3.elim
    | some d =>
      rw [ef] at q3
      obtain ⟨j, k, rfl, rfl, rfl⟩ := hg _ _ _ ef
      cases (show v = _ from h2)
      cases (show y = _ from hb)
      exact ⟨j, k, rfl, rfl, q3 _ _ ⟨Z, r1.set (d := .int (g j k)) rfl⟩⟩
  · exact q.elim
end
end DL
set_option Elab.async false
set_option linter.all false
set_option maxRecDepth 100000
set_option maxHeartbeats 4000000
namespace DL
open PySem PySem.Spec PyProof.Rows L2
variable [CTab]
/-! ### targets -/
/-- the slots outside of these are as they were -/
def Out (is : List Nat) (σ σ' : St) : Prop := σ'.length = σ.length ∧ ∀ j, j ∉ is → σ'[j]? = σ[j]?
theorem Out.refl {is : List Nat} {σ : St} : Out is σ σ := ⟨rfl, fun _ _ => rfl⟩
theorem Out.trans {is : List Nat} {σ σ1 σ2 : St} (a : Out is σ σ1) (b : Out is σ1 σ2) : Out is σ σ2 := ⟨b.1.trans a.1, fun j h => (b.2 j h).trans (a.2 j h)⟩
theorem Out.mono {is js : List Nat} {σ σ' : St} (a : Out is σ σ') (h : ∀ j ∈ is, j ∈ js) : Out js σ σ' := ⟨a.1, fun j n => a.2 j fun z => n (h j z)⟩
abbrev MT := D → Env → Option Env
abbrev MTs := List D → Env → Option Env
def tTG (K : PySem.W.Frag) (is : List Nat) (g : MT) : TG := fun v σ H Q => ∃ c Z ρ d ρ', Rel K c Z ρ σ H ∧ Rep K H Z d v ∧ g d ρ = some ρ' ∧ ∀ σ' H', Rel K c Z ρ' σ' H' → Same H H' → Out is σ σ' → Q σ' H'
def tTGs (K : PySem.W.Frag) (is : List Nat) (g : MTs) : TGs := fun vs σ H Q => ∃ c Z ρ l ρ', Rel K c Z ρ σ H ∧ Reps K H Z l vs ∧ g l ρ = some ρ' ∧ ∀ σ' H', Rel K c Z ρ' σ' H' → Same H H' → Out is σ σ' → Q σ' H'
theorem _root_.L2.PG.imp {X : Cx} {e : Expr} {t t' : TG} (h : PG X e t) (i : ∀ v σ H Q, t' v σ H Q → t v σ H Q) : PG X e t' := ⟨fun pins s σ H v u Q I r q => h.run pins s σ H v u Q I r (i v σ H Q q)⟩
theorem _root_.L2.PGs.imp {X : Cx} {e : List Expr} {t t' : TGs} (h : PGs X e t) (i : ∀ v σ H Q, t' v σ H Q → t v σ H Q) : PGs X e t' := ⟨fun pins s σ H v u Q I r q => h.run pins s σ H v u Q I r (i v σ H Q q)⟩
def mTN (i : Nat) : MT := fun d ρ => some (ρ.set i (some (.val d)))
def mTNil : MTs := fun l ρ => match l with
  | [] => some ρ
  | _ => none
def mTCons (g : MT) (gs : MTs) : MTs := fun l ρ => match l with
  | d :: r => (g d ρ).bind (gs r)
  | _ => none
def mTT (gs : MTs) : MT := fun d ρ => match d with
  | .tup l => gs l ρ
  | _ => none
section
variable {X : Cx} {E : XK} {pos pos' : Pos} {e : Expr} {es : List Expr} {g : MT} {gs : MTs} {is js : List Nat} {m : M D}
theorem Out.set {i : Nat} {σ : St} {x : Option V} : Out [i] σ (σ.set i x) := ⟨by simp, fun j h => List.getElem?_set_ne (fun e => h (by rw [e]; simp))⟩
theorem g_name (i : Nat) {x : Str} (hN : X.N.Nodup) (hi : X.N[i]? = some x := by rfl) (hx : Loc X.env.scope x := by first | exact Or.inl rfl | exact Or.inr rfl) (hf : X.fn x = true ∨ X.env.scope.names.lookup x = some .local := by first | exact .inl rfl | exact .inr rfl) : PG X (.Name x pos) (tTG X.K [i] (mTN i)) := by
  refine (pg_name hN hi hx hf).imp fun v σ H Q h => ?_
  obtain ⟨c, Z, ρ, d, ρ', r, hd, hg, q⟩ := h
  cases hg
  exact q _ H (r.set hd) (Same.refl H) Out.set
theorem gs_nil : PGs X [] (tTGs X.K [] mTNil) := by
  refine pgs_nil.imp fun v σ H Q h => ?_
  obtain ⟨c, Z, ρ, l, ρ', r, hl, hg, q⟩ := h
  unfold mTNil at hg
  split at hg
  · cases hg
    exact ⟨hl, q σ H r (Same.refl H) Out.refl⟩
  · cases hg
theorem gs_cons (h1 : PG X e (tTG X.K is g)) (h2 : PGs X es (tTGs X.K js gs)) (hs : (assignEach (e :: es) X.env).map (·.2) = assign e X.env :: (assignEach es X.env).map (·.2) := by rfl) : PGs X (e :: es) (tTGs X.K (is ++ js) (mTCons g gs)) := by
  refine (pgs_cons h1 h2 hs).imp fun v σ H Q h => ?_
  obtain ⟨c, Z, ρ, l, ρ', r, hl, hg, q⟩ := h
  unfold mTCons at hg
  split at hg
  · rename_i d rest
    obtain ⟨u, us, rfl, hd, hr⟩ := hl.inv
    cases e1 : g d ρ with
    | none => rw [e1] at hg; cases hg
    | some ρ1 =>
      rw [e1] at hg
      refine ⟨u, us, rfl, c, Z, ρ, d, ρ1, r, hd, e1, fun σ1 H1 r1 s1 o1 => ⟨c, Z, ρ1, rest, ρ', r1, Reps.ext (Ext.same s1) _ _ hr, hg, fun σ2 H2 r2 s2 o2 => ?_⟩⟩
      exact q σ2 H2 r2 (s1.trans s2) ((o1.mono fun j hj => List.mem_append_left _ hj).trans (o2.mono fun j hj => List.mem_append_right _ hj))
  · cases hg
theorem gs_len : ∀ {l : List D} {ρ ρ' : Env} {gs : MTs} {n : Nat}, (∀ l ρ ρ', gs l ρ = some ρ' → l.length = n) → gs l ρ = some ρ' → l.length = n := fun h e => h _ _ _ e
class TgLen (n : outParam Nat) (gs : MTs) : Prop where
  len : ∀ l ρ ρ', gs l ρ = some ρ' → l.length = n
instance : TgLen 0 mTNil := ⟨fun l ρ ρ' h => by
  unfold mTNil at h
  split at h
  · rfl
  · cases h⟩
instance {n : Nat} {g : MT} {gs : MTs} [i : TgLen n gs] : TgLen (n + 1) (mTCons g gs) := ⟨fun l ρ ρ' h => by
  unfold mTCons at h
  split at h
  · rename_i d r
    cases e1 : g d ρ with
    | none => rw [e1] at h; cases h
    | some ρ1 =>
      rw [e1] at h
      exact congrArg (· + 1) (i.len _ _ _ h)
  · cases h⟩
theorem g_tup {k n : Nat} [tl : TgLen n gs] (hc : X.calm = true) (h : PGs X es (tTGs X.K is gs)) (hn : (assignEach es X.env).length = n := by rfl) (hst : (assignEach es X.env).findIdx? (·.1) = none := by rfl) : PG X (.Tuple es k pos) (tTG X.K is (mTT gs)) := by
  refine (pg_tup hc h hn hst).imp fun v σ H Q h => ?_
  obtain ⟨c, Z, ρ, d, ρ', r, hd, hg, q⟩ := h
  unfold mTT at hg
  split at hg
  · rename_i l
    simp only [Rep] at hd
    obtain ⟨a, vs, rfl, h1, h2⟩ := hd
    exact ⟨a, vs, rfl, h1.sq, by rw [← h2.len]; exact tl.len _ _ _ hg, c, Z, ρ, l, ρ', r, h2, hg, q⟩
  · cases hg
/-- target = e -/
def mAsg (g : MT) (m : M D) : M Fl := fun ρ => bindR (m ρ) fun d ρ => match g d ρ with
  | some ρ' => .ok .nx ρ'
  | none => .fail
theorem s_asg {tg : Expr} (he : PE X e (tD X.K E m)) (hg : PG X tg (tTG X.K is g)) (hs : swapsWithSole [tg] e pos.line X.env = pure false := by rfl) (hw : swappedStores [tg] e X.env = pure none := by rfl) (h1 : (assignEach [tg] X.env).map (·.2) = [assign tg X.env] := by rfl) : PS X (.Assign [tg] e pos) (tS X.K E (mAsg g m)) := by
  refine (ps_asg he hg hs hw h1).imp fun Dn σ H h => ?_
  obtain ⟨c, ρ, ⟨Z, r⟩, q⟩ := h
  refine ⟨c, Z, ρ, r, tSR.expr q fun d ρ1 v H1 r1 hd q1 => ?_⟩
  cases e1 : g d ρ1 with
  | none => rw [e1] at q1; exact q1.elim
  | some ρ' =>
    rw [e1] at q1
    exact ⟨c, Z, ρ1, d, ρ', r1, hd, e1, fun σ' H' r' s' _ => q1 σ' H' ⟨Z, r'⟩⟩
/-- a, b = x, y -/
def mPar (i j : Nat) (ms : M (List D)) : M Fl := fun ρ => bindR (ms ρ) fun l ρ => match l with
  | [a, b] => .ok .nx ((ρ.set i (some (.val a))).set j (some (.val b)))
  | _ => .fail
theorem s_par (i j : Nat) {x y : Str} {a b : Expr} {ms : M (List D)} {px py pt : Pos} {kt k2 pt2} (hc : X.calm = true) (hN : X.N.Nodup) (ha : PA X [a, b] (tAr X.K E ms)) (hi : X.N[i]? = some x := by rfl) (hj : X.N[j]? = some y := by rfl) (hij : i ≠ j := by decide)
    (hx : X.env.scope.names.lookup x = some .local := by rfl) (hy : X.env.scope.names.lookup y = some .local := by rfl)
    (hw : swappedStores [.Tuple [.Name x px, .Name y py] kt pt] (.Tuple [a, b] k2 pt2) X.env = pure (some [x, y]) := by rfl)
    (hs : swapsWithSole [.Tuple [.Name x px, .Name y py] kt pt] (.Tuple [a, b] k2 pt2) pos.line X.env = pure false := by rfl) :
    PS X (.Assign [.Tuple [.Name x px, .Name y py] kt pt] (.Tuple [a, b] k2 pt2) pos) (tS X.K E (mPar i j ms)) := by
  refine (ps_par hc hN hi hj hij hx hy ha hw hs).imp fun Dn σ H h => ?_
  obtain ⟨c, ρ, ⟨Z, r⟩, q⟩ := h
  refine ⟨c, Z, ρ, r, tSR.expr q fun l ρ1 vs H1 r1 hl q1 => ?_⟩
  have hl : Reps X.K H1 Z l vs := hl
  split at q1
  · obtain ⟨v, u, rfl, h1, h2⟩ := hl.inv2
    exact ⟨v, u, rfl, q1 _ _ ⟨Z, (r1.set h1).set h2⟩⟩
  · exact q1.elim
end
/-! ### what is walked -/
/-- a walk over these, as long as the data of ex stand -/
structure WkD (K : PySem.W.Frag) (J : It) (ds : List D) (ex : List (D × V)) : Prop where
  go : ∀ (H : Hp) (Z : Addr → Prop), (∀ p, Z p → H p ≠ none) → (∀ q ∈ ex, Rep K H Z q.1 q.2) → ∀ (i : Nat) (d : D), ds[i]? = some d → J.go i H ∧ ∀ x H', J.yld i H x H' → Same H H' ∧ Rep K H' Z d x
  stop : ∀ (H : Hp) (Z : Addr → Prop), (∀ q ∈ ex, Rep K H Z q.1 q.2) → J.stop ds.length H
def iR (K : PySem.W.Frag) (E : XK) (c : Cz) (Z : Addr → Prop) (σ : St) (H : Hp) (R : It → Hp → Prop) : Res (List D) → Prop
  | .fail => False
  | .ok ds ρ' => ∀ J ex H', Rel K c Z ρ' σ H' → Ext Z H H' → (∀ q ∈ ex, Rep K H' Z q.1 q.2) → WkD K J ds ex → R J H'
  | .exc x l ρ' => ∀ ed vs H', Rel K c Z ρ' σ H' → Ext Z H H' → H' ed = some (.xd ((cF x).zip vs)) → vs.length ≤ (cF x).length → Reps K H' Z l vs → E (.ref (He.ga K (cN x))) (some ed) H'
def iD (K : PySem.W.Frag) (E : XK) (m : M (List D)) : TI := fun σ H R => ∃ c Z ρ, Rel K c Z ρ σ H ∧ iR K E c Z σ H R (m ρ)
theorem _root_.L2.PI.imp {X : Cx} {tg e : Expr} {t t' : TI} (h : PI X tg e t) (i : ∀ σ H R, t' σ H R → t σ H R) : PI X tg e t' := ⟨fun pins s σ H R I q => h.run pins s σ H R I (i σ H R q)⟩
def mItL (m : M D) : M (List D) := fun ρ => bindR (m ρ) fun d ρ => liftO d.lis ρ
def mItT (m : M D) : M (List D) := fun ρ => bindR (m ρ) fun d ρ => match d with
  | .tup l => .ok l ρ
  | _ => .fail
def mItLT (m : M D) : M (List D) := fun ρ => bindR (m ρ) fun d ρ => liftO d.seq ρ
def rngD (lo : Int) (n : Nat) : List D := (List.range n).map fun i : Nat => .int (lo + (i : Int))
def lim62 (i : Int) : Bool := decide (-(2 ^ 62) ≤ i ∧ i < 2 ^ 62)
def mRng1 (m : M D) : M (List D) := fun ρ => bindR (m ρ) fun d ρ => match d with
  | .int j => if lim62 j = true then .ok (rngD 0 j.toNat) ρ else .fail
  | _ => .fail
def mRng2 (m m' : M D) : M (List D) := fun ρ => bindR (m ρ) fun d ρ => bindR (m' ρ) fun e ρ => match d, e with
  | .int i, .int j => if (lim62 i && lim62 j) = true then .ok (rngD i (j - i).toNat) ρ else .fail
  | _, _ => .fail
def enumD : Nat → List D → List D
  | _, [] => []
  | i, d :: r => .tup [.int (i : Int), d] :: enumD (i + 1) r
def mEnum (m : M D) : M (List D) := fun ρ => bindR (m ρ) fun d ρ => match d.lis with
  | some l => .ok (enumD 0 l) ρ
  | none => .fail
def zipD : List D → List D → List D
  | a :: r, b :: t => .tup [a, b] :: zipD r t
  | _, _ => []
def mZip (m m' : M D) : M (List D) := fun ρ => bindR (m ρ) fun d ρ => bindR (m' ρ) fun e ρ => match d, e with
  | .tup l, .tup r => .ok (zipD l r) ρ
  | _, _ => (match d.lis, e.lis with
    | some l, some r => .ok (zipD l r) ρ
    | _, _ => .fail)
section
variable {X : Cx} {E : XK} {pos p tpos : Pos} {tg e e2 : Expr} {m m' : M D} {K : PySem.W.Frag}
theorem iR.ext {c : Cz} {Z : Addr → Prop} {σ : St} {H H1 : Hp} {R : It → Hp → Prop} {r : Res (List D)} (h : iR K E c Z σ H R r) (e : Ext Z H H1) : iR K E c Z σ H1 R r := by
  cases r with
  | fail => exact h
  | ok ds ρ => exact fun J ex H' a b => h J ex H' a (e.trans b)
  | exc x l ρ => exact fun ed vs H' a b => h ed vs H' a (e.trans b)
theorem iR.bind {c : Cz} {Z : Addr → Prop} {σ : St} {H : Hp} {R : It → Hp → Prop} {r : Res D} {k : D → Env → Res (List D)} {Q' : V → Hp → Prop} (h : iR K E c Z σ H R (bindR r k))
    (f : ∀ d ρ1 v H1, Rel K c Z ρ1 σ H1 → Ext Z H H1 → Rep K H1 Z d v → iR K E c Z σ H1 R (k d ρ1) → Q' v H1) : tR K E rD c Z σ H Q' r := by
  cases r with
  | fail => exact h
  | ok d ρ1 => exact fun v H1 r1 e1 h1 => f d ρ1 v H1 r1 e1 h1 (iR.ext h e1)
  | exc x l ρ1 => exact h
theorem wk_list {a : Addr} {d : D} {l : List D} (hd : d.lis = some l) : WkD K (Itl K a) l [(d, .ref a)] := by
  have at_ : ∀ (H : Hp) (Z : Addr → Prop), (∀ q ∈ [(d, V.ref a)], Rep K H Z q.1 q.2) → ∃ vs, SqL K H a vs ∧ Reps K H Z l vs := fun H Z h => by
    obtain ⟨p, vs, e, h1, h2⟩ := D.lis_rep hd (h _ (List.mem_singleton.mpr rfl))
    cases e
    exact ⟨vs, h1, h2⟩
  refine ⟨fun H Z hz h i x hx => ?_, fun H Z h => ?_⟩
  · obtain ⟨vs, h1, h2⟩ := at_ H Z h
    obtain ⟨v, hv, rv⟩ := h2.get hx
    refine ⟨⟨vs, v, h1, hv⟩, fun y H' hy => ?_⟩
    obtain ⟨rfl, hy⟩ := hy
    have e := hy vs h1
    rw [hv] at e
    cases e
    exact ⟨Same.refl _, rv⟩
  · obtain ⟨vs, h1, h2⟩ := at_ H Z h
    exact ⟨vs, h1, by rw [h2.len]; exact Nat.le_refl _⟩
theorem wk_tup {a : Addr} {l : List D} : WkD K (Itt K a) l [(.tup l, .ref a)] := by
  have at_ : ∀ (H : Hp) (Z : Addr → Prop), (∀ q ∈ [(D.tup l, V.ref a)], Rep K H Z q.1 q.2) → ∃ vs, SqT K H a vs ∧ Reps K H Z l vs := fun H Z h => by
    have h0 := h _ (List.mem_singleton.mpr rfl)
    simp only [Rep] at h0
    obtain ⟨p, vs, e, h1, h2⟩ := h0
    cases e
    exact ⟨vs, h1.sq, h2⟩
  refine ⟨fun H Z hz h i x hx => ?_, fun H Z h => ?_⟩
  · obtain ⟨vs, h1, h2⟩ := at_ H Z h
    obtain ⟨v, hv, rv⟩ := h2.get hx
    refine ⟨⟨vs, v, h1, hv⟩, fun y H' hy => ?_⟩
    obtain ⟨rfl, hy⟩ := hy
    have e := hy vs h1
    rw [hv] at e
    cases e
    exact ⟨Same.refl _, rv⟩
  · obtain ⟨vs, h1, h2⟩ := at_ H Z h
    exact ⟨vs, h1, by rw [h2.len]; exact Nat.le_refl _⟩
theorem i_list (he : PE X e (tD X.K E m)) : PI X tg e (iD X.K E (mItL m)) := by
  refine (pi_list he).imp fun σ H R ⟨c, Z, ρ, r, q⟩ => ⟨c, Z, ρ, r, iR.bind q fun d ρ1 v H1 r1 e1 h1 q => ?_⟩
  cases e1 : d.lis with
  | none => rw [e1] at q; exact q.elim
  | some l =>
    rw [e1] at q
    obtain ⟨a, vs, rfl, g1, g2⟩ := D.lis_rep e1 h1
    exact ⟨a, rfl, ⟨vs, g1⟩, q _ _ H1 r1 Ext.refl (fun q hq => by rw [List.mem_singleton.mp hq]; exact h1) (wk_list e1)⟩
theorem i_tup (he : PE X e (tD X.K E m)) : PI X tg e (iD X.K E (mItT m)) := by
  refine (pi_tup he).imp fun σ H R ⟨c, Z, ρ, r, q⟩ => ⟨c, Z, ρ, r, iR.bind q fun d ρ1 v H1 r1 e1 h1 q => ?_⟩
  cases d <;> first | (exact q.elim; done) | skip
  rename_i l
  have h1' := h1
  simp only [Rep] at h1
  obtain ⟨a, vs, rfl, g1, g2⟩ := h1
  exact ⟨a, rfl, ⟨vs, g1.sq⟩, q _ _ H1 r1 Ext.refl (fun q hq => by rw [List.mem_singleton.mp hq]; exact h1') wk_tup⟩
theorem pi_or {t u : TI} (h : PI X tg e t) (h' : PI X tg e u) : PI X tg e (fun σ H R => t σ H R ∨ u σ H R) := ⟨fun pins s σ H R I q => q.elim (h.run pins s σ H R I) (h'.run pins s σ H R I)⟩
/-- a list or a tuple -/
theorem i_seq (he : PE X e (tD X.K E m)) : PI X tg e (iD X.K E (mItLT m)) := by
  refine (pi_or (i_list he) (i_tup he)).imp fun σ H R h => ?_
  obtain ⟨c, Z, ρ, r, q⟩ := h
  unfold mItLT at q
  cases em : m ρ with
  | fail => rw [em] at q; exact q.elim
  | exc x l ρ1 =>
    rw [em] at q
    refine .inl ⟨c, Z, ρ, r, ?_⟩
    unfold mItL
    rw [em]
    exact q
  | ok d ρ1 =>
    rw [em, bindR_ok] at q
    by_cases ht : ∃ l, d = .tup l
    · obtain ⟨l, rfl⟩ := ht
      refine .inr ⟨c, Z, ρ, r, ?_⟩
      unfold mItT
      rw [em]
      exact q
    · refine .inl ⟨c, Z, ρ, r, ?_⟩
      unfold mItL
      rw [em, bindR_ok]
      have e1 : d.seq = d.lis := by
        cases d <;> first | rfl | exact absurd ⟨_, rfl⟩ ht
      rw [← e1]
      exact q
theorem rngD_len {lo : Int} {n : Nat} : (rngD lo n).length = n := by simp [rngD]
theorem wk_rng {lo : Int} {n : Nat} : WkD K (Itr lo n) (rngD lo n) [] := by
  refine ⟨fun H Z hz h i x hx => ?_, fun H Z h => ?_⟩
  · have hi : i < n := by
      have := (List.getElem?_eq_some_iff.mp hx).1
      rw [rngD_len] at this
      exact this
    have ex : x = .int (lo + (i : Int)) := by
      simp only [rngD, List.getElem?_map, List.getElem?_range hi, Option.map_some, Option.some.injEq] at hx
      exact hx.symm
    refine ⟨hi, fun y H' hy => ?_⟩
    obtain ⟨rfl, rfl⟩ := hy
    subst ex
    exact ⟨Same.refl _, rfl⟩
  · show n ≤ (rngD lo n).length
    rw [rngD_len]
    exact Nat.le_refl _
theorem i_rng1 (he : PE X e (tD X.K E m)) (hm : X.mg "range" = none) (hg : Gl X "range" := by rfl) (hs : starEach [e] X.env = [(false, eval e X.env)] := by rfl) (hs' : starEach [e] X.env = (false, eval e X.env) :: starEach [] X.env := by rfl) : PI X tg (.Call (.Name "range" p) [e] [] pos) (iD X.K E (mRng1 m)) := by
  refine (pi_range1 hg hm (pa_cons he pa_nil hs') hs).imp fun σ H R ⟨c, Z, ρ, r, q⟩ => ⟨c, Z, ρ, r, iR.bind q fun d ρ1 v H1 r1 e1 h1 q => ?_⟩
  cases d <;> first | (exact q.elim; done) | skip
  rename_i j
  cases (show v = _ from h1)
  by_cases hl : lim62 j = true
  · have q : iR X.K E c Z σ H1 R (if lim62 j = true then .ok (rngD 0 j.toNat) ρ1 else .fail) := q
    rw [if_pos hl] at q
    obtain ⟨l1, l2⟩ := of_decide_eq_true hl
    exact ⟨j, rfl, l1, l2, q _ [] H1 r1 Ext.refl (fun q hq => by cases hq) wk_rng⟩
  · have q : iR X.K E c Z σ H1 R (if lim62 j = true then .ok (rngD 0 j.toNat) ρ1 else .fail) := q
    rw [if_neg hl] at q
    exact q.elim
theorem i_rng2 (he : PE X e (tD X.K E m)) (he2 : PE X e2 (tD X.K E m')) (hm : X.mg "range" = none) (hg : Gl X "range" := by rfl) (hs : starEach [e, e2] X.env = [(false, eval e X.env), (false, eval e2 X.env)] := by rfl) (hs' : starEach [e, e2] X.env = (false, eval e X.env) :: starEach [e2] X.env := by rfl)
    (hs2 : starEach [e2] X.env = [(false, eval e2 X.env)] := by rfl) (hs2' : starEach [e2] X.env = (false, eval e2 X.env) :: starEach [] X.env := by rfl) : PI X tg (.Call (.Name "range" p) [e, e2] [] pos) (iD X.K E (mRng2 m m')) := by
  refine (pi_range2 hg hm (pa_cons he (pa_cons he2 pa_nil hs2') hs') hs hs2).imp fun σ H R ⟨c, Z, ρ, r, q0⟩ => ⟨c, Z, ρ, r, iR.bind q0 fun d ρ1 v H1 r1 e1 h1 q1 => ⟨c, Z, ρ1, r1, iR.bind q1 fun d' ρ2 v' H2 r2 e2 h2 q => ?_⟩⟩
  split at q
  · rename_i i j
    cases (show v = _ from h1)
    cases (show v' = _ from h2)
    split at q
    · rename_i hl
      obtain ⟨l1, l2⟩ := Bool.and_eq_true_iff.mp hl
      obtain ⟨a1, a2⟩ := of_decide_eq_true l1
      obtain ⟨b1, b2⟩ := of_decide_eq_true l2
      exact ⟨i, j, rfl, ⟨a1, a2, b1, b2⟩, q _ [] H2 r2 Ext.refl (fun q hq => by cases hq) wk_rng⟩
    · exact q.elim
  · exact q.elim
theorem enumD_get : ∀ {l : List D} {k i : Nat} {d : D}, (enumD k l)[i]? = some d → ∃ x, l[i]? = some x ∧ d = .tup [.int ((k + i : Nat) : Int), x]
  | [], k, i, d, h => by simp [enumD] at h
  | a :: r, k, 0, d, h => by
    simp only [enumD, List.getElem?_cons_zero, Option.some.injEq] at h
    exact ⟨a, rfl, h.symm⟩
  | a :: r, k, i + 1, d, h => by
    simp only [enumD, List.getElem?_cons_succ] at h
    obtain ⟨x, h1, h2⟩ := enumD_get h
    refine ⟨x, by simpa using h1, ?_⟩
    rw [h2]
    have e : k + 1 + i = k + (i + 1) := by omega
    rw [e]
theorem enumD_len : ∀ (l : List D) (k : Nat), (enumD k l).length = l.length
  | [], _ => rfl
  | _ :: r, k => congrArg (· + 1) (enumD_len r (k + 1))
theorem wk_enum {a : Addr} {d : D} {l : List D} (hd : d.lis = some l) : WkD K (Ite K a) (enumD 0 l) [(d, .ref a)] := by
  have at_ : ∀ (H : Hp) (Z : Addr → Prop), (∀ q ∈ [(d, V.ref a)], Rep K H Z q.1 q.2) → ∃ vs, SqL K H a vs ∧ Reps K H Z l vs := fun H Z h => by
    obtain ⟨p, vs, e, h1, h2⟩ := D.lis_rep hd (h _ (List.mem_singleton.mpr rfl))
    cases e
    exact ⟨vs, h1, h2⟩
  refine ⟨fun H Z hz h i x hx => ?_, fun H Z h => ?_⟩
  · obtain ⟨vs, h1, h2⟩ := at_ H Z h
    obtain ⟨y, hy, rfl⟩ := enumD_get hx
    obtain ⟨v, hv, rv⟩ := h2.get hy
    refine ⟨⟨vs, v, h1, hv⟩, fun u H' hu => ?_⟩
    obtain ⟨T, x', rfl, hT, rfl, hx'⟩ := hu
    have e := hx' vs h1
    rw [hv] at e
    cases e
    exact ⟨same_upd hT, new_tup hz hT (Reps.cons (by show V.int _ = V.int _; rw [Nat.zero_add]) (Reps.one rv))⟩
  · obtain ⟨vs, h1, h2⟩ := at_ H Z h
    exact ⟨vs, h1, by rw [enumD_len, h2.len]; exact Nat.le_refl _⟩
theorem i_enum {elts : List Expr} {kk : Nat} (he : PE X e (tD X.K E m)) (hm : X.mg "enumerate" = none) (hg : Gl X "enumerate" := by rfl) (hs : starEach [e] X.env = [(false, eval e X.env)] := by rfl) (hs' : starEach [e] X.env = (false, eval e X.env) :: starEach [] X.env := by rfl) : PI X (.Tuple elts kk tpos) (.Call (.Name "enumerate" p) [e] [] pos) (iD X.K E (mEnum m)) := by
  refine (pi_enum hg hm (pa_cons he pa_nil hs') hs).imp fun σ H R ⟨c, Z, ρ, r, q⟩ => ⟨c, Z, ρ, r, iR.bind q fun d ρ1 v H1 r1 e1 h1 q => ?_⟩
  cases e1 : d.lis with
  | none => simp only [e1] at q; exact q.elim
  | some l =>
    simp only [e1] at q
    obtain ⟨a, vs, rfl, g1, g2⟩ := D.lis_rep e1 h1
    exact ⟨a, vs, rfl, g1, q _ _ H1 r1 Ext.refl (fun q hq => by rw [List.mem_singleton.mp hq]; exact h1) (wk_enum e1)⟩
theorem zipD_get : ∀ {l r : List D} {i : Nat} {d : D}, (zipD l r)[i]? = some d → ∃ x y, l[i]? = some x ∧ r[i]? = some y ∧ d = .tup [x, y]
  | [], r, i, d, h => by simp [zipD] at h
  | a :: l, [], i, d, h => by simp [zipD] at h
  | a :: l, b :: r, 0, d, h => by
    simp only [zipD, List.getElem?_cons_zero, Option.some.injEq] at h
    exact ⟨a, b, rfl, rfl, h.symm⟩
  | a :: l, b :: r, i + 1, d, h => by
    simp only [zipD, List.getElem?_cons_succ] at h
    obtain ⟨x, y, h1, h2, h3⟩ := zipD_get h
    exact ⟨x, y, by simpa using h1, by simpa using h2, h3⟩
theorem zipD_len : ∀ (l r : List D), (zipD l r).length = min l.length r.length
  | [], r => by simp [zipD]
  | a :: l, [] => by simp [zipD]
  | a :: l, b :: r => by
    simp only [zipD, List.length_cons, zipD_len l r]
    omega
theorem wk_zip {a b : Addr} {d d' : D} {l r : List D} (hd : d.lis = some l) (hd' : d'.lis = some r) : WkD K (Itz K a b) (zipD l r) [(d, .ref a), (d', .ref b)] := by
  have at_ : ∀ (H : Hp) (Z : Addr → Prop), (∀ q ∈ [(d, V.ref a), (d', V.ref b)], Rep K H Z q.1 q.2) → ∃ vs us, SqL K H a vs ∧ Reps K H Z l vs ∧ SqL K H b us ∧ Reps K H Z r us := fun H Z h => by
    obtain ⟨p, vs, e, h1, h2⟩ := D.lis_rep hd (h (d, .ref a) (by simp))
    obtain ⟨p', us, e', h3, h4⟩ := D.lis_rep hd' (h (d', .ref b) (by simp))
    cases e
    cases e'
    exact ⟨vs, us, h1, h2, h3, h4⟩
  refine ⟨fun H Z hz h i x hx => ?_, fun H Z h => ?_⟩
  · obtain ⟨vs, us, h1, h2, h3, h4⟩ := at_ H Z h
    obtain ⟨x1, y1, hx1, hy1, rfl⟩ := zipD_get hx
    obtain ⟨v, hv, rv⟩ := h2.get hx1
    obtain ⟨u, hu, ru⟩ := h4.get hy1
    refine ⟨⟨vs, us, v, u, h1, h3, hv, hu⟩, fun w H' hw => ?_⟩
    obtain ⟨T, x', y', rfl, hT, rfl, k1, k2⟩ := hw
    have e := k1 vs h1
    have e' := k2 us h3
    rw [hv] at e
    rw [hu] at e'
    cases e
    cases e'
    exact ⟨same_upd hT, new_tup hz hT (Reps.cons rv (Reps.one ru))⟩
  · obtain ⟨vs, us, h1, h2, h3, h4⟩ := at_ H Z h
    have := h2.len
    have := h4.len
    exact ⟨vs, us, h1, h3, by rw [zipD_len]; omega⟩
theorem wk_zipT {a b : Addr} {l r : List D} : WkD K (RZ.ItzT K a b) (zipD l r) [(.tup l, .ref a), (.tup r, .ref b)] := by
  have at_ : ∀ (H : Hp) (Z : Addr → Prop), (∀ q ∈ [(D.tup l, V.ref a), (D.tup r, V.ref b)], Rep K H Z q.1 q.2) → ∃ vs us, SqT K H a vs ∧ Reps K H Z l vs ∧ SqT K H b us ∧ Reps K H Z r us := fun H Z h => by
    have g1 := h (.tup l, .ref a) (by simp)
    have g2 := h (.tup r, .ref b) (by simp)
    simp only [Rep] at g1 g2
    obtain ⟨p, vs, e, h1, h2⟩ := g1
    obtain ⟨p', us, e', h3, h4⟩ := g2
    cases e
    cases e'
    exact ⟨vs, us, h1.sq, h2, h3.sq, h4⟩
  refine ⟨fun H Z hz h i x hx => ?_, fun H Z h => ?_⟩
  · obtain ⟨vs, us, h1, h2, h3, h4⟩ := at_ H Z h
    obtain ⟨x1, y1, hx1, hy1, rfl⟩ := zipD_get hx
    obtain ⟨v, hv, rv⟩ := h2.get hx1
    obtain ⟨u, hu, ru⟩ := h4.get hy1
    refine ⟨⟨vs, us, v, u, h1, h3, hv, hu⟩, fun w H' hw => ?_⟩
    obtain ⟨T, x', y', rfl, hT, rfl, k1, k2⟩ := hw
    have e := k1 vs h1
    have e' := k2 us h3
    rw [hv] at e
    rw [hu] at e'
    cases e
    cases e'
    exact ⟨same_upd hT, new_tup hz hT (Reps.cons rv (Reps.one ru))⟩
  · obtain ⟨vs, us, h1, h2, h3, h4⟩ := at_ H Z h
    have := h2.len
    have := h4.len
    exact ⟨vs, us, h1, h3, by rw [zipD_len]; omega⟩
theorem i_zip {elts : List Expr} {kk : Nat} (he : PE X e (tD X.K E m)) (he2 : PE X e2 (tD X.K E m')) (hm : X.mg "zip" = none) (hg : Gl X "zip" := by rfl) (hs : starEach [e, e2] X.env = (false, eval e X.env) :: starEach [e2] X.env := by rfl) (hs2 : starEach [e2] X.env = (false, eval e2 X.env) :: starEach [] X.env := by rfl)
    (hpl : (backTo pos (starEach [e2] X.env)).any (·.1) = false := by rfl) : PI X (.Tuple elts kk tpos) (.Call (.Name "zip" p) [e, e2] [] pos) (iD X.K E (mZip m m')) := by
  refine (RZ.pi_zipA hg hm (pa_cons he (pa_cons he2 pa_nil hs2) hs) hs hpl).imp fun σ H R ⟨c, Z, ρ, r, q0⟩ => ⟨c, Z, ρ, r, iR.bind q0 fun d ρ1 v H1 r1 e1 h1 q1 => ⟨c, Z, ρ1, r1, iR.bind q1 fun d' ρ2 v' H2 r2 e2 h2 q => ?_⟩⟩
  have h1' := Rep.ext e2 _ _ h1
  split at q
  · rename_i l l'
    have h1'' := h1'
    have h2' : Rep X.K H2 Z (.tup l') v' := h2
    simp only [Rep] at h1'' h2'
    obtain ⟨a, vs, rfl, g1, g2⟩ := h1''
    obtain ⟨b, us, rfl, g3, g4⟩ := h2'
    exact ⟨a, b, vs, us, rfl, .inr ⟨g1.sq, g3.sq, q _ _ H2 r2 Ext.refl (fun q hq => by
      rcases List.mem_cons.mp hq with e | hq
      · rw [e]; exact h1'
      · rw [List.mem_singleton.mp hq]; exact h2) wk_zipT⟩⟩
  · split at q
    · rename_i l l' g1 g2
      obtain ⟨a, vs, rfl, k1, k2⟩ := D.lis_rep g1 h1'
      obtain ⟨b, us, rfl, k3, k4⟩ := D.lis_rep g2 h2
      exact ⟨a, b, vs, us, rfl, .inl ⟨k1, k3, q _ _ H2 r2 Ext.refl (fun q hq => by
        rcases List.mem_cons.mp hq with e | hq
        · rw [e]; exact h1'
        · rw [List.mem_singleton.mp hq]; exact h2) (wk_zip g1 g2)⟩⟩
    · exact q.elim
end
end DL
set_option Elab.async false
set_option linter.all false
set_option maxRecDepth 100000
set_option maxHeartbeats 4000000
namespace DL
open PySem PySem.Spec PyProof.Rows L2
variable [CTab]
/-! ### more data that must stand, for a while -/
def Cz.withEx (c : Cz) (ex : List (D × V)) : Cz := { c with ex := ex ++ c.ex }
section
variable {K : PySem.W.Frag} {c : Cz} {Z : Addr → Prop} {ρ : Env} {σ : St} {H : Hp} {ex : List (D × V)}
theorem Rel.more (r : Rel K c Z ρ σ H) (h : ∀ q ∈ ex, Rep K H Z q.1 q.2) : Rel K (c.withEx ex) Z ρ σ H :=
  ⟨r.frame, r.keep, r.base, r.len, r.dom, r.val, r.own, r.inn, r.inj, fun q hq => (List.mem_append.mp hq).elim (h q) (r.xs q), r.hd⟩
theorem Rel.less (r : Rel K (c.withEx ex) Z ρ σ H) : Rel K c Z ρ σ H :=
  ⟨r.frame, r.keep, r.base, r.len, r.dom, r.val, r.own, r.inn, r.inj, fun q hq => r.xs q (List.mem_append_right _ hq), r.hd⟩
theorem Rel.exs (r : Rel K (c.withEx ex) Z ρ σ H) : ∀ q ∈ ex, Rep K H Z q.1 q.2 := fun q hq => r.xs q (List.mem_append_left _ hq)
theorem RelS.less (r : RelS K (c.withEx ex) ρ σ H) : RelS K c ρ σ H := ⟨r.choose, r.choose_spec.less⟩
end
/-! ### for -/
def forGo (g : MT) (body : M Fl) : List D → Env → Res Fl
  | [], ρ => .ok .nx ρ
  | d :: ds, ρ => match g d ρ with
    | none => .fail
    | some ρ1 => (match body ρ1 with
      | .ok .nx ρ2 => forGo g body ds ρ2
      | .ok .ct ρ2 => forGo g body ds ρ2
      | .ok .bk ρ2 => .ok .nx ρ2
      | r => r)
def mFor (mi : M (List D)) (g : MT) (body : M Fl) : M Fl := fun ρ => bindR (mi ρ) fun ds ρ => forGo g body ds ρ
def whileGo (t : M Bool) (body : M Fl) : Nat → Env → Res Fl
  | 0, _ => .fail
  | n + 1, ρ => bindR (t ρ) fun k ρ1 => if k = true then (match body ρ1 with
      | .ok .nx ρ2 => whileGo t body n ρ2
      | .ok .ct ρ2 => whileGo t body n ρ2
      | .ok .bk ρ2 => .ok .nx ρ2
      | r => r) else .ok .nx ρ1
/-- a while of at most so many turns -/
def mWhile (n : Nat) (t : M Bool) (body : M Fl) : M Fl := whileGo t body n
section
variable {X : Cx} {E : XK} {pos : Pos} {tg iter e : Expr} {body : List Stmt} {mi : M (List D)} {g : MT} {is : List Nat} {b : M Fl} {t : M Bool}
theorem s_for (hp : PassesOwn (model X.prog X.w) X.A X.env X.xe) (hc : X.calm = true) (hi : PI X tg iter (iD X.K E mi)) (hg : PG X tg (tTG X.K is g)) (hb : PSs X body (tS X.K E b)) (hs : ∀ x, foldedSetIterable iter X.env x = pure x := by intro _; rfl) : PS X (.For tg iter body [] pos) (tS X.K E (mFor mi g b)) := by
  refine (ps_for hp hc hi hg hb hs).imp fun Dn σ H h => ?_
  obtain ⟨c, ρ, ⟨Z, r⟩, q⟩ := h
  refine ⟨c, Z, ρ, r, ?_⟩
  unfold mFor at q
  cases em : mi ρ with
  | fail => rw [em] at q; exact q
  | exc x l ρ1 => rw [em] at q; exact fun ed vs H' h1 h2 h3 h4 h5 => q σ ed vs H' ⟨Z, h1⟩ h3 h4 (Reps.zed h1.z0 _ _ h5)
  | ok ds ρ1 =>
    rw [em, bindR_ok] at q
    intro J ex H1 r1 e1 hex wk
    refine ⟨fun i m σ H => m = ds.length - i ∧ i ≤ ds.length ∧ ∃ ρ, RelS X.K (c.withEx ex) ρ σ H ∧ tSR X.K E c Dn (forGo g b (ds.drop i) ρ), ⟨_, rfl, Nat.zero_le _, ρ1, ⟨Z, r1.more hex⟩, q⟩, ?_⟩
    rintro i m σ2 H2 ⟨rfl, hi2, ρ2, ⟨Z2, r2⟩, q2⟩
    by_cases hlt : i < ds.length
    · refine .inr ?_
      have hd : ds[i]? = some ds[i] := List.getElem?_eq_getElem hlt
      obtain ⟨go, yl⟩ := wk.go H2 Z2 r2.dom r2.exs i ds[i] hd
      rw [List.drop_eq_getElem_cons hlt] at q2
      unfold forGo at q2
      cases eg : g ds[i] ρ2 with
      | none => rw [eg] at q2; exact q2.elim
      | some ρ3 =>
        rw [eg] at q2
        simp only at q2
        refine ⟨go, fun σ' H' => ∃ ρ, RelS X.K (c.withEx ex) ρ σ' H' ∧ tSR X.K E c Dn (forGo g b (ds.drop (i + 1)) ρ), fun σ' H' ⟨ρ', r', q'⟩ => ⟨ds.length - (i + 1), by omega, rfl, hlt, ρ', r', q'⟩, fun x H' y => ?_⟩
        obtain ⟨s3, rd⟩ := yl x H' y
        refine ⟨c.withEx ex, Z2, ρ2, ds[i], ρ3, r2.same s3, rd, eg, fun σ4 H4 r4 s4 _ => ⟨c.withEx ex, ρ3, ⟨Z2, r4⟩, ?_⟩⟩
        cases eb : b ρ3 with
        | fail => rw [eb] at q2; exact q2
        | exc x l ρ4 => rw [eb] at q2; exact fun σ ed vs H h1 h2 h3 h4 => q2 σ ed vs H h1.less h2 h3 h4
        | ok f ρ4 =>
          rw [eb] at q2
          cases f with
          | nx => exact fun σ H r => ⟨ρ4, r, q2⟩
          | ct => exact fun σ H r => ⟨ρ4, r, q2⟩
          | bk => exact fun σ H r => q2 σ H r.less
          | rt d => exact fun σ v H r hd => q2 σ v H r.less hd
    · have e0 : i = ds.length := by omega
      subst e0
      rw [List.drop_length] at q2
      exact .inl ⟨wk.stop H2 Z2 r2.exs, q2 σ2 H2 ⟨Z2, r2.less⟩⟩
theorem s_while (n : Nat) (hp : PassesOwn (model X.prog X.w) X.A X.env X.xe) (ht : PT X e (tT X.K E t)) (hb : PSs X body (tS X.K E b)) : PS X (.While e body [] pos) (tS X.K E (mWhile n t b)) := by
  refine (ps_while hp ht hb).imp fun Dn σ H h => ?_
  obtain ⟨c, ρ, r, q⟩ := h
  refine ⟨fun m σ H => ∃ ρ, RelS X.K c ρ σ H ∧ tSR X.K E c Dn (whileGo t b m ρ), ⟨n, ρ, r, q⟩, ?_⟩
  rintro m σ1 H1 ⟨ρ1, ⟨Z, r1⟩, q1⟩
  cases m with
  | zero => exact q1.elim
  | succ m =>
    unfold whileGo at q1
    refine ⟨c, Z, ρ1, r1, tSR.expr q1 fun k ρ2 k' H2 r2 hk q2 => ?_⟩
    cases (show k = k' from hk)
    cases k with
    | false => exact iteF (q2 σ1 H2 ⟨Z, r2⟩)
    | true =>
      rw [if_pos rfl] at q2
      refine iteT ⟨fun σ' H' => ∃ ρ, RelS X.K c ρ σ' H' ∧ tSR X.K E c Dn (whileGo t b m ρ), fun σ' H' ⟨ρ', r', q'⟩ => ⟨m, Nat.lt_succ_self m, ρ', r', q'⟩, c, ρ2, ⟨Z, r2⟩, ?_⟩
      cases eb : b ρ2 with
      | fail => rw [eb] at q2; exact q2
      | exc x l ρ4 => rw [eb] at q2; exact q2
      | ok f ρ4 =>
        rw [eb] at q2
        cases f with
        | nx => exact fun σ H r => ⟨ρ4, r, q2⟩
        | ct => exact fun σ H r => ⟨ρ4, r, q2⟩
        | bk => exact fun σ H r => q2 σ H r
        | rt d => exact fun σ v H r hd => q2 σ v H r hd
end
/-! ### comprehensions -/
def notOwn (ρ : Env) (i : Nat) : Bool := match ρ[i]? with
  | some (some (.own _)) => false
  | some (some (.inn _)) => false
  | _ => true
def wipeE (ρ : Env) : List Nat → Env
  | [] => ρ
  | v :: vs => (wipeE ρ vs).set v none
/-- the slots vs as in ρ, the others as in ρ' -/
def restore (ρ ρ' : Env) : List Nat → Env
  | [] => ρ'
  | v :: vs => (restore ρ ρ' vs).set v ((ρ[v]?).getD none)
def lcGo (vs : List Nat) (g : MT) (t : M Bool) (m : M D) : List D → Env → Res (List D)
  | [], ρ => .ok [] ρ
  | d :: ds, ρ => match g d (wipeE ρ vs) with
    | none => .fail
    | some ρ1 => bindR (t ρ1) fun k ρ2 => if k = true then bindR (m ρ2) fun y ρ3 => bindR (lcGo vs g t m ds (restore ρ ρ3 vs)) fun ys ρ4 => .ok (y :: ys) ρ4
      else lcGo vs g t m ds (restore ρ ρ2 vs)
def mLc (vs : List Nat) (mi : M (List D)) (g : MT) (t : M Bool) (m : M D) : M (List D) := fun ρ => bindR (mi ρ) fun ds ρ => if (vs.all (notOwn ρ) && decide (ds.length ≤ sizeLine)) = true then lcGo vs g t m ds ρ else .fail
def mTrue : M Bool := fun ρ => .ok true ρ
def mLcD (m : M (List D)) : M D := fun ρ => bindR (m ρ) fun l ρ => .ok (.lst l) ρ
def oLc (m : M (List D)) : M Ct := fun ρ => bindR (m ρ) fun l ρ => .ok (.lst l) ρ
section
variable {K : PySem.W.Frag} {c : Cz} {Z : Addr → Prop} {ρ ρ' : Env} {σ σ' : St} {H H' : Hp} {vs : List Nat}
theorem wipeE_len : ∀ vs : List Nat, (wipeE ρ vs).length = ρ.length
  | [] => rfl
  | v :: vs => by simp [wipeE, wipeE_len vs]
theorem Rel.wipe (r : Rel K c Z ρ σ H) : ∀ vs : List Nat, Rel K c Z (wipeE ρ vs) (L2.wipe σ vs) H
  | [] => r
  | v :: vs => by
    have r1 := (Rel.wipe r vs).drop v
    -- the slot itself is emptied too
    have at_ : ∀ {j : Nat} {w : W}, ((wipeE ρ vs).set v none)[j]? = some (some w) → ((L2.wipe σ vs).set v none)[j]? = (L2.wipe σ vs)[j]? := fun {j w} h => by
      by_cases e : v = j
      · subst e
        have hl : v < (wipeE ρ vs).length := by
          have := (List.getElem?_eq_some_iff.mp h).1
          simpa using this
        rw [List.getElem?_set_self hl] at h
        cases h
      · rw [List.getElem?_set_ne e]
    show Rel K c Z ((wipeE ρ vs).set v none) ((L2.wipe σ vs).set v none) H
    refine ⟨r1.frame, r1.keep, r1.base, by simp [r1.len], r1.dom, fun i d h => ?_, fun i t h => ?_, fun i t h => ?_, fun i j p hi hj h1 h2 => ?_, r1.xs, fun q hq => ?_⟩
    · obtain ⟨u, h1, h2⟩ := r1.val i d h
      exact ⟨u, by rw [at_ h]; exact h1, h2⟩
    · obtain ⟨p, h1, h2⟩ := r1.own i t h
      exact ⟨p, by rw [at_ h]; exact h1, h2⟩
    · obtain ⟨p, h1, h2⟩ := r1.inn i t h
      exact ⟨p, by rw [at_ h]; exact h1, h2⟩
    · obtain ⟨t, ht⟩ := id hi
      obtain ⟨u, hu⟩ := id hj
      rw [ht.elim at_ at_] at h1
      rw [hu.elim at_ at_] at h2
      exact r1.inj i j p hi hj h1 h2
    · obtain ⟨g1, g2, g3⟩ := r1.hd q hq
      refine ⟨g1, g2, fun j hj e => ?_⟩
      obtain ⟨t, ht⟩ := id hj
      rw [ht.elim at_ at_] at e
      exact g3 j hj e
theorem restore_at : ∀ (vs : List Nat) (j : Nat), ρ'.length = ρ.length → (restore ρ ρ' vs)[j]? = if j ∈ vs then ρ[j]? else ρ'[j]?
  | [], j, _ => by simp [restore]
  | v :: vs, j, hl => by
    have ih := restore_at vs j hl
    have len : ∀ vs, (restore ρ ρ' vs).length = ρ'.length := by
      intro vs
      induction vs with
      | nil => rfl
      | cons a r ih => simp [restore, ih]
    unfold restore
    by_cases e : v = j
    · subst e
      by_cases hv : v < ρ.length
      · rw [List.getElem?_set_self (by rw [len, hl]; exact hv), if_pos List.mem_cons_self, List.getElem?_eq_getElem hv]
        rfl
      · rw [if_pos List.mem_cons_self, List.getElem?_eq_none (by simp [len, hl]; omega), List.getElem?_eq_none (by omega)]
    · rw [List.getElem?_set_ne e, ih]
      have e2 : ¬ j = v := fun z => e z.symm
      simp [e2]
theorem restore_len : ∀ vs : List Nat, (restore ρ ρ' vs).length = ρ'.length
  | [] => rfl
  | v :: vs => by simp [restore, restore_len vs]
theorem wipe_at : ∀ (vs : List Nat) (j : Nat), j ∉ vs → (L2.wipe σ vs)[j]? = σ[j]?
  | [], j, _ => rfl
  | v :: vs, j, h => by
    simp only [List.mem_cons, not_or] at h
    show ((L2.wipe σ vs).set v none)[j]? = σ[j]?
    rw [List.getElem?_set_ne (Ne.symm h.1), wipe_at vs j h.2]
theorem notOwn_no {i : Nat} (h : notOwn ρ i = true) : ¬ isOwn ρ i := fun ⟨t, e⟩ => by
  unfold notOwn at h
  rcases e with e | e <;> (rw [e] at h; cases h)
/-- behind an item -/
theorem Rel.back (r : Rel K c Z ρ σ H) (r' : Rel K c Z ρ' σ' H') (hn : ∀ v ∈ vs, notOwn ρ v = true) (e : Ext Z H H') (o : ∀ j, j ∉ vs → σ'[j]? = σ[j]?) (hl : σ'.length = σ.length) : Rel K c Z (restore ρ ρ' vs) σ H' := by
  have hlen : ρ'.length = ρ.length := by rw [r'.len, r.len, hl]
  have at_ : ∀ j, (restore ρ ρ' vs)[j]? = if j ∈ vs then ρ[j]? else ρ'[j]? := fun j => restore_at vs j hlen
  have own' : ∀ j, isOwn (restore ρ ρ' vs) j → j ∉ vs ∧ isOwn ρ' j := fun j ⟨t, h⟩ => by
    rw [at_] at h
    by_cases hj : j ∈ vs
    · rw [if_pos hj] at h
      exact absurd ⟨t, h⟩ (notOwn_no (hn j hj))
    · rw [if_neg hj] at h
      exact ⟨hj, t, h⟩
  refine ⟨r'.frame, r'.keep, r'.base, by rw [restore_len, hlen, r.len], r'.dom, fun j d h => ?_, fun j t h => ?_, fun j t h => ?_, fun i j p hi hj h1 h2 => ?_, r'.xs, fun q hq => ?_⟩
  · rw [at_] at h
    by_cases hj : j ∈ vs
    · rw [if_pos hj] at h
      obtain ⟨v, h1, h2⟩ := r.val j d h
      exact ⟨v, h1, h2.ext e⟩
    · rw [if_neg hj] at h
      obtain ⟨v, h1, h2⟩ := r'.val j d h
      exact ⟨v, by rw [← o j hj]; exact h1, h2⟩
  · obtain ⟨hj, _⟩ := own' j ⟨t, .inl h⟩
    rw [at_, if_neg hj] at h
    obtain ⟨p, h1, h2⟩ := r'.own j t h
    exact ⟨p, by rw [← o j hj]; exact h1, h2⟩
  · obtain ⟨hj, _⟩ := own' j ⟨t, .inr h⟩
    rw [at_, if_neg hj] at h
    obtain ⟨p, h1, h2⟩ := r'.inn j t h
    exact ⟨p, by rw [← o j hj]; exact h1, h2⟩
  · obtain ⟨a1, a2⟩ := own' i hi
    obtain ⟨b1, b2⟩ := own' j hj
    rw [← o i a1] at h1
    rw [← o j b1] at h2
    exact r'.inj i j p a2 b2 h1 h2
  · obtain ⟨g1, g2, g3⟩ := r'.hd q hq
    refine ⟨g1, g2, fun j hj ej => ?_⟩
    obtain ⟨a1, a2⟩ := own' j hj
    rw [← o j a1] at ej
    exact g3 j a2 ej
end
end DL
set_option Elab.async false
set_option linter.all false
set_option maxRecDepth 100000
set_option maxHeartbeats 4000000
namespace DL
open PySem PySem.Spec PyProof.Rows L2
variable [CTab]
/-! ### a new list that no slot holds, while a comprehension runs -/
def Cz.withHid (c : Cz) (D : Addr) (t : Ct) : Cz := { c with hid := (D, t) :: c.hid }
section
variable {K : PySem.W.Frag} {c : Cz} {Z : Addr → Prop} {ρ ρ' : Env} {σ σ' : St} {H H' : Hp} {vs : List Nat} {D : Addr} {t t' : Ct}
theorem NewAt.hide (n : NewAt K c Z ρ σ H t D) : Rel K (c.withHid D t) Z ρ σ H :=
  ⟨n.rel.frame, n.rel.keep, n.rel.base, n.rel.len, n.rel.dom, n.rel.val, n.rel.own, n.rel.inn, n.rel.inj, n.rel.xs, fun q hq => by
    rcases List.mem_cons.mp hq with e | hq
    · subst e
      exact ⟨n.z, n.at_, n.no⟩
    · exact n.rel.hd q hq⟩
theorem Rel.hidAt (r : Rel K (c.withHid D t) Z ρ σ H) : Z D ∧ RepC K H Z t D ∧ ∀ j, isOwn ρ j → σ[j]? ≠ some (some (.ref D)) := r.hd (D, t) List.mem_cons_self
theorem Rel.unhide (r : Rel K (c.withHid D t) Z ρ σ H) : Rel K c Z ρ σ H :=
  ⟨r.frame, r.keep, r.base, r.len, r.dom, r.val, r.own, r.inn, r.inj, r.xs, fun q hq => r.hd q (List.mem_cons_of_mem _ hq)⟩
theorem Rel.showAt (r : Rel K (c.withHid D t) Z ρ σ H) (h0 : c.H0 D = none) (hn : ∀ q ∈ c.hid, q.1 ≠ D) : NewAt K c Z ρ σ H t D :=
  ⟨r.unhide, r.hidAt.1, h0, r.hidAt.2.1, r.hidAt.2.2, hn⟩
/-- the new thing alone has changed -/
theorem Rel.putHid (r : Rel K (c.withHid D t) Z ρ σ H) (h0 : c.H0 D = none) (hn : ∀ q ∈ c.hid, q.1 ≠ D) (hk : ∀ a o, a ≠ D → H a = some o → H' a = some o) (h' : RepC K H' Z t' D) : Rel K (c.withHid D t') Z ρ σ H' := by
  obtain ⟨hz, hc, ho⟩ := r.hidAt
  have e0 : Ext Z H H' := fun a o n e => hk a o (fun q => n (by rw [q]; exact hz)) e
  have alive : ∀ a, H' a = none → H a = none := fun a e => by
    cases q : H a with
    | none => rfl
    | some o =>
      by_cases ha : a = D
      · obtain ⟨o', ho⟩ := h'.some
        rw [ha, ho] at e
        cases e
      · rw [hk a o ha q] at e
        cases e
  have keepC : ∀ {q u}, q ≠ D → RepC K H Z u q → RepC K H' Z u q := fun {q u} hne hu => by
    obtain ⟨o, ho⟩ := hu.some
    exact hu.ext e0 (by rw [hk q o hne ho, ho])
  refine ⟨fun a o n e => ?_, fun a e => r.keep a (alive a e), r.base, r.len, fun a z e => r.dom a z (alive a e), fun j d hd => ?_, fun j u hu => ?_, fun j u hu => ?_, r.inj, fun q hq => (r.xs q hq).ext e0, fun q hq => ?_⟩
  · refine hk a o (fun q => ?_) (r.frame a o n e)
    subst q
    have e : c.H0 a = some o := e
    rw [h0] at e
    cases e
  · obtain ⟨v, q1, q2⟩ := r.val j d hd
    exact ⟨v, q1, q2.ext e0⟩
  · obtain ⟨q, q1, q2, q3, q4⟩ := r.own j u hu
    exact ⟨q, q1, q2, q3, keepC (fun e => ho j ⟨u, .inl hu⟩ (by rw [q1, e])) q4⟩
  · obtain ⟨q, q1, q2, q3, q4⟩ := r.inn j u hu
    exact ⟨q, q1, q2, q3, keepC (fun e => ho j ⟨u, .inr hu⟩ (by rw [q1, e])) q4⟩
  · rcases List.mem_cons.mp hq with e | hq
    · subst e
      exact ⟨hz, h', ho⟩
    · obtain ⟨g1, g2, g3⟩ := r.hd q (List.mem_cons_of_mem _ hq)
      exact ⟨g1, keepC (hn q hq) g2, g3⟩
/-- without D among what may change -/
theorem NewAt.frz (n : NewAt K c Z ρ σ H t D) {Y : Addr → Prop} (hY : ∀ a, Z a ↔ (Y a ∨ a = D)) (hD : ¬ Y D) : Rel K c Y ρ σ H ∧ Rep K H Y t.toD (.ref D) := by
  have r := n.rel
  have zs : ∀ a o, ¬ Z a → H a = some o → ¬ Y a := fun a o n _ y => n ((hY a).mpr (.inl y))
  refine ⟨⟨r.frame, r.keep, fun a z => ⟨?_, (r.base a z).2⟩, r.len, fun a z => r.dom a ((hY a).mpr (.inl z)), fun j d hd => ?_, fun j u hu => ?_, fun j u hu => ?_, r.inj, fun q hq => (r.xs q hq).zed zs, fun q hq => ?_⟩, ?_⟩
  · rcases (hY a).mp (r.base a z).1 with y | e
    · exact y
    · exact absurd n.new (by rw [← e]; exact (r.base a z).2)
  · obtain ⟨v, q1, q2⟩ := r.val j d hd
    exact ⟨v, q1, q2.zed zs⟩
  · obtain ⟨q, q1, q2, q3, q4⟩ := r.own j u hu
    refine ⟨q, q1, ((hY q).mp q2).resolve_right fun e => n.no j ⟨u, .inl hu⟩ (by rw [q1, e]), q3, q4.zed zs⟩
  · obtain ⟨q, q1, q2, q3, q4⟩ := r.inn j u hu
    refine ⟨q, q1, ((hY q).mp q2).resolve_right fun e => n.no j ⟨u, .inr hu⟩ (by rw [q1, e]), q3, q4.zed zs⟩
  · obtain ⟨g1, g2, g3⟩ := r.hd q hq
    exact ⟨((hY _).mp g1).resolve_right (n.nh q hq), g2.zed zs, g3⟩
  · obtain ⟨o, h1, h2⟩ := n.at_
    exact CtHO.toD hD h1 (h2.zed zs)
theorem wipe_len : ∀ vs : List Nat, (L2.wipe σ vs).length = σ.length
  | [] => rfl
  | v :: vs => by
    show ((L2.wipe σ vs).set v none).length = σ.length
    rw [List.length_set, wipe_len vs]
theorem wipe_get : ∀ (vs : List Nat) (j : Nat), (L2.wipe σ vs)[j]? = if j ∈ vs ∧ j < σ.length then some none else σ[j]?
  | [], j => by simp [L2.wipe]
  | v :: vs, j => by
    show ((L2.wipe σ vs).set v none)[j]? = _
    by_cases e : v = j
    · subst e
      by_cases hv : v < σ.length
      · rw [List.getElem?_set_self (by rw [wipe_len]; exact hv), if_pos ⟨List.mem_cons_self, hv⟩]
      · rw [if_neg (fun h => hv h.2), List.getElem?_eq_none (by simp [wipe_len]; omega), List.getElem?_eq_none (by omega)]
    · rw [List.getElem?_set_ne e, wipe_get vs j]
      have e2 : ¬ j = v := fun z => e z.symm
      simp [e2]
theorem wipe_eq (hl : σ'.length = σ.length) (h : ∀ j, j ∉ vs → σ'[j]? = σ[j]?) : L2.wipe σ' vs = L2.wipe σ vs := by
  apply List.ext_getElem?
  intro j
  rw [wipe_get, wipe_get, hl]
  by_cases hj : j ∈ vs
  · by_cases hlt : j < σ.length
    · simp [hj, hlt]
    · rw [if_neg (fun h => hlt h.2), if_neg (fun h => hlt h.2), List.getElem?_eq_none (by omega), List.getElem?_eq_none (by omega)]
  · simp [hj, h j hj]
end
/-! ### list comprehensions with one for -/
abbrev E0 : XK := fun _ _ _ => False
def noX {α : Type} : Res α → Res α
  | .exc _ _ _ => .fail
  | r => r
def lcIt (vs : List Nat) (g : MT) (t : M Bool) (m : M D) (d : D) (ρ : Env) : Res (Option D) := match g d (wipeE ρ vs) with
  | none => .fail
  | some ρ1 => (match t ρ1 with
    | .ok true ρ2 => (match m ρ2 with
      | .ok y ρ3 => .ok (some y) (restore ρ ρ3 vs)
      | _ => .fail)
    | .ok false ρ2 => .ok none (restore ρ ρ2 vs)
    | _ => .fail)
def lcs (f : D → Env → Res (Option D)) : List D → Env → Res (List D)
  | [], ρ => .ok [] ρ
  | d :: ds, ρ => match f d ρ with
    | .ok o ρ1 => (match lcs f ds ρ1 with
      | .ok ys ρ2 => .ok (match o with | some y => y :: ys | none => ys) ρ2
      | r => r)
    | _ => .fail
/-- the items of a comprehension -/
def mComp (vs : List Nat) (mi : M (List D)) (g : MT) (t : M Bool) (m : M D) : M (List D) := fun ρ => bindR (mi ρ) fun ds ρ => if (vs.all (notOwn ρ) && decide (ds.length ≤ sizeLine)) = true then lcs (lcIt vs g t m) ds ρ else .fail
section
variable {K : PySem.W.Frag} {c : Cz} {Z : Addr → Prop} {ρ ρ' : Env} {σ σ' : St} {H H' : Hp} {vs is : List Nat} {t : Ct} {mi : M (List D)} {g : MT} {tt : M Bool} {m : M D}
theorem notOwn_back (hl : ρ'.length = ρ.length) (h : ∀ v ∈ vs, notOwn ρ v = true) : ∀ v ∈ vs, notOwn (restore ρ ρ' vs) v = true := fun v hv => by
  have e : (restore ρ ρ' vs)[v]? = ρ[v]? := by rw [restore_at vs v hl, if_pos hv]
  have h := h v hv
  unfold notOwn at h ⊢
  rw [e]
  exact h
theorem lcs_len {f : D → Env → Res (Option D)} : ∀ {ds : List D} {ρ ρ' : Env} {ys : List D}, lcs f ds ρ = .ok ys ρ' → ys.length ≤ ds.length
  | [], ρ, ρ', ys, h => by cases h; exact Nat.le_refl _
  | d :: ds, ρ, ρ', ys, h => by
    unfold lcs at h
    split at h
    · rename_i o ρ1 e1
      split at h
      · rename_i zs ρ2 e2
        have := lcs_len e2
        cases h
        cases o <;> simp <;> omega
      · rename_i r hr
        exact absurd h (hr _ _)
    · cases h
theorem lcs_noexc {f : D → Env → Res (Option D)} {x : Nat} {l : List D} : ∀ {ds : List D} {ρ ρ' : Env}, lcs f ds ρ ≠ .exc x l ρ'
  | [], ρ, ρ', h => by cases h
  | d :: ds, ρ, ρ', h => by
    unfold lcs at h
    split at h
    · split at h
      · cases h
      · exact lcs_noexc h
    · cases h
theorem lc_gen {σ : St} {H : Hp} {Q : VK} {E : XK} (hg : ∀ j ∈ is, j ∈ vs)
    (h : ∃ c Z ρ, Rel K c Z ρ σ H ∧ match mComp vs mi g tt m ρ with
      | .fail => False
      | .exc x l ρ' => ∀ ed us H', Rel K c Z ρ' σ H' → Ext Z H H' → H' ed = some (.xd ((cF x).zip us)) → us.length ≤ (cF x).length → Reps K H' Z l us → E (.ref (He.ga K (cN x))) (some ed) H'
      | .ok l ρ' => ∀ D H1 H', H1 D = none → Ext Z H H1 → (∀ p, Z p → H1 p ≠ none) → NewAt K c (fun a => Z a ∨ a = D) ρ' σ H' (.lst l) D → Ext (fun a => Z a ∨ a = D) H1 H' → Q (.ref D) H') :
    tLc (iD K E mi) (tTG K is g) (tT K E0 tt) (tD K E0 m) vs σ H Q := by
  obtain ⟨c, Z, ρ, r, q⟩ := h
  refine ⟨c, Z, ρ, r, ?_⟩
  unfold mComp at q
  cases em : mi ρ with
  | fail => rw [em] at q; exact q
  | exc x l ρ1 => rw [em] at q; exact q
  | ok ds ρ1 =>
    rw [em, bindR_ok] at q
    intro J ex H1 r1 e1 hex wk D hD
    split at q
    · exact q.elim
    · rename_i x l ρ' hx
      exfalso
      split at hx
      · exact lcs_noexc hx
      · cases hx
    · rename_i l ρF hx
      split at hx
      · rename_i hb
        obtain ⟨hno, hlen⟩ := Bool.and_eq_true_iff.mp hb
        have hno : ∀ v ∈ vs, notOwn ρ1 v = true := by simpa using hno
        have hlen : ds.length ≤ sizeLine := of_decide_eq_true hlen
        have fin := fun H' => q D H1 H' hD e1 r1.dom
        clear q em
        have n0 := (r1.more hex).newAt (p := D) (o := .lst []) (t := .lst []) hD ⟨[], rfl, Reps.nil⟩
        refine ⟨fun i k H => k = ds.length - i ∧ i ≤ ds.length ∧ ∃ ys ρ zs, ys.length ≤ i ∧ Rel K ((c.withEx ex).withHid D (.lst ys)) (fun a => Z a ∨ a = D) ρ σ H ∧ Ext (fun a => Z a ∨ a = D) H1 H ∧ (∀ v ∈ vs, notOwn ρ v = true) ∧ lcs (lcIt vs g tt m) (ds.drop i) ρ = .ok zs ρF ∧ ys ++ zs = l,
          ⟨_, rfl, Nat.zero_le _, [], ρ1, l, Nat.zero_le _, n0.hide, fun a o nz e => by rw [upd_ne (fun z => nz (.inr z))]; exact e, hno, hx, rfl⟩, ?_⟩
        rintro i k H2 ⟨rfl, hi, ys, ρ2, zs, hys, r2, e2, hno2, hgo, hl⟩
        by_cases hlt : i < ds.length
        · refine .inr ?_
          have hd : ds[i]? = some ds[i] := List.getElem?_eq_getElem hlt
          obtain ⟨go, yl⟩ := wk.go H2 _ r2.dom (fun q hq => r2.xs q (List.mem_append_left _ hq)) i ds[i] hd
          rw [List.drop_eq_getElem_cons hlt] at hgo
          unfold lcs at hgo
          cases ef : lcIt vs g tt m ds[i] ρ2 with
          | fail => rw [ef] at hgo; cases hgo
          | exc _ _ _ => rw [ef] at hgo; cases hgo
          | ok o ρ3 =>
            rw [ef] at hgo
            simp only at hgo
            cases er : lcs (lcIt vs g tt m) (ds.drop (i + 1)) ρ3 with
            | fail => rw [er] at hgo; cases hgo
            | exc _ _ _ => rw [er] at hgo; cases hgo
            | ok ws ρ4 =>
              rw [er] at hgo
              simp only at hgo
              refine ⟨go, fun H' => ∃ ys', ys'.length ≤ i + 1 ∧ Rel K ((c.withEx ex).withHid D (.lst ys')) (fun a => Z a ∨ a = D) ρ3 σ H' ∧ Ext (fun a => Z a ∨ a = D) H1 H' ∧ (∀ v ∈ vs, notOwn ρ3 v = true) ∧ ys' ++ ws = l,
                fun H' ⟨ys', k1, k2, k3, k4, k5⟩ => ⟨ds.length - (i + 1), by omega, rfl, hlt, ys', ρ3, ws, k1, k2, k3, k4, by rw [er]; cases hgo; rfl, k5⟩, fun x H' y => ?_⟩
              obtain ⟨s3, rd⟩ := yl x H' y
              unfold lcIt at ef
              split at ef
              · cases ef
              · rename_i ρg hgd
                refine ⟨_, _, _, _, ρg, (r2.same s3).wipe vs, rd, hgd, fun σ4 H4 r4 s4 o4 => ?_⟩
                have out4 : ∀ j, j ∉ vs → σ4[j]? = σ[j]? := fun j hj => (o4.2 j fun z => hj (hg j z)).trans (wipe_at vs j hj)
                have len4 : σ4.length = σ.length := by rw [o4.1, wipe_len]
                refine ⟨(wipe_eq len4 out4), _, _, _, r4, ?_⟩
                split at ef
                · rename_i ρt ht
                  rw [ht]
                  intro b H5 r5 e5 hb5
                  cases (show true = b from hb5)
                  rw [if_pos rfl]
                  refine ⟨_, _, _, r5, ?_⟩
                  split at ef
                  · rename_i yv ρy hy
                    rw [hy]
                    intro v H6 r6 e6 hv
                    cases ef
                    have ex6 : Ext (fun a => Z a ∨ a = D) H2 H6 := ((Ext.same s3).trans (Ext.same s4)).trans (e5.trans e6)
                    have rb := Rel.back (r2) r6 hno2 ex6 out4 len4
                    obtain ⟨hz, ⟨o, ho, us, rfl, hus⟩, _⟩ := r6.hidAt
                    refine ⟨us, ho, by rw [← hus.len]; omega, ys ++ [yv], by simp; omega, rb.putHid n0.new n0.nh (fun a o ne e => by rw [upd_ne ne]; exact e) ⟨_, upd_same, _, rfl, ?_⟩, ?_, notOwn_back (by rw [r6.len, r2.len, len4]) hno2, ?_⟩
                    · have ex7 : Ext (fun a => Z a ∨ a = D) H6 (upd H6 D (.lst (us ++ [v]))) := fun a o nz e => by rw [upd_ne (fun z => nz (.inr z))]; exact e
                      exact (Reps.ext ex7 _ _ hus).app (Reps.one (Rep.ext ex7 _ _ hv))
                    · exact e2.trans (ex6.trans fun a o nz e => by rw [upd_ne (fun z => nz (.inr z))]; exact e)
                    · cases hgo
                      rw [← hl]
                      simp
                  · cases ef
                · rename_i ρt ht
                  rw [ht]
                  intro b H5 r5 e5 hb5
                  cases (show false = b from hb5)
                  rw [if_neg (by decide)]
                  cases ef
                  have ex6 : Ext (fun a => Z a ∨ a = D) H2 H5 := ((Ext.same s3).trans (Ext.same s4)).trans e5
                  refine ⟨ys, by omega, Rel.back r2 r5 hno2 ex6 out4 len4, e2.trans ex6, notOwn_back (by rw [r5.len, r2.len, len4]) hno2, ?_⟩
                  cases hgo
                  rw [← hl]
                · cases ef
        · have e0 : i = ds.length := by omega
          subst e0
          rw [List.drop_length] at hgo
          cases hgo
          rw [List.append_nil] at hl
          subst hl
          have rl : Rel K (c.withHid D (.lst ys)) (fun a => Z a ∨ a = D) _ σ H2 := ⟨r2.frame, r2.keep, r2.base, r2.len, r2.dom, r2.val, r2.own, r2.inn, r2.inj, fun q hq => r2.xs q (List.mem_append_right _ hq), r2.hd⟩
          exact .inl ⟨wk.stop H2 _ (fun q hq => r2.xs q (List.mem_append_left _ hq)), fin H2 (rl.showAt n0.new n0.nh) e2⟩
      · cases hx
end
end DL
set_option Elab.async false
set_option linter.all false
set_option maxRecDepth 100000
set_option maxHeartbeats 4000000
namespace DL
open PySem PySem.Spec PyProof.Rows L2
variable [CTab]
section
variable {X : Cx} {E : XK} {pos spos py : Pos} {elt tg iter e : Expr} {ifs : List Expr} {scope : Scope} {own : List (Str × Nat)} {vs is : List Nat} {mi : M (List D)} {g : MT} {t : M Bool} {m : M D} {y : Str}
theorem ts_nil : PTs X [] (tT X.K E mTrue) := ⟨fun pins s σ H Q I h => pts_nil.run pins s σ H Q I (by
  obtain ⟨c, Z, ρ, r, q⟩ := h
  exact q true H r Ext.refl rfl)⟩
theorem ts_one (h : PT X e (tT X.K E t)) : PTs X [e] (tT X.K E t) := pts_one h
theorem ext_or {Z : Addr → Prop} {D : Addr} {H H' : Hp} (e : Ext (fun a => Z a ∨ a = D) H H') (h : H D = none) : Ext Z H H' := fun a o nz ea => e a o (fun z => z.elim nz fun q => by rw [q, h] at ea; cases ea) ea
theorem lcD {K : PySem.W.Frag} {σ : St} {H : Hp} {Q : VK} (hg : ∀ j ∈ is, j ∈ vs) (h : tD K E (mLcD (mComp vs mi g t m)) σ H Q) : tLc (iD K E mi) (tTG K is g) (tT K E0 t) (tD K E0 m) vs σ H Q := by
  obtain ⟨c, Z, ρ, r, q⟩ := h
  refine lc_gen hg ⟨c, Z, ρ, r, ?_⟩
  unfold mLcD at q
  cases ec : mComp vs mi g t m ρ with
  | fail => rw [ec] at q; exact q
  | exc x l ρ' => rw [ec] at q; exact q
  | ok l ρ' =>
    rw [ec] at q
    intro D H1 H' hD e1 hz n e2
    have hnz : ¬ Z D := fun z => hz D z hD
    obtain ⟨r', rp⟩ := n.frz (Y := Z) (fun a => Iff.rfl) hnz
    exact q (.ref D) H' r' (e1.trans (ext_or e2 hD)) rp
theorem lcO {K : PySem.W.Frag} {σ : St} {H : Hp} {Q : VK} (hg : ∀ j ∈ is, j ∈ vs) (h : tO K E (oLc (mComp vs mi g t m)) σ H Q) : tLc (iD K E mi) (tTG K is g) (tT K E0 t) (tD K E0 m) vs σ H Q := by
  obtain ⟨c, Z, ρ, r, q⟩ := h
  refine lc_gen hg ⟨c, Z, ρ, r, ?_⟩
  unfold oLc at q
  cases ec : mComp vs mi g t m ρ with
  | fail => rw [ec] at q; exact q
  | exc x l ρ' => rw [ec] at q; exact fun ed us H' h1 h2 h3 h4 h5 => q ed us H' h1 h3 h4 h5
  | ok l ρ' =>
    rw [ec] at q
    exact fun D H1 H' hD e1 hz n e2 => q D _ H' n fun d v hd => ((hd.ext e1).zed fun a u nz e z => z.elim nz fun q => by rw [q, hD] at e; cases e).ext e2
/-- [elt for tg in iter if ..] -/
theorem d_lc (own : List (Str × Nat)) (hc : X.calm = true) (hN : X.N.Nodup) (ok : BlkOk X.N X.env.scope scope own) (hg0 : ∀ j ∈ is, j ∈ own.map (·.2)) (hi : PI X tg iter (iD X.K E mi))
    (hg : ∀ (s : Shared) (H : Hp) (C : Addr) (cl : List (Str × Addr)) (fp : List Addr), PG (X.blk s H scope (compEnvC scope cl C X.env) fp) tg (tTG X.K is g)) (ht : ∀ (s : Shared) (H : Hp) (C : Addr) (cl : List (Str × Addr)) (fp : List Addr), PTs (X.blk s H scope (compEnvC scope cl C X.env) fp) ifs (tT X.K E0 t))
    (he : ∀ (s : Shared) (H : Hp) (C : Addr) (cl : List (Str × Addr)) (fp : List Addr), PE (X.blk s H scope (compEnvC scope cl C X.env) fp) elt (tD X.K E0 m)) (hs : ∀ x, foldedSetIterable iter X.env x = pure x := by intro _; rfl) :
    PE X (.ListComp elt [⟨tg, iter, ifs, 0⟩] scope pos) (tD X.K E (mLcD (mComp (own.map (·.2)) mi g t m))) :=
  (pe_lc hc hN hi ok hg ht he hs).imp fun _ _ _ h => lcD hg0 h
theorem o_lc (own : List (Str × Nat)) (hc : X.calm = true) (hN : X.N.Nodup) (ok : BlkOk X.N X.env.scope scope own) (hg0 : ∀ j ∈ is, j ∈ own.map (·.2)) (hi : PI X tg iter (iD X.K E mi))
    (hg : ∀ (s : Shared) (H : Hp) (C : Addr) (cl : List (Str × Addr)) (fp : List Addr), PG (X.blk s H scope (compEnvC scope cl C X.env) fp) tg (tTG X.K is g)) (ht : ∀ (s : Shared) (H : Hp) (C : Addr) (cl : List (Str × Addr)) (fp : List Addr), PTs (X.blk s H scope (compEnvC scope cl C X.env) fp) ifs (tT X.K E0 t))
    (he : ∀ (s : Shared) (H : Hp) (C : Addr) (cl : List (Str × Addr)) (fp : List Addr), PE (X.blk s H scope (compEnvC scope cl C X.env) fp) elt (tD X.K E0 m)) (hs : ∀ x, foldedSetIterable iter X.env x = pure x := by intro _; rfl) :
    PE X (.ListComp elt [⟨tg, iter, ifs, 0⟩] scope pos) (tO X.K E (oLc (mComp (own.map (·.2)) mi g t m))) :=
  (pe_lc hc hN hi ok hg ht he hs).imp fun _ _ _ h => lcO hg0 h
/-- y = [..], y a local, all on one line -/
theorem s_setLc (i : Nat) (own : List (Str × Nat)) (hc : X.calm = true) (hN : X.N.Nodup) (ok : BlkOk X.N X.env.scope scope own) (hg0 : ∀ j ∈ is, j ∈ own.map (·.2)) (hi : PI X tg iter (iD X.K E mi))
    (hg : ∀ (s : Shared) (H : Hp) (C : Addr) (cl : List (Str × Addr)) (fp : List Addr), PG (X.blk s H scope (compEnvC scope cl C X.env) fp) tg (tTG X.K is g)) (ht : ∀ (s : Shared) (H : Hp) (C : Addr) (cl : List (Str × Addr)) (fp : List Addr), PTs (X.blk s H scope (compEnvC scope cl C X.env) fp) ifs (tT X.K E0 t))
    (he : ∀ (s : Shared) (H : Hp) (C : Addr) (cl : List (Str × Addr)) (fp : List Addr), PE (X.blk s H scope (compEnvC scope cl C X.env) fp) elt (tD X.K E0 m)) (hs : ∀ x, foldedSetIterable iter X.env x = pure x := by intro _; rfl)
    (hy : X.N[i]? = some y := by rfl) (hyl : X.env.scope.names.lookup y = some .local := by rfl) (hsw : swapsWith (.ListComp elt [⟨tg, iter, ifs, 0⟩] scope pos) (some (.Name y py)) spos.line X.env = pure true := by exact sw_true rfl rfl rfl (by decide +kernel)) :
    PS X (.Assign [.Name y py] (.ListComp elt [⟨tg, iter, ifs, 0⟩] scope pos) spos) (tS X.K E (mSet i (mLcD (mComp (own.map (·.2)) mi g t m)))) := by
  refine (ps_setLc hc hN hy hyl hsw hi ok hg ht he hs).imp fun Dn σ H h => ?_
  obtain ⟨c, ρ, ⟨Z, r⟩, q⟩ := h
  exact lcD hg0 ⟨c, Z, ρ, r, tSR.expr (k := fun d ρ => .ok .nx (ρ.set i (some (.val d)))) q fun d ρ1 v H1 r1 h1 q1 => q1 _ _ ⟨Z, r1.set h1⟩⟩
theorem s_setLcO (i : Nat) (own : List (Str × Nat)) (hc : X.calm = true) (hN : X.N.Nodup) (ok : BlkOk X.N X.env.scope scope own) (hg0 : ∀ j ∈ is, j ∈ own.map (·.2)) (hi : PI X tg iter (iD X.K E mi))
    (hg : ∀ (s : Shared) (H : Hp) (C : Addr) (cl : List (Str × Addr)) (fp : List Addr), PG (X.blk s H scope (compEnvC scope cl C X.env) fp) tg (tTG X.K is g)) (ht : ∀ (s : Shared) (H : Hp) (C : Addr) (cl : List (Str × Addr)) (fp : List Addr), PTs (X.blk s H scope (compEnvC scope cl C X.env) fp) ifs (tT X.K E0 t))
    (he : ∀ (s : Shared) (H : Hp) (C : Addr) (cl : List (Str × Addr)) (fp : List Addr), PE (X.blk s H scope (compEnvC scope cl C X.env) fp) elt (tD X.K E0 m)) (hs : ∀ x, foldedSetIterable iter X.env x = pure x := by intro _; rfl)
    (hy : X.N[i]? = some y := by rfl) (hyl : X.env.scope.names.lookup y = some .local := by rfl) (hsw : swapsWith (.ListComp elt [⟨tg, iter, ifs, 0⟩] scope pos) (some (.Name y py)) spos.line X.env = pure true := by exact sw_true rfl rfl rfl (by decide +kernel)) :
    PS X (.Assign [.Name y py] (.ListComp elt [⟨tg, iter, ifs, 0⟩] scope pos) spos) (tS X.K E (mSetO i (oLc (mComp (own.map (·.2)) mi g t m)))) := by
  refine (ps_setLc hc hN hy hyl hsw hi ok hg ht he hs).imp fun Dn σ H h => ?_
  obtain ⟨c, ρ, ⟨Z, r⟩, q⟩ := h
  refine lcO hg0 ⟨c, Z, ρ, r, ?_⟩
  unfold mSetO at q
  cases em : oLc (mComp (own.map (·.2)) mi g t m) ρ with
  | fail => rw [em] at q; exact q
  | exc x l ρ1 => rw [em] at q; exact fun ed vs H' h1 h3 h4 h5 => q σ ed vs H' ⟨Z, h1⟩ h3 h4 (Reps.zed h1.z0 _ _ h5)
  | ok t ρ1 =>
    rw [em] at q
    exact fun p Z' H' n _ => q _ _ ⟨Z', n.set i⟩
end
end DL
set_option Elab.async false
set_option linter.all false
set_option maxRecDepth 100000
set_option maxHeartbeats 4000000
namespace DL
open PySem PySem.Spec PyProof.Rows L2
variable [CTab]
/-! ### a def by its body -/
def startE (n : Nat) (ws : List W) : Env := ws.map some ++ List.replicate (n - ws.length) none
/-- what became of the things handed in -/
def outsE (ρ : Env) : List W → Nat → Option (List Ct)
  | [], _ => some []
  | .inn _ :: ws, i => match ρ[i]? with
    | some (some (.inn t)) => (outsE ρ ws (i + 1)).map (t :: ·)
    | _ => none
  | _ :: ws, i => outsE ρ ws (i + 1)
def finE (d : D) (ρ : Env) (ws : List W) : FR := match outsE ρ ws 0 with
  | some ts => .ok d ts
  | none => .fail
/-- x: it may raise -/
def runF (n : Nat) (x : Bool) (m : M Fl) : FD := fun ws => match m (startE n ws) with
  | .ok .nx ρ => finE .non ρ ws
  | .ok (.rt d) ρ => finE d ρ ws
  | .exc c l _ => if x = true then .exc c l else .fail
  | _ => .fail
def inP : List W → List V → Nat → Option Addr
  | .inn _ :: _, .ref p :: _, 0 => some p
  | _ :: ws, _ :: vs, i + 1 => inP ws vs i
  | _, _, _ => none
section
variable {K : PySem.W.Frag} {H : Hp} {Z : Addr → Prop}
theorem inP_mem : ∀ {ws : List W} {vs : List V} {i : Nat} {p : Addr}, inP ws vs i = some p → p ∈ inAd ws vs := by
  intro ws
  induction ws with
  | nil => intro vs i p h; simp [inP] at h
  | cons w ws ih =>
    intro vs i p h
    cases vs with
    | nil => cases w <;> simp [inP] at h
    | cons v vs =>
      cases i with
      | zero =>
        cases w <;> cases v <;> simp [inP] at h
        subst h
        simp [inAd]
      | succ i =>
        have h2 : inP ws vs i = some p := by
          cases w <;> simpa [inP] using h
        have := ih h2
        cases w <;> cases v <;> simp [inAd, this]
theorem inP_inj : ∀ {ws : List W} {vs : List V} {i j : Nat} {p : Addr}, (inAd ws vs).Nodup → inP ws vs i = some p → inP ws vs j = some p → i = j := by
  intro ws
  induction ws with
  | nil => intro vs i j p _ h; simp [inP] at h
  | cons w ws ih =>
    intro vs i j p nd hi hj
    cases vs with
    | nil => cases w <;> simp [inP] at hi
    | cons v vs =>
      have step : ∀ {k}, inP (w :: ws) (v :: vs) (k + 1) = inP ws vs k := by
        intro k
        cases w <;> simp [inP]
      cases i with
      | zero =>
        cases j with
        | zero => rfl
        | succ j =>
          rw [step] at hj
          cases w <;> cases v <;> simp [inP] at hi
          subst hi
          simp only [inAd, List.nodup_cons] at nd
          exact absurd (inP_mem hj) nd.1
      | succ i =>
        have nd2 : (inAd ws vs).Nodup := by
          cases w <;> cases v <;> simp [inAd] at nd <;> first | exact nd | exact nd.2
        cases j with
        | zero =>
          rw [step] at hi
          cases w <;> cases v <;> simp [inP] at hj
          subst hj
          simp only [inAd, List.nodup_cons] at nd
          exact absurd (inP_mem hi) nd.1
        | succ j =>
          rw [step] at hi hj
          rw [ih nd2 hi hj]
theorem repWs_get : ∀ {ws : List W} {vs : List V} {i : Nat} {w : W}, RepWs K H Z ws vs → ws[i]? = some w → (∃ d v, w = .val d ∧ vs[i]? = some v ∧ Rep K H Z d v) ∨ (∃ t p, w = .inn t ∧ vs[i]? = some (.ref p) ∧ Z p ∧ RepC K H Z t p ∧ inP ws vs i = some p)
  | [], vs, i, w, h, e => by simp at e
  | .val d :: ws, vs, i, w, h, e => by
    obtain ⟨v, r, e1, h1, h2⟩ := h
    subst e1
    cases i with
    | zero =>
      simp only [List.getElem?_cons_zero, Option.some.injEq] at e
      exact .inl ⟨d, v, e.symm, rfl, h1⟩
    | succ i =>
      simp only [List.getElem?_cons_succ] at e
      rcases repWs_get h2 e with q | ⟨t, p, q1, q2, q3, q4, q5⟩
      · exact .inl (by simpa using q)
      · exact .inr ⟨t, p, q1, by simpa using q2, q3, q4, by simpa [inP] using q5⟩
  | .inn t :: ws, vs, i, w, h, e => by
    obtain ⟨p, r, e1, h0, h1, h2⟩ := h
    subst e1
    cases i with
    | zero =>
      simp only [List.getElem?_cons_zero, Option.some.injEq] at e
      exact .inr ⟨t, p, e.symm, rfl, h0, h1, by simp [inP]⟩
    | succ i =>
      simp only [List.getElem?_cons_succ] at e
      rcases repWs_get h2 e with q | ⟨t, p, q1, q2, q3, q4, q5⟩
      · exact .inl (by simpa using q)
      · exact .inr ⟨t, p, q1, by simpa using q2, q3, q4, by simpa [inP] using q5⟩
  | .own _ :: ws, vs, i, w, h, e => h.elim
theorem startE_get {n : Nat} {ws : List W} {i : Nat} {w : W} (h : (startE n ws)[i]? = some (some w)) : ws[i]? = some w := by
  unfold startE at h
  by_cases hi : i < ws.length
  · rw [List.getElem?_append_left (by simpa using hi), List.getElem?_map] at h
    simpa using h
  · rw [List.getElem?_append_right (by simpa using Nat.le_of_not_lt hi)] at h
    rw [List.getElem?_replicate] at h
    split at h <;> simp at h
theorem start_get {N : List Str} {vs : List V} {i : Nat} {v : V} (h : vs[i]? = some v) : (start N vs)[i]? = some (some v) := by
  unfold L2.start
  have hi := (List.getElem?_eq_some_iff.mp h).1
  rw [List.getElem?_append_left (by simpa using hi), List.getElem?_map, h]
  rfl
def startCz (ws : List W) (vs : List V) (H : Hp) (Z : Addr → Prop) : Cz := ⟨inP ws vs, H, Z, [], []⟩
theorem rel_start {N : List Str} {ws : List W} {vs : List V} (hz : ∀ p, Z p → H p ≠ none) (hr : RepWs K H Z ws vs) (nd : (inAd ws vs).Nodup) : Rel K (startCz ws vs H Z) Z (startE N.length ws) (start N vs) H where
  frame := fun a o _ e => e
  keep := fun a e => e
  base := fun a z => ⟨z, hz a z⟩
  len := by simp [startE, L2.start, hr.len]
  dom := hz
  val := fun i d e => by
    rcases repWs_get hr (startE_get e) with ⟨d', v, e1, h1, h2⟩ | ⟨t, p, e1, _⟩
    · cases e1
      exact ⟨v, start_get h1, h2⟩
    · cases e1
  own := fun i t e => by
    rcases repWs_get hr (startE_get e) with ⟨d', v, e1, h1, h2⟩ | ⟨t, p, e1, _⟩ <;> cases e1
  inn := fun i t e => by
    rcases repWs_get hr (startE_get e) with ⟨d', v, e1, h1, h2⟩ | ⟨t, p, e1, h1, h2, h3, h4⟩
    · cases e1
    · cases e1
      exact ⟨p, start_get h1, h2, h4, h3⟩
  inj := fun i j p hi hj h1 h2 => by
    have at_ : ∀ k, isOwn (startE N.length ws) k → (start N vs)[k]? = some (some (.ref p)) → inP ws vs k = some p := fun k ⟨t, h⟩ hs => by
      rcases h with h | h
      · rcases repWs_get hr (startE_get h) with ⟨d', v, e1, _⟩ | ⟨t, p, e1, _⟩ <;> cases e1
      · rcases repWs_get hr (startE_get h) with ⟨d', v, e1, _⟩ | ⟨t, q, e1, g1, g2, g3, g4⟩
        · cases e1
        · rw [start_get g1] at hs
          cases hs
          exact g4
    exact inP_inj nd (at_ i hi h1) (at_ j hj h2)
  xs := fun q hq => by cases hq
  hd := fun q hq => by cases hq
theorem outs_rep {c : Cz} {Z' : Addr → Prop} {σ : St} {H' : Hp} {ρ : Env} (r : Rel K c Z' ρ σ H') : ∀ {ws : List W} {vs : List V} {ts : List Ct} {k : Nat}, RepWs K H Z ws vs → (∀ i, inP ws vs i = c.P (k + i)) → outsE ρ ws k = some ts → RepCs K H' c.Z0 ts (inAd ws vs)
  | [], vs, ts, k, h, hp, e => by
    cases (show vs = [] from h)
    cases e
    rfl
  | .val d :: ws, vs, ts, k, h, hp, e => by
    obtain ⟨v, q, e1, h1, h2⟩ := h
    subst e1
    have h0 : inAd (.val d :: ws) (v :: q) = inAd ws q := by simp [inAd]
    rw [h0]
    exact outs_rep r h2 (fun i => by have := hp (i + 1); simp only [inP] at this; rw [this]; congr 1; omega) (show outsE ρ ws (k + 1) = some ts from e)
  | .inn t :: ws, vs, ts, k, h, hp, e => by
    obtain ⟨p, q, e1, h0, h1, h2⟩ := h
    subst e1
    show RepCs K H' c.Z0 ts (p :: inAd ws q)
    unfold outsE at e
    split at e
    · rename_i t' ht
      cases e2 : outsE ρ ws (k + 1) with
      | none => rw [e2] at e; cases e
      | some ts' =>
        rw [e2] at e
        cases e
        obtain ⟨p', g1, g2, g3, g4⟩ := r.inn k t' ht
        have hp0 : c.P k = some p := by
          have := hp 0
          simp only [inP, Nat.add_zero] at this
          exact this.symm
        rw [hp0] at g3
        cases g3
        exact ⟨p, _, rfl, g4.zed r.z0, outs_rep r h2 (fun i => by have := hp (i + 1); simp only [inP] at this; rw [this]; congr 1; omega) e2⟩
    · cases e
  | .own _ :: ws, vs, ts, k, h, hp, e => h.elim
/-- the promise leads to the body's reading -/
theorem run_core {N : List Str} {n : Nat} {x : Bool} {m : M Fl} {vs : List V} {Q : VK} {E : XK} {E' : XK} (hE : x = true → E' = E) (h : spF K n (runF N.length x m) vs H Q E) : tS K E' m { nx := fun _ H' => Q .non H', rt := Q } (start N vs) H := by
  obtain ⟨Z, ws, hl, hz, hr, nd, h⟩ := h
  refine ⟨startCz ws vs H Z, startE N.length ws, ⟨Z, rel_start hz hr nd⟩, ?_⟩
  have fr : ∀ {σ' H' ρ'}, RelS K (startCz ws vs H Z) ρ' σ' H' → ∀ a o, a ∉ inAd ws vs → H a = some o → H' a = some o := fun ⟨Z', r⟩ a o ha e => r.frame a o (fun i hi => ha (inP_mem hi)) e
  unfold runF at h
  cases em : m (startE N.length ws) with
  | fail => rw [em] at h; exact h
  | exc c l ρ =>
    rw [em] at h
    simp only at h
    split at h
    · exact h.elim
    · rename_i he
      split at he <;> cases he
    · rename_i c' l' he
      split at he
      · rename_i hx
        cases he
        rw [hE hx]
        exact fun σ ed us H' r h1 h2 h3 => h ed us H' (fr r) h1 h2 h3
      · cases he
  | ok f ρ =>
    rw [em] at h
    have fin : ∀ {d : D} {v : V} {σ' H'}, (match finE d ρ ws with
        | .fail => False
        | .ok d ts => ∀ v H', (∀ a o, a ∉ inAd ws vs → H a = some o → H' a = some o) → RepCs K H' Z ts (inAd ws vs) → Rep K H' Z d v → Q v H'
        | .exc c l => ∀ ed us H', (∀ a o, a ∉ inAd ws vs → H a = some o → H' a = some o) → H' ed = some (.xd ((cF c).zip us)) → us.length ≤ (cF c).length → Reps K H' Z l us → E (.ref (He.ga K (cN c))) (some ed) H') →
        RelS K (startCz ws vs H Z) ρ σ' H' → Rep K H' Z d v → Q v H' := by
      intro d v σ' H' h r hd
      unfold finE at h
      cases eo : outsE ρ ws 0 with
      | none => rw [eo] at h; exact h.elim
      | some ts =>
        rw [eo] at h
        have f := fr r
        obtain ⟨Z', r⟩ := r
        exact h v H' f (outs_rep r hr (fun i => by rw [Nat.zero_add]; rfl) eo) hd
    cases f with
    | nx => exact fun σ' H' r => fin h r rfl
    | rt d => exact fun σ' v H' r hd => fin h r hd
    | bk => exact h.elim
    | ct => exact h.elim
end
section
variable {P : Program} {w : World} {K : PySem.W.Frag} {mg : Str → Option Value} {base : Heap} {x qual : Str} {params : Arguments} {body : List Stmt} {scope : Scope} {f : Addr} {fd : FuncData} {N ps : List Str} {k : Nat} {m : M Fl} {kws : List (Str × V)} {dvs : List V}
/-- a def that raises nothing -/
theorem fn_ok (F : FunD K x qual params body scope dvs kws f fd) (S : FnScope N ps scope)
    (hb : ∀ (cdv : Value) (A : Around) (outer : List PySem.Env) (s : Shared) (H : Hp) (E : XK), Room k (A.deeper (envOfC qual scope s.heap.objs.size f cdv)) → PSs (cxOf CX0 P w K mg base N qual scope f cdv A outer s H E).nox body (tS K E0 m)) :
    FnOk P w K mg base CX0 (k + 1) f fd ps (spF K ps.length (runF N.length false m)) :=
  F.ok S spF_len fun cdv A outer s H vs Q E hr h => ⟨_, PSs.nox (hb cdv A outer s H E hr), run_core (fun e => by cases e) h⟩
/-- a def that may raise -/
theorem fn_okX {CX : CXT} (F : FunD K x qual params body scope dvs kws f fd) (S : FnScope N ps scope)
    (hb : ∀ (cdv : Value) (A : Around) (outer : List PySem.Env) (s : Shared) (H : Hp) (E : XK), Room k (A.deeper (envOfC qual scope s.heap.objs.size f cdv)) → PSs (cxOf CX P w K mg base N qual scope f cdv A outer s H E) body (tS K E m)) :
    FnOk P w K mg base CX (k + 1) f fd ps (spF K ps.length (runF N.length true m)) :=
  F.ok S spF_len fun cdv A outer s H vs Q E hr h => ⟨_, hb cdv A outer s H E hr, run_core (fun _ => rfl) h⟩
end
end DL
set_option Elab.async false
set_option linter.all false
set_option maxRecDepth 100000
set_option maxHeartbeats 4000000
/-! ### the truth of an object by the text's own __bool__ -/
namespace OB
open PySem PySem.Spec PyProof.Rows L2
section
variable {X : Cx} {CX : CXT} {n : Nat} {C f : Addr} {fd : FuncData} {ps : List Str} {sp : Sp} {E : XK}
theorem truthy_ref {M : Model} {A : Around} {a : Addr} {Q : Bool → Shared → Prop} {E : Value → Shared → Prop} {s : Shared} (h : wpAny M A (callSpecial? (.ref a) "__bool__" []) (fun r s' => ∃ b, r = some (.bool b) ∧ Q b s') E s) : wpAny M A (truthy (.ref a)) Q E s := by
  unfold truthy
  first
    | exact wpAny_bind (wpAny_mono h (fun r s' h' => by obtain ⟨b, rfl, q⟩ := h'; exact wpAny_pure q) fun _ _ x => x)
    | exact wpAny_bind (wpAny_pure (wpAny_bind (wpAny_mono h (fun r s' h' => by obtain ⟨b, rfl, q⟩ := h'; exact wpAny_pure q) fun _ _ x => x)))
theorem truthy_at (F : FnOk X.prog X.w X.K X.mg X.base CX n f fd ps sp) (hs : PySem.W.findIn X.K (.ref C) "__bool__" = some (some (.ref f))) (hf : PySem.W.isFn X.K (.ref f) = true) (hb : Binds X.K fd ps []) (hx : Passes CX X E)
    {A : Around} {pins : List (Addr × Obj)} {σ : L2.St} {H : Hp} {s : Shared} {a dx : Addr} {fs : List (Str × V)} {Q : Bool → Hp → Prop} (sb : Sub X n A) (I : Inv X pins σ H s) (ha : H a = some (.ins C dx fs))
    (h : sp [.ref a] H (fun v H' => ∃ b, v = .bl b ∧ Q b H') E) : wpAny (model X.prog X.w) A (truthy (.ref a)) (fun b s' => ∃ H', Inv X pins σ H' s' ∧ Q b H') X.xe s := by
  obtain ⟨mA, J, _⟩ := ins_get I.hok ha
  obtain ⟨od, J, _⟩ := J.look
  refine truthy_ref (PySem.W.special_fn I.kIn J hs (beq_iff_eq.mp hf) ?_)
  have e0 : Env0 X.prog X.w X.K X.mg X.base A X.stack s H := by
    have e := I.env0
    exact ⟨by rw [sb.fr]; exact e.frames, e.mod, e.bs, e.bsz, e.funs, e.frf, e.hok, e.bare⟩
  have hl := F.len _ _ _ _ h
  have r2 : Vals [V.ref a] [Value.ref a] := .cons rfl .nil
  refine wpAny_call (codeAny_mono (F.run A X.stack s H ⟨[.ref a], []⟩ [.ref a] [.ref a] _ E sb.room e0 (by
    have := hb s [.ref a] I.kIn (by simpa using hl)
    simpa using this) r2 h) fun r s' hq => ?_)
  cases r with
  | error e => exact hx pins σ H s e s' I hq
  | ok fl =>
    cases fl with
    | ret w =>
      obtain ⟨z, H', I', rz, b, ez, q⟩ := I.after hq
      subst ez
      cases rz
      exact ⟨b, rfl, H', I', q⟩
    | next => exact False.elim hq
    | brk => exact False.elim hq
    | cont => exact False.elim hq
def rOwnB (C : Addr) (sp : Sp) (E : XK) : V → Hp → (Bool → Hp → Prop) → Prop := fun x H Q => ∃ a dx fs, x = .ref a ∧ H a = some (.ins C dx fs) ∧ sp [.ref a] H (fun v H' => ∃ b, v = .bl b ∧ Q b H') E
theorem tru_own (F : FnOk X.prog X.w X.K X.mg X.base CX n f fd ps sp) (hs : PySem.W.findIn X.K (.ref C) "__bool__" = some (some (.ref f))) (hf : PySem.W.isFn X.K (.ref f) = true) (hb : Binds X.K fd ps []) (hx : Passes CX X E) (hr : Room n X.A) : TruR X (rOwnB C sp E) := by
  intro pins s σ H x v Q I rx h
  obtain ⟨a, dx, fs, rfl, ha, h⟩ := h
  cases rx
  exact truthy_at F hs hf hb hx ⟨hr, rfl⟩ I ha h
/-- bool(x) -/
theorem plain_bool_new : plainId "bool.__new__" = true := by decide +kernel
theorem bool_new (x : Value) : Builtin.«bool.__new__» ⟨[.type "bool", x], []⟩ = (isSubtype (.type "bool") (.type "bool") >>= fun b => if (!b) = true then (do rule "bool.__new__.no-subtype"; raiseError "TypeError" s!"bool.__new__({← typeName (.type "bool")}): {← typeName (.type "bool")} is not a subtype of bool") else truthy x >>= fun b => pure (.done (.ret (.bool b)))) := by
  first | rfl | kernel_rfl
theorem code_bool_new {prog : Program} {w : World} {A : Around} {s : Shared} {x : Value} {Q E : Value → Shared → Prop} (h : wpAny (model prog w) A.in1 (truthy x) (fun b s' => Q (.bool b) s') E s) :
    codeAny (model prog w) A (.call (.builtin "bool.__new__") ⟨[.type "bool", x], []⟩) (wants Q E) s := by
  refine codeAny_of_tree ?_
  show wpAny _ A.in1 (do checkBuiltinCall "bool.__new__" ⟨[.type "bool", x], []⟩; again (.builtin "bool.__new__" ⟨[.type "bool", x], []⟩)) _ _ s
  refine wpAny_bind (wpAny_of_eq (PySem.F.newCall_bool_1 _) (wpAny_pure ⟨plainId_quiet plain_bool_new _, codeAny_builtin PySem.F.entry_bool_new ?_⟩))
  rw [Around.under_plainId plain_bool_new _, bool_new, PySem.F.conv_sub_bool, pure_bind, if_neg (by decide)]
  exact wpAny_bind (wpAny_mono h (fun b s' q => wpAny_pure q) fun _ _ x => x)
theorem call_boolO (F : FnOk X.prog X.w X.K X.mg X.base CX n f fd ps sp) (hs : PySem.W.findIn X.K (.ref C) "__bool__" = some (some (.ref f))) (hf : PySem.W.isFn X.K (.ref f) = true) (hb : Binds X.K fd ps []) (hx : Passes CX X E) (hr : Room (n + 2) X.A) :
    CallR X (.type "bool") (fun xs H Q => ∃ x, xs = [x] ∧ rOwnB C sp E x H fun b H' => Q (.bl b) H') := by
  intro pins s σ H xs us Q I r h
  obtain ⟨x, rfl, a, dx, fs, rfl, ha, h⟩ := h
  obtain rfl := Vals.ref1 r
  have key := truthy_at F hs hf hb hx (A := X.A.in1.in1) (Q := fun b H' => Q (.bl b) H') (sb := ⟨hr.in1.in1, rfl⟩) I ha h
  refine callType_codes (Q₁ := fun obj s₁ => s₁.TypeIs obj "bool" ∧ EP X pins σ Q obj s₁) PySem.F.called_bool (PySem.F.typeCall_bool_1 _) PySem.F.entry_object_init
    (code_bool_new (A := X.A.in1) (wpAny_mono key (fun b s' q => ⟨rfl, .bl b, q.choose, q.choose_spec.1, rfl, q.choose_spec.2⟩) fun _ _ x => x)) fun obj s₁ h₁ => ?_
  exact ⟨h₁.1, PySem.F.args_object_init_2 obj _, object_init_meets PySem.F.called_bool.init.lookup PySem.F.called_bool.made (by decide) X.prog X.w X.A.in1 _ s₁ ⟨h₁.1, rfl, h₁.2⟩⟩
end
end OB
set_option Elab.async false
set_option linter.all false
set_option maxRecDepth 100000
set_option maxHeartbeats 4000000
namespace DL
open PySem PySem.Spec PyProof.Rows L2
variable [CTab]
/-! ### calls without arguments -/
section
variable {X : Cx} {CX : CXT} {E : XK} {pos p : Pos} {k c : Nat} {g : FD} {x : Str}
theorem d_call0 {j : Nat} (c : Callee X.prog X.w X.K X.mg X.base CX k x 0 g) (hr : Room j X.A) (hx : Passes CX X E) (hj : k ≤ j := by decide) (hg : Gl X x := by rfl) (hdb : (x == ("__debug__" : Str)) = false := by decide) :
    PE X (.Call (.Name x p) [] [] pos) (tD X.K E (mCall g mANil)) := by
  obtain ⟨f, fd, ps, F, hm, hk, hb, hps⟩ := c.ex
  refine (pe_call0 F (hr.mono hj) hg hm hk hb .nil hx hdb).imp fun σ H Q h => ?_
  obtain ⟨c, Z, ρ, r, q⟩ := h
  exact call_gen (as := []) r .nil rfl q
end
/-! ### self.f = e -/
/-- the j-th field of the thing in slot i -/
def cFld (c j : Nat) : Ct → D → Option Ct
  | .ob c' l, d => if c' = c then (if j < l.length then some (.ob c (l.set j d)) else if j = l.length then some (.ob c (l ++ [d])) else none) else none
  | _, _ => none
def mFld (i c j : Nat) (m : M D) : M Fl := mMut i (cFld c j) m
theorem putF_at {f : Str} {v : V} : ∀ {ns : List Str} {vs : List V} {j : Nat}, ns.Nodup → ns[j]? = some f → (j < vs.length → putF f v (ns.zip vs) = ns.zip (vs.set j v)) ∧ (j = vs.length → putF f v (ns.zip vs) = ns.zip (vs ++ [v]))
  | [], vs, j, _, h => by simp at h
  | n :: ns, [], j, nd, h => by
    refine ⟨fun hj => absurd hj (Nat.not_lt_zero _), fun hj => ?_⟩
    subst hj
    simp only [List.length_nil, List.getElem?_cons_zero, Option.some.injEq] at h
    subst h
    simp [putF]
  | n :: ns, u :: vs, 0, nd, h => by
    simp only [List.getElem?_cons_zero, Option.some.injEq] at h
    subst h
    refine ⟨fun _ => by simp [putF], fun hj => by simp at hj⟩
  | n :: ns, u :: vs, j + 1, nd, h => by
    obtain ⟨hn, hr⟩ := List.nodup_cons.mp nd
    simp only [List.getElem?_cons_succ] at h
    have hne : ¬ n = f := fun e => hn (by rw [e]; exact List.mem_of_getElem? h)
    obtain ⟨h1, h2⟩ := putF_at (v := v) (vs := vs) hr h
    refine ⟨fun hj => ?_, fun hj => ?_⟩
    · rw [List.zip_cons_cons, List.set_cons_succ, List.zip_cons_cons]
      show (if n = f then _ else (n, u) :: putF f v (ns.zip vs)) = _
      rw [if_neg hne, h1 (by simpa using hj)]
    · rw [List.zip_cons_cons, List.cons_append, List.zip_cons_cons]
      show (if n = f then _ else (n, u) :: putF f v (ns.zip vs)) = _
      rw [if_neg hne, h2 (by simpa using hj)]
section
variable {X : Cx} {E : XK} {pos pos' : Pos} {e : Expr} {m : M D}
theorem s_fld {n : Nat} {f x : Str} {xp : Pos} (cf : CFacts X.K n) (i c j : Nat) (hc : c < n) (hj : (cF c)[j]? = some f) (hl : (cF c).length < 1000) (he : PE X e (tD X.K E m)) (hN : X.N[i]? = some x := by rfl) (hv : Vis X.env.scope x := by first | exact Or.inl rfl | exact Or.inr (Or.inl rfl) | exact Or.inr (Or.inr rfl)) (hd : (x == ("__debug__" : Str)) = false := by decide)
    (hcd : (x == ("__classdict__" : Str)) = false := by decide) (hs : swapsWith e (some (.Attribute (.Name x xp) f pos')) pos.line X.env = pure false := by rfl) : PS X (.Assign [.Attribute (.Name x xp) f pos'] e pos) (tS X.K E (mFld i c j m)) := by
  refine (ps_fld (pe_var hN hv hd hcd) he hs).imp fun Dn σ H h => ?_
  obtain ⟨cz, ρ, ⟨Z, r⟩, q⟩ := h
  refine ⟨cz, Z, ρ, r, tSR.expr q fun d ρ1 v H1 r1 hd q1 => ?_⟩
  obtain ⟨p, t, t', h1, ⟨o, h2, h3⟩, hz, hf, k⟩ := mut_gen q1 r1
  have hd : Rep X.K H1 Z d v := hd
  cases t with
  | lst _ => cases hf
  | dct _ _ => cases hf
  | ob c' l =>
    have hf : (if c' = c then (if j < l.length then some (Ct.ob c (l.set j d)) else if j = l.length then some (Ct.ob c (l ++ [d])) else none) else none) = some t' := hf
    split at hf
    · rename_i ec
      subst ec
      obtain ⟨dx, vs, rfl, hlen, hr⟩ := h3
      have hll := hr.len
      obtain ⟨g1, g2⟩ := putF_at (v := v) (vs := vs) (cf.nd c' hc) hj
      have ex : ∀ o', Ext Z H1 (upd H1 p o') := fun o' a o nz e => by rw [upd_ne (fun z => nz (by rw [z]; exact hz))]; exact e
      have hz1 : ((cF c').zip vs).length < 1000 := by rw [List.length_zip]; omega
      have hjl := (List.getElem?_eq_some_iff.mp hj).1
      refine ⟨_, h1, p, _, dx, _, rfl, h2, (cf.cls c' hc).cl, cf.noat c' f hc (List.mem_of_getElem? hj), hz1, ?_⟩
      refine k _ (fun a o ne e => by rw [upd_ne ne]; exact e) ?_
      split at hf
      · rename_i hlt
        cases hf
        exact ⟨_, upd_same, dx, vs.set j v, by rw [g1 (by omega)], by simpa using hlen, Reps.set (Rep.ext (ex _) _ _ hd) j (Reps.ext (ex _) _ _ hr)⟩
      · split at hf
        · rename_i hlt heq
          cases hf
          exact ⟨_, upd_same, dx, vs ++ [v], by rw [g2 (by omega)], by simp; omega, (Reps.ext (ex _) _ _ hr).app (Reps.one (Rep.ext (ex _) _ _ hd))⟩
        · cases hf
    · cases hf
end
/-! ### the truth of objects -/
/-- the class at c has a __bool__ that does g -/
structure Booler (P : Program) (w : World) (K : PySem.W.Frag) (mg : Str → Option Value) (base : Heap) (CX : CXT) (k : Nat) (c : Nat) (g : FD) : Prop where
  ex : ∃ (f : Addr) (fd : FuncData) (ps : List Str), PySem.W.findIn K (.ref (He.ga K (cN c))) "__bool__" = some (some (.ref f)) ∧ PySem.W.isFn K (.ref f) = true ∧ FnOk P w K mg base CX k f fd ps (spF K 1 g) ∧ Binds K fd ps []
def obTru (bs : List (Nat × FD)) : D → Option Bool
  | .ob c l => match bs.lookup c with
    | some g => (match g [.val (.ob c l)] with
      | .ok (.bl b) [] => some b
      | _ => none)
    | none => none
  | d => dTru d
def fBoolO (bs : List (Nat × FD)) : List D → Option D
  | [.ob c l] => (obTru bs (.ob c l)).map .bl
  | l => fBool l
section
variable {P : Program} {w : World} {X : Cx} {CX : CXT} {E : XK} {e : Expr} {m : M D} {k : Nat} {bs : List (Nat × FD)}
theorem lookupB {bs : List (Nat × FD)} {c : Nat} {g : FD} : bs.lookup c = some g → (c, g) ∈ bs := by
  induction bs with
  | nil => intro h; cases h
  | cons p r ih =>
    obtain ⟨a, b⟩ := p
    rw [List.lookup_cons]
    cases e : c == a with
    | true =>
      intro h
      cases h
      rw [eq_of_beq e]
      exact List.mem_cons_self
    | false => exact fun h => List.mem_cons_of_mem _ (ih h)
/-- what the own __bool__ is given -/
theorem ob_sp {K : PySem.W.Frag} {H : Hp} {Z : Addr → Prop} {c : Nat} {l : List D} {v : V} {g : FD} {b : Bool} {Q : Bool → Hp → Prop} (hz : ∀ p, Z p → H p ≠ none) (hr : Rep K H Z (.ob c l) v) (hg : g [.val (.ob c l)] = .ok (.bl b) []) (q : ∀ H', Same H H' → Q b H') :
    spF K 1 g [v] H (fun u H' => ∃ b, u = .bl b ∧ Q b H') E := by
  have hi : inAd [W.val (.ob c l)] [v] = [] := by simp [inAd]
  refine ⟨Z, [.val (.ob c l)], rfl, hz, ⟨v, [], rfl, hr, rfl⟩, by rw [hi]; exact .nil, ?_⟩
  rw [hg]
  intro u H' hk _ hu
  rw [hi] at hk
  exact ⟨b, hu, q H' fun a o h => hk a o (by simp) h⟩
theorem tru_objs (hb : ∀ q ∈ bs, Booler X.prog X.w X.K X.mg X.base CX k q.1 q.2) (hx : Passes CX X E) (hr : Room k X.A) : TruR X (fun x H Q => ∃ q ∈ bs, OB.rOwnB (He.ga X.K (cN q.1)) (spF X.K 1 q.2) E x H Q) := by
  intro pins s σ H x v Q I rx h
  obtain ⟨q, hq, h⟩ := h
  obtain ⟨f, fd, ps, h1, h2, F, hB⟩ := (hb q hq).ex
  exact OB.tru_own F h1 h2 hB hx hr pins s σ H x v Q I rx h
def mTruO (bs : List (Nat × FD)) (m : M D) : M Bool := fun ρ => bindR (m ρ) fun d ρ => liftO (obTru bs d) ρ
theorem _root_.L2.TruR.or {r r' : V → Hp → (Bool → Hp → Prop) → Prop} (h : TruR X r) (h' : TruR X r') : TruR X (fun x H Q => r x H Q ∨ r' x H Q) := fun pins s σ H x v Q I rx q => q.elim (h pins s σ H x v Q I rx) (h' pins s σ H x v Q I rx)
theorem tR.liftBs {K : PySem.W.Frag} {o : Option Bool} {c : Cz} {Z : Addr → Prop} {ρ : Env} {σ : St} {H : Hp} {Q : Bool → Hp → Prop} (h : tR K E rB c Z σ H Q (liftO o ρ)) (r : Rel K c Z ρ σ H) : ∃ k, o = some k ∧ ∀ H', Same H H' → Q k H' := by
  cases o with
  | none => exact h.elim
  | some k => exact ⟨k, rfl, fun H' s => h.new r s rfl⟩
theorem obTru_ok {K : PySem.W.Frag} {H : Hp} {Z : Addr → Prop} {d : D} {v : V} {b : Bool} {Q : Bool → Hp → Prop} (hz : ∀ p, Z p → H p ≠ none) (hd : Rep K H Z d v) (h : obTru bs d = some b) (q : ∀ H', Same H H' → Q b H') :
    (∃ q ∈ bs, OB.rOwnB (He.ga K (cN q.1)) (spF K 1 q.2) E v H Q) ∨ ∃ k, TruV K v H k ∧ Q k H := by
  have plain : dTru d = some b → (∃ q ∈ bs, OB.rOwnB (He.ga K (cN q.1)) (spF K 1 q.2) E v H Q) ∨ ∃ k, TruV K v H k ∧ Q k H := fun e => .inr ⟨b, tru_ok' e hd, q H (Same.refl H)⟩
  cases d with
  | ob c l =>
    simp only [obTru] at h
    split at h
    · rename_i g hg
      split at h
      · rename_i b' he
        cases h
        have hd' := hd
        simp only [Rep] at hd'
        obtain ⟨a, dx, vs, rfl, _, h2, _⟩ := hd'
        exact .inl ⟨(c, g), lookupB hg, a, dx, _, rfl, h2, ob_sp hz hd he q⟩
      · cases h
    · cases h
  | non => exact plain h
  | bl _ => exact plain h
  | int _ => exact plain h
  | str _ => exact plain h
  | lst _ => exact plain h
  | rol _ => exact plain h
  | tup _ => exact plain h
  | dct _ _ => exact plain h
theorem dt_truO {j : Nat} (bs : List (Nat × FD)) (hb : ∀ q ∈ bs, Booler X.prog X.w X.K X.mg X.base CX k q.1 q.2) (hx : Passes CX X E) (hr : Room j X.A) (he : PE X e (tD X.K E m)) (hj : k ≤ j := by decide) (hi : ∀ whole, isTrue e X.env whole = (do let v ← whole; standAt e.pos; holding [v] (truthy v)) := by intro _; rfl) : PT X e (tT X.K E (mTruO bs m)) := by
  refine (pt_truthR he ((tru_objs hb hx (hr.mono hj)).or tru_ok) hi).imp fun σ H Q h => ?_
  obtain ⟨c, Z, ρ, r, q⟩ := h
  refine ⟨c, Z, ρ, r, q.bind fun d ρ1 v H1 r1 e1 h1 q1 => ?_⟩
  obtain ⟨b, hb, k⟩ := q1.liftBs r1
  exact obTru_ok r1.dom h1 hb k
/-- bool(x) -/
theorem call_boolOs (hb : ∀ q ∈ bs, Booler X.prog X.w X.K X.mg X.base CX k q.1 q.2) (hx : Passes CX X E) (hr : Room (k + 2) X.A) : CallR X (.type "bool") (fun xs H Q => ∃ q ∈ bs, ∃ x, xs = [x] ∧ OB.rOwnB (He.ga X.K (cN q.1)) (spF X.K 1 q.2) E x H fun b H' => Q (.bl b) H') := by
  intro pins s σ H xs us Q I r h
  obtain ⟨q, hq, h⟩ := h
  obtain ⟨f, fd, ps, h1, h2, F, hB⟩ := (hb q hq).ex
  exact OB.call_boolO F h1 h2 hB hx hr pins s σ H xs us Q I r h
theorem ca_boolO {K : PySem.W.Frag} {E : XK} : CaD K (fun xs H Q => (∃ q ∈ bs, ∃ x, xs = [x] ∧ OB.rOwnB (He.ga K (cN q.1)) (spF K 1 q.2) E x H fun b H' => Q (.bl b) H') ∨ (∃ i, xs = [.int i] ∧ Q (.bl (i != 0)) H) ∨ ∃ k, xs = [.bl k] ∧ Q (.bl k) H) (fBoolO bs) := by
  intro H Z l d xs Q hz r h k
  unfold fBoolO at h
  split at h
  · rename_i c l'
    cases ho : obTru bs (.ob c l') with
    | none => rw [ho] at h; cases h
    | some b =>
      rw [ho] at h
      cases h
      obtain ⟨v, rfl, h1⟩ := r.inv1
      simp only [obTru] at ho
      split at ho
      · rename_i g hg
        split at ho
        · rename_i b' he
          cases ho
          have hd' := h1
          simp only [Rep] at hd'
          obtain ⟨a, dx, vs, rfl, _, h2, _⟩ := hd'
          exact .inl ⟨(c, g), lookupB hg, _, rfl, a, dx, _, rfl, h2, ob_sp hz h1 he fun H' s => k _ H' s rfl⟩
        · cases ho
      · cases ho
  · exact .inr (ca_bool H Z _ d xs Q hz r h k)
end
/-! ### dict displays -/
def rPr : RG (List (D × D)) (List (V × V)) := fun K _ H Z ps vs => Paired (fun p q => Rep K H Z p.1 q.1 ∧ Rep K H Z p.2 q.2) ps vs
def mPairs : List (M D × M D) → M (List (D × D))
  | [] => fun ρ => .ok [] ρ
  | (mk, mv) :: r => fun ρ => bindR (mk ρ) fun x ρ => bindR (mv ρ) fun y ρ => bindR (mPairs r ρ) fun l ρ => .ok ((x, y) :: l) ρ
def putD (ks : List Key) (l : List D) (k : Key) (d : D) : List Key × List D := if hasK ks k = true then (ks, (ks.zip l).map fun q => if q.1 = k then d else q.2) else (ks ++ [k], l ++ [d])
def mergeD : List Key → List D → List (D × D) → Option (List Key × List D)
  | ks, l, [] => some (ks, l)
  | ks, l, (x, y) :: r => match x.key with
    | some k => mergeD (putD ks l k y).1 (putD ks l k y).2 r
    | none => none
def mDisp (ms : List (M D × M D)) : M D := fun ρ => bindR (mPairs ms ρ) fun ps ρ => match mergeD [] [] ps with
  | some (ks, l) => if ps.length ≤ 15 then .ok (.dct ks l) ρ else .fail
  | none => .fail
section
variable {X : Cx} {E : XK} {pos : Pos} {K : PySem.W.Frag}
theorem rPr_ext {σ : St} {H H' : Hp} {Z : Addr → Prop} {ps : List (D × D)} {vs : List (V × V)} (e : Ext Z H H') (h : rPr K σ H Z ps vs) : rPr K σ H' Z ps vs := Paired.mapP h fun a v q => ⟨q.1.ext e, q.2.ext e⟩
theorem pairs_gen : ∀ (ms : List (M D × M D)) {σ : St} {H : Hp} {Q : List (V × V) → Hp → Prop}, tG K E rPr (mPairs ms) σ H Q → tPairs (ms.map fun q => (tD K E q.1, tD K E q.2)) σ H Q
  | [], σ, H, Q, ⟨c, Z, ρ, r, q⟩ => q.done r .nil
  | (mk, mv) :: ms, σ, H, Q, ⟨c, Z, ρ, r, q⟩ => by
    refine ⟨c, Z, ρ, r, q.bind fun x ρ1 u H1 r1 e1 hx q1 => ⟨c, Z, ρ1, r1, q1.bind fun y ρ2 v H2 r2 e2 hy q2 => ?_⟩⟩
    exact pairs_gen ms ⟨c, Z, ρ2, r2, q2.bind fun l ρ3 vs H3 r3 e3 hl q3 => q3.done r3 (.cons ⟨Rep.ext e3 _ _ (Rep.ext e2 _ _ hx), Rep.ext e3 _ _ hy⟩ hl)⟩
theorem putK_zip {H : Hp} {Z : Addr → Prop} {ks : List Key} {l : List D} {vs : List V} {k : Key} {d : D} {v : V} (hl : ks.length = vs.length) (hr : Reps K H Z l vs) (hd : Rep K H Z d v) :
    ∃ vs', putK (ks.zip vs) k v = (putD ks l k d).1.zip vs' ∧ (putD ks l k d).1.length = vs'.length ∧ Reps K H Z (putD ks l k d).2 vs' := by
  have hany : ∀ (ks : List Key) (vs : List V), ks.length = vs.length → ((ks.zip vs).any fun kv => decide (kv.1 = k)) = hasK ks k := by
    intro ks
    induction ks with
    | nil => intro vs _; simp [hasK]
    | cons a r ih =>
      intro vs hl
      cases vs with
      | nil => cases hl
      | cons v vs =>
        have := ih vs (by simpa using hl)
        unfold hasK at this ⊢
        rw [List.zip_cons_cons, List.any_cons, List.any_cons, this]
  unfold putK putD
  rw [hany ks vs hl]
  by_cases hk : hasK ks k = true
  · rw [if_pos hk, if_pos hk]
    refine ⟨(ks.zip vs).map fun q => if q.1 = k then v else q.2, ?_, by simp [hl], ?_⟩
    · clear hk hr hany
      induction ks generalizing vs with
      | nil => simp
      | cons a r ih =>
        cases vs with
        | nil => cases hl
        | cons u vs =>
          rw [List.zip_cons_cons, List.map_cons, List.map_cons, List.zip_cons_cons, ih (by simpa using hl)]
          congr 1
          by_cases e : a = k <;> simp [e]
    · clear hk hany
      induction ks generalizing vs l with
      | nil =>
        cases vs with
        | nil => simp [Reps]
        | cons _ _ => cases hl
      | cons a r ih =>
        cases vs with
        | nil => cases hl
        | cons u vs =>
          cases l with
          | nil => simp [Reps] at hr
          | cons b l =>
            obtain ⟨u', vs', e, h1, h2⟩ := hr.inv
            cases e
            rw [List.zip_cons_cons, List.map_cons, List.zip_cons_cons, List.map_cons]
            refine Reps.cons ?_ (ih (by simpa using hl) h2)
            by_cases e : a = k
            · simp [e, hd]
            · simp [e, h1]
  · rw [if_neg hk, if_neg hk]
    refine ⟨vs ++ [v], ?_, by simp [hl], hr.app (Reps.one hd)⟩
    rw [List.zip_append hl]
    rfl
theorem mergeK_zip {σ : St} {H : Hp} {Z : Addr → Prop} : ∀ {ps : List (D × D)} {ks : List Key} {l : List D} {vs : List V} {us : List (V × V)} {ks' : List Key} {l' : List D}, ks.length = vs.length → Reps K H Z l vs → rPr K σ H Z ps us → mergeD ks l ps = some (ks', l') →
    ∃ kvs vs', us = kvs.map (fun kv => (kV kv.1, kv.2)) ∧ kvs.length = ps.length ∧ mergeK (ks.zip vs) kvs = ks'.zip vs' ∧ ks'.length = vs'.length ∧ Reps K H Z l' vs'
  | [], ks, l, vs, us, ks', l', hl, hr, hp, h => by
    cases hp
    cases h
    exact ⟨[], vs, rfl, rfl, rfl, hl, hr⟩
  | (x, y) :: ps, ks, l, vs, us, ks', l', hl, hr, hp, h => by
    cases hp with
    | cons h1 h2 =>
      rename_i b bs
      obtain ⟨b1, b2⟩ := b
      obtain ⟨g1, g2⟩ := h1
      unfold mergeD at h
      split at h
      · rename_i k hk
        obtain ⟨vs1, e1, e2, e3⟩ := putK_zip (k := k) hl hr g2
        obtain ⟨kvs, vs', f1, f2, f3, f4, f5⟩ := mergeK_zip (σ := σ) e2 e3 h2 h
        have ek : b1 = kV k := D.key_rep hk g1
        refine ⟨(k, b2) :: kvs, vs', by rw [List.map_cons, ← f1, ek], by simp [f2], ?_, f4, f5⟩
        show mergeK (putK (ks.zip vs) k b2) kvs = _
        rw [e1]
        exact f3
      · cases h
theorem d_disp {keys : List (Option Expr)} {values : List Expr} (ms : List (M D × M D)) (h : PPs X pos keys values (ms.map fun q => (tD X.K E q.1, tD X.K E q.2))) (hall : keys.all (·.isSome) = true := by rfl) (hl : keys.length = values.length := by rfl) (h0 : keys ≠ [] := by exact List.cons_ne_nil _ _)
    (h15 : keys.length ≤ 15 := by decide) : PE X (.Dict keys values pos) (tD X.K E (mDisp ms)) := by
  refine (pe_disp h hall hl h0 h15).imp fun σ H Q hh => ?_
  obtain ⟨c, Z, ρ, r, q⟩ := hh
  intro p hp
  have hnz : ¬ Z p := r.zfree hp
  have n0 := r.newAt (o := .dK []) (t := .dct [] []) hp ⟨[], rfl, rfl, rfl⟩
  have back : ∀ {ρ H' t}, NewAt X.K c (fun a => Z a ∨ a = p) ρ σ H' t p → Rel X.K c Z ρ σ H' ∧ Rep X.K H' Z t.toD (.ref p) := fun n => n.frz (fun a => Iff.rfl) hnz
  have e0 : ∀ {H'}, Ext (fun a => Z a ∨ a = p) (upd H p (.dK [])) H' → Ext Z H H' := fun e a o nz ea => e a o (fun z => z.elim nz fun q => by rw [q, hp] at ea; cases ea) (by rw [upd_ne (ne_of_none ea hp)]; exact ea)
  refine pairs_gen ms ⟨c.withHid p (.dct [] []), _, ρ, n0.hide, ?_⟩
  unfold mDisp at q
  cases em : mPairs ms ρ with
  | fail => rw [em] at q; exact q
  | exc x l ρ1 =>
    rw [em] at q
    intro ed vs H' r1 e1 h1 h2 h3
    exact q ed vs H' (back (r1.showAt n0.new n0.nh)).1 (e0 e1) h1 h2 (Reps.zed (fun a o nz e z => nz (.inl z)) _ _ h3)
  | ok ps ρ1 =>
    rw [em] at q
    simp only [bindR_ok] at q
    intro us H2 r2 e2 hu
    have q : tR X.K E rD c Z σ H Q (match mergeD [] [] ps with
      | some (ks, l) => if ps.length ≤ 15 then .ok (.dct ks l) ρ1 else .fail
      | none => .fail) := q
    split at q
    · rename_i ks l hm
      split at q
      · rename_i h15
        obtain ⟨_, ⟨o, ho, us0, rfl, hl0, hr0⟩, _⟩ := r2.hidAt
        have hus0 : us0 = [] := by
          cases us0 with
          | nil => rfl
          | cons _ _ => cases hl0
        subst hus0
        obtain ⟨kvs, vs', f1, f2, f3, f4, f5⟩ := mergeK_zip (σ := σ) (vs := []) rfl Reps.nil hu hm
        have ex : Ext (fun a => Z a ∨ a = p) H2 (upd H2 p (.dK (ks.zip vs'))) := fun a o nz e => by rw [upd_ne (fun z => nz (.inr z))]; exact e
        have r3 := r2.putHid (t' := .dct ks l) (H' := upd H2 p (.dK (ks.zip vs'))) n0.new n0.nh (fun a o ne e => by rw [upd_ne ne]; exact e) ⟨_, upd_same, vs', rfl, f4, Reps.ext ex _ _ f5⟩
        obtain ⟨g1, g2⟩ := back (r3.showAt n0.new n0.nh)
        refine ⟨ho, kvs, f1, by omega, ?_⟩
        have f3 : mergeK [] kvs = ks.zip vs' := f3
        rw [f3]
        exact q _ _ g1 (e0 (e2.trans ex)) g2
      · exact q.elim
    · exact q.elim
end
end DL
set_option Elab.async false
set_option linter.all false
set_option maxRecDepth 100000
set_option maxHeartbeats 4000000
namespace DL
open PySem PySem.Spec PyProof.Rows L2
variable [CTab]
/-! ### dicts that are equal -/
def flatS : D → Bool
  | .non => true | .bl _ => true | .int _ => true | .str _ => true
  | _ => false
/-- the two are seen to be equal -/
def eqDct : D → D → Bool
  | .dct ks l, .dct js r => decide (ks.length = js.length) && decide (ks.length = l.length) && decide (js.length = r.length) && (ks.zip l).all fun q => flatS q.2 && (match lookD js r q.1 with
    | some d => (match q.2.sc, d.sc with
      | some a, some b => decide (a = b)
      | _, _ => false)
    | none => false)
  | _, _ => false
def dEqD (a b : D) : Option D := if eqDct a b = true then some (.bl true) else none
def dNeD (a b : D) : Option D := if eqDct a b = true then some (.bl false) else none
/-- == of any data; dicts only where they are equal -/
def dEqA (a b : D) : Option D := match dEq a b with | some d => some d | none => dEqD a b
def dNeA (a b : D) : Option D := match dNe a b with | some d => some d | none => dNeD a b
section
variable {X : Cx} {E : XK} {pos : Pos} {a b : Expr} {ma mb : M D} {K : PySem.W.Frag}
def rEqR : R2 := fun x y H Q => ∃ a b ks ls, x = .ref a ∧ y = .ref b ∧ Rd H a (.dK ks) ∧ Rd H b (.dK ls) ∧ ks.length = ls.length ∧ (∀ p ∈ ks, valV ls p.1 = some p.2 ∧ flatB p.2 = true) ∧ Q (.bl true) H
def rNeR : R2 := fun x y H Q => ∃ a b ks ls, x = .ref a ∧ y = .ref b ∧ Rd H a (.dK ks) ∧ Rd H b (.dK ls) ∧ ks.length = ls.length ∧ (∀ p ∈ ks, valV ls p.1 = some p.2 ∧ flatB p.2 = true) ∧ Q (.bl false) H
theorem op_eqR (hu : X.A.units < cLine) : OpR X (compareOp .Eq) rEqR := by
  intro pins s σ H x y v u Q I rx ry h
  obtain ⟨a, b, ks, ls, rfl, rfl, ea, eb, hlen, hp, q⟩ := h
  obtain rfl : v = Value.ref a := rx
  obtain rfl : u = Value.ref b := ry
  obtain ⟨_, ya, va, ra, da⟩ := (show ObjOk X.prog X.w H s.heap a (.dK ks) from ea.ok I.hok)
  obtain ⟨_, yb, vb, rb, db⟩ := (show ObjOk X.prog X.w H s.heap b (.dK ls) from eb.ok I.hok)
  have hl : va.length = vb.length := by rw [← ra.length, ← rb.length]; exact hlen
  exact PySem.W.keq_eq (knd := mixKind X.prog X.w) (r := true) ya yb da db hu (fun _ => hits_all rb ra hp) (fin_bl I q (by simp [hl]))
theorem op_neR (hu : X.A.units < cLine) : OpR X (compareOp .NotEq) rNeR := by
  intro pins s σ H x y v u Q I rx ry h
  obtain ⟨a, b, ks, ls, rfl, rfl, ea, eb, hlen, hp, q⟩ := h
  obtain rfl : v = Value.ref a := rx
  obtain rfl : u = Value.ref b := ry
  obtain ⟨_, ya, va, ra, da⟩ := (show ObjOk X.prog X.w H s.heap a (.dK ks) from ea.ok I.hok)
  obtain ⟨_, yb, vb, rb, db⟩ := (show ObjOk X.prog X.w H s.heap b (.dK ls) from eb.ok I.hok)
  have hl : va.length = vb.length := by rw [← ra.length, ← rb.length]; exact hlen
  exact PySem.W.keq_ne (knd := mixKind X.prog X.w) (r := true) ya yb da db hu (fun _ => hits_all rb ra hp) (fin_bl I q (by simp [hl]))
theorem zip_len_of {α β : Type} {ks : List α} {vs : List β} (h : ks.length = vs.length) : (ks.zip vs).length = ks.length := by simp [h]
theorem eqDct_rep {H : Hp} {Z : Addr → Prop} {x y : D} {v u : V} (h : eqDct x y = true) (hx : Rep K H Z x v) (hy : Rep K H Z y u) :
    ∃ a b ks ls, v = .ref a ∧ u = .ref b ∧ Rd H a (.dK ks) ∧ Rd H b (.dK ls) ∧ ks.length = ls.length ∧ ∀ p ∈ ks, valV ls p.1 = some p.2 ∧ flatB p.2 = true := by
  cases x <;> cases y <;> first | (cases h; done) | skip
  rename_i ks l js r
  simp only [eqDct, Bool.and_eq_true, decide_eq_true_eq, List.all_eq_true] at h
  obtain ⟨⟨⟨h1, h2⟩, h3⟩, h4⟩ := h
  simp only [Rep] at hx hy
  obtain ⟨a, vs, rfl, _, g1, g2, g3⟩ := hx
  obtain ⟨b, us, rfl, _, k1, k2, k3⟩ := hy
  refine ⟨a, b, _, _, rfl, rfl, g1, k1, by rw [zip_len_of g2, zip_len_of k2, h1], fun p hp => ?_⟩
  obtain ⟨i, hi⟩ := List.getElem?_of_mem hp
  obtain ⟨hk, hv⟩ := List.getElem?_zip_eq_some.mp hi
  obtain ⟨d, hd, rd⟩ := g3.getV hv
  have hm : (p.1, d) ∈ ks.zip l := List.mem_of_getElem? (List.getElem?_zip_eq_some.mpr ⟨hk, hd⟩)
  obtain ⟨f1, f2⟩ := h4 _ hm
  simp only at f1 f2
  have lk := lookD_rep (k := p.1) (ks := js) k3
  split at f2
  · rename_i d' hd'
    rw [hd'] at lk
    obtain ⟨v', e1, rv'⟩ := lk
    split at f2
    · rename_i s1 s2 hs1 hs2
      have e2 := D.sc_rep hs1 rd
      have e3 := D.sc_rep hs2 rv'
      have e4 := of_decide_eq_true f2
      refine ⟨by rw [e1, e3, ← e4, e2], ?_⟩
      rw [e2]
      cases d <;> simp [D.sc, flatS] at hs1 f1 <;> subst hs1 <;> rfl
    · cases f2
  · cases f2
theorem eqD_opD : OpD K rEqR dEqD := by
  intro H Z a b d x y Q hz ra rb h k
  unfold dEqD at h
  split at h
  · rename_i he
    cases h
    obtain ⟨p, q, ks, ls, e1, e2, h1, h2, h3, h4⟩ := eqDct_rep he ra rb
    exact ⟨p, q, ks, ls, e1, e2, h1, h2, h3, h4, k _ H (Same.refl H) rfl⟩
  · cases h
theorem neD_opD : OpD K rNeR dNeD := by
  intro H Z a b d x y Q hz ra rb h k
  unfold dNeD at h
  split at h
  · rename_i he
    cases h
    obtain ⟨p, q, ks, ls, e1, e2, h1, h2, h3, h4⟩ := eqDct_rep he ra rb
    exact ⟨p, q, ks, ls, e1, e2, h1, h2, h3, h4, k _ H (Same.refl H) rfl⟩
  · cases h
end
/-! ### the signs of a text -/
def signs (x : Str) : List D := x.cps.toList.map fun c => .str ⟨#[c]⟩
def mItS (m : M D) : M (List D) := fun ρ => bindR (m ρ) fun d ρ => match d with
  | .str x => .ok (signs x) ρ
  | _ => .fail
section
variable {X : Cx} {E : XK} {tg e : Expr} {m : M D} {K : PySem.W.Frag}
theorem wk_str {x : Str} : WkD K (Its x) (signs x) [] := by
  refine ⟨fun H Z hz h i d hd => ?_, fun H Z h => ?_⟩
  · simp only [signs, List.getElem?_map, Array.getElem?_toList, Option.map_eq_some_iff] at hd
    obtain ⟨c, hc, rfl⟩ := hd
    have hi : i < x.cps.size := (Array.getElem?_eq_some_iff.mp hc).1
    refine ⟨hi, fun v H' hv => ?_⟩
    obtain ⟨rfl, c', hc', rfl⟩ := hv
    rw [hc] at hc'
    cases hc'
    exact ⟨Same.refl _, rfl⟩
  · show x.cps.size ≤ (signs x).length
    simp [signs]
theorem i_str (he : PE X e (tD X.K E m)) : PI X tg e (iD X.K E (mItS m)) := by
  refine (pi_str he).imp fun σ H R ⟨c, Z, ρ, r, q⟩ => ⟨c, Z, ρ, r, iR.bind q fun d ρ1 v H1 r1 e1 h1 q => ?_⟩
  cases d <;> first | (exact q.elim; done) | skip
  rename_i x
  exact ⟨x, h1, q _ [] H1 r1 Ext.refl (fun q hq => by cases hq) wk_str⟩
end
/-! ### a, b = x, [..] -/
def mParDO (i j : Nat) (m : M D) (mo : M Ct) : M Fl := fun ρ => bindR (m ρ) fun d ρ => bindR (mo ρ) fun t ρ => .ok .nx ((ρ.set i (some (.val d))).set j (some (.own t)))
section
variable {X : Cx} {E : XK} {pos : Pos} {m : M D} {mo : M Ct}
theorem NewAt.setD {K : PySem.W.Frag} {c : Cz} {Z : Addr → Prop} {ρ : Env} {σ : St} {H : Hp} {t : Ct} {p : Addr} (n : NewAt K c Z ρ σ H t p) {i : Nat} {d : D} {v : V} (hd : Rep K H Z d v) : NewAt K c Z (ρ.set i (some (.val d))) (σ.set i (some v)) H t p := by
  have r := n.rel.set (i := i) hd
  refine ⟨r, n.z, n.new, n.at_, fun j hj e => ?_, n.nh⟩
  by_cases h : i = j
  · subst h
    obtain ⟨u, hu⟩ := hj
    rcases hu with hu | hu <;>
    · have hi := (List.getElem?_eq_some_iff.mp hu).1
      rw [List.getElem?_set_self (by simpa using hi)] at hu
      cases hu
  · have hj' : isOwn ρ j := by
      obtain ⟨u, hu⟩ := hj
      rw [List.getElem?_set_ne h] at hu
      exact ⟨u, hu⟩
    rw [List.getElem?_set_ne h] at e
    exact n.no j hj' e
theorem s_parDO (i j : Nat) {x y : Str} {a b : Expr} {px py pt : Pos} {kt k2 pt2} (hc : X.calm = true) (hN : X.N.Nodup) (ha : PE X a (tD X.K E m)) (hb : PE X b (tO X.K E mo)) (hi : X.N[i]? = some x := by rfl) (hj : X.N[j]? = some y := by rfl) (hij : i ≠ j := by decide)
    (hx : X.env.scope.names.lookup x = some .local := by rfl) (hy : X.env.scope.names.lookup y = some .local := by rfl)
    (hw : swappedStores [.Tuple [.Name x px, .Name y py] kt pt] (.Tuple [a, b] k2 pt2) X.env = pure (some [x, y]) := by rfl)
    (hs : swapsWithSole [.Tuple [.Name x px, .Name y py] kt pt] (.Tuple [a, b] k2 pt2) pos.line X.env = pure false := by rfl)
    (hsa : starEach [a, b] X.env = (false, eval a X.env) :: starEach [b] X.env := by rfl) (hsb : starEach [b] X.env = (false, eval b X.env) :: starEach [] X.env := by rfl) :
    PS X (.Assign [.Tuple [.Name x px, .Name y py] kt pt] (.Tuple [a, b] k2 pt2) pos) (tS X.K E (mParDO i j m mo)) := by
  refine (ps_par hc hN hi hj hij hx hy (pa_cons ha (pa_cons hb pa_nil hsb) hsa) hw hs).imp fun Dn σ H h => ?_
  obtain ⟨c, ρ, ⟨Z, r⟩, q⟩ := h
  refine ⟨c, Z, ρ, r, tSR.expr q fun d ρ1 v H1 r1 hd q1 => ⟨c, Z, ρ1, r1, ?_⟩⟩
  cases em : mo ρ1 with
  | fail => rw [em] at q1; exact q1
  | exc x l ρ2 => rw [em] at q1; exact fun ed vs H' h1 h3 h4 h5 => q1 σ ed vs H' ⟨Z, h1⟩ h3 h4 (Reps.zed h1.z0 _ _ h5)
  | ok t ρ2 =>
    rw [em] at q1
    exact fun p Z' H' n hk => ⟨v, .ref p, rfl, q1 _ _ ⟨Z', (n.setD (hk d v hd)).set j⟩⟩
end
/-! ### items of a list of one's own -/
def mOwnIx (i : Nat) (m : M D) : M D := fun ρ => match holds ρ i with
  | some (.lst _) => bindR (m ρ) fun k ρ => match k, holds ρ i with
    | .int j, some (.lst l) => liftO (L2.atI l j) ρ
    | _, _ => .fail
  | _ => .fail
def cSetAt (j : Int) : Ct → D → Option Ct
  | .lst l, d => match ixN l.length j with
    | some k => some (.lst (l.set k d))
    | _ => none
  | _, _ => none
def mMutNow (i : Nat) (f : Ct → D → Option Ct) (d : D) : M Fl := fun ρ => match ρ[i]? with
  | some (some w) => (match holds ρ i with
    | some t => (match f t d with
      | some t' => .ok .nx (ρ.set i (some (w.put t')))
      | none => .fail)
    | none => .fail)
  | _ => .fail
/-- x[e] += e2, x a list of one's own -/
def mAugIx (i : Nat) (mi : M D) (f : D → D → Option D) (m : M D) : M Fl := fun ρ => match holds ρ i with
  | some (.lst _) => bindR (mi ρ) fun k ρ => (match k, holds ρ i with
    | .int j, some (.lst l) => if 0 ≤ j ∧ j < 2 ^ 63 then (match L2.atI l j with
      | some d0 => bindR (m ρ) fun d ρ => (match f d0 d with
        | some d' => mMutNow i (cSetAt j) d' ρ
        | none => .fail)
      | none => .fail) else .fail
    | _, _ => .fail)
  | _ => .fail
/-- x[e] = e2 -/
def mSetIx (i : Nat) (mi m : M D) : M Fl := fun ρ => bindR (m ρ) fun d ρ => (match holds ρ i with
  | some (.lst _) => bindR (mi ρ) fun k ρ => (match k, holds ρ i with
    | .int j, some (.lst _) => mMutNow i (cSetAt j) d ρ
    | _, _ => .fail)
  | _ => .fail)
section
variable {X : Cx} {E : XK} {pos tpos : Pos} {e b : Expr} {m mb : M D} {K : PySem.W.Frag}
theorem holds_rel {c : Cz} {Z : Addr → Prop} {ρ : Env} {σ : St} {H : Hp} {i : Nat} {t : Ct} (r : Rel K c Z ρ σ H) (h : holds ρ i = some t) : ∃ p w, ρ[i]? = some (some w) ∧ Hold w t ∧ σ[i]? = some (some (.ref p)) ∧ Z p ∧ RepC K H Z t p := by
  obtain ⟨w, hw, hh⟩ := holds_hold h
  obtain ⟨p, h1, h2, h3⟩ := r.hold hw hh
  exact ⟨p, w, hw, hh, h1, h2, h3⟩
theorem d_ownIx (i : Nat) {x : Str} {np : Pos} (hb : PE X b (tD X.K E mb)) (hN : X.N[i]? = some x := by rfl) (hv : Vis X.env.scope x := by first | exact Or.inl rfl | exact Or.inr (Or.inl rfl) | exact Or.inr (Or.inr rfl)) (hd : (x == ("__debug__" : Str)) = false := by decide) (hcd : (x == ("__classdict__" : Str)) = false := by decide)
    (hs : PlainIx b := by exact fun _ _ => rfl) : PE X (.Subscript (.Name x np) b pos) (tD X.K E (mOwnIx i mb)) := by
  refine (pe_ix ix_list (pe_var hN hv hd hcd) hb hs).imp fun σ H Q h => ?_
  obtain ⟨c, Z, ρ, r, q⟩ := h
  unfold mOwnIx at q
  split at q
  · rename_i l0 ht
    obtain ⟨p, w, _, _, h1, _, _⟩ := holds_rel r ht
    refine ⟨_, h1, c, Z, ρ, r, q.bind fun k ρ1 v H1 r1 e1 hk q1 => ?_⟩
    split at q1
    · rename_i j l ht1
      obtain ⟨p', w', _, _, g1, hz, o, ho, us, rfl, hus⟩ := holds_rel r1 ht1
      rw [h1] at g1
      cases g1
      cases (show v = _ from hk)
      obtain ⟨d, hd, kk⟩ := q1.lift r1
      obtain ⟨u, hu, ru⟩ := hus.atI hd
      exact ⟨p, us, j, u, rfl, rfl, .inl (.inl ho), hu, kk _ H1 (Same.refl H1) ru⟩
    · exact q1.elim
  · exact q.elim
def rGetL (K : PySem.W.Frag) : V → V → Hp → VK → Prop := fun x y H Q => ∃ p xs i v, x = .ref p ∧ y = .int i ∧ 0 ≤ i ∧ i < 2 ^ 63 ∧ SqL K H p xs ∧ L2.atI xs i = some v ∧ Q v H
theorem get_own : PGet X (rGetL X.K) := by
  intro pins s σ H o i ov iv Q I ro ri h
  obtain ⟨p, xs, j, z, rfl, rfl, h0, h63, hq, he, q⟩ := h
  cases ro
  obtain ⟨t, rfl⟩ := ri
  obtain ⟨its, r, pl, hz⟩ := I.list hq
  obtain ⟨k, h1, h2, h3, h4, h5⟩ := L2.atI_get he
  obtain ⟨w, ew, rw'⟩ := r.get h2
  have hj : j.toNat = k := by
    rw [seqIndex_of h0 h5] at h1
    exact Option.some.inj h1
  exact wpAny_getItem_list pl.isList h0 h63 (by rw [hj]; simpa using ew) ⟨z, H, I, rw', q⟩
theorem cSetAt_ok {c : Cz} {Z : Addr → Prop} {ρ : Env} {σ : St} {H : Hp} {Dn : Ends} {i : Nat} {j : Int} {d : D} {v : V} {p : Addr} (r : Rel K c Z ρ σ H) (hp : σ[i]? = some (some (.ref p))) (hd : Rep K H Z d v) (q : tSR K E c Dn (mMutNow i (cSetAt j) d ρ)) :
    ∃ us k, H p = some (.lst us) ∧ ixN us.length j = some k ∧ Dn.nx σ (upd H p (.lst (us.set k v))) := by
  obtain ⟨p', t, t', h1, ⟨o, h2, h3⟩, hz, hf, kk⟩ := mut_gen (d := d) q r
  rw [hp] at h1
  cases h1
  cases t with
  | dct _ _ => cases hf
  | ob _ _ => cases hf
  | lst l =>
    obtain ⟨us, rfl, hus⟩ := h3
    simp only [cSetAt] at hf
    split at hf
    · rename_i k hk
      cases hf
      have ex : Ext Z H (upd H p (.lst (us.set k v))) := fun a o nz e => by rw [upd_ne (fun z => nz (by rw [z]; exact hz))]; exact e
      exact ⟨us, k, h2, by rw [← hus.len]; exact hk, kk _ (fun a o ne e => by rw [upd_ne ne]; exact e) ⟨_, upd_same, _, rfl, Reps.set (Rep.ext ex _ _ hd) k (Reps.ext ex _ _ hus)⟩⟩
    · cases hf
theorem s_augIx (i : Nat) {x : Str} {np : Pos} {ei : Expr} {mi : M D} {op : Operator} {g : Int → Int → Int} {f : D → D → Option D} (ho : PIp X op (ipI g)) (hg : ∀ a b d, f a b = some d → ∃ j k, a = .int j ∧ b = .int k ∧ d = .int (g j k)) (hei : PE X ei (tD X.K E mi)) (he : PE X e (tD X.K E m))
    (hN : X.N[i]? = some x := by rfl) (hv : Vis X.env.scope x := by first | exact Or.inl rfl | exact Or.inr (Or.inl rfl) | exact Or.inr (Or.inr rfl)) (hd : (x == ("__debug__" : Str)) = false := by decide) (hcd : (x == ("__classdict__" : Str)) = false := by decide)
    (ha : ∀ ov iv new, augStore ei ov iv new = (do holding [new, ov, iv] (setItem ov iv new); release [new, ov, iv] []; pure .next) := by intros; rfl) :
    PS X (.AugAssign (.Subscript (.Name x np) ei tpos) op e pos) (tS X.K E (mAugIx i mi f m)) := by
  refine (ps_augS (pe_var hN hv hd hcd) hei get_own he ho set_list ha).imp fun Dn σ H h => ?_
  obtain ⟨c, ρ, ⟨Z, r⟩, q⟩ := h
  unfold mAugIx at q
  split at q
  · rename_i l0 ht
    obtain ⟨p, w, _, _, h1, _, _⟩ := holds_rel r ht
    refine ⟨_, h1, c, Z, ρ, r, tSR.expr q fun k ρ1 v H1 r1 hk q1 => ?_⟩
    split at q1
    · rename_i j l ht1
      split at q1
      · rename_i hj
        split at q1
        · rename_i d0 hd0
          obtain ⟨p', w', _, _, g1, hz, o, ho', us, rfl, hus⟩ := holds_rel r1 ht1
          rw [h1] at g1
          cases g1
          cases (show v = _ from hk)
          obtain ⟨u0, hu0, ru0⟩ := hus.atI hd0
          refine ⟨p, us, j, u0, rfl, rfl, hj.1, hj.2, .inl (.inl ho'), hu0, c, Z, ρ1, r1, tSR.expr q1 fun d ρ2 y H2 r2 hd q2 => ?_⟩
          split at q2
          · rename_i d' hf
            obtain ⟨a, b, rfl, rfl, rfl⟩ := hg _ _ _ hf
            cases (show u0 = _ from ru0)
            cases (show y = _ from hd)
            obtain ⟨us', k', g2, g3, g4⟩ := cSetAt_ok (d := .int (g a b)) (v := .int (g a b)) r2 h1 (show Rep X.K H2 Z (.int (g a b)) (.int (g a b)) from rfl) q2
            exact ⟨a, b, rfl, rfl, p, us', j, k', rfl, rfl, g2, g3, g4⟩
          · exact q2.elim
        · exact q1.elim
      · exact q1.elim
    · exact q1.elim
  · exact q.elim
end
/-! ### a thing of one's own is looked at -/
/-- nothing in the slots changes -/
class Still {α : Type} (m : M α) : Prop where
  st : ∀ ρ a ρ', m ρ = .ok a ρ' → ρ' = ρ
instance {i : Nat} : Still (mVar i) := ⟨fun ρ a ρ' h => by
  unfold mVar at h
  split at h <;> cases h
  rfl⟩
instance {d : D} : Still (mC d) := ⟨fun ρ a ρ' h => by cases h; rfl⟩
theorem liftO_st {α : Type} {o : Option α} {ρ ρ' : Env} {a : α} (h : liftO o ρ = .ok a ρ') : ρ' = ρ := by
  cases o <;> cases h
  rfl
instance {f : D → Option D} {m : M D} [i : Still m] : Still (m1 f m) := ⟨fun ρ a ρ' h => by
  obtain ⟨x, ρ1, h1, h2⟩ := bind_ok h
  rw [liftO_st h2, i.st _ _ _ h1]⟩
instance {f : D → D → Option D} {m m' : M D} [i : Still m] [j : Still m'] : Still (m2 f m m') := ⟨fun ρ a ρ' h => by
  obtain ⟨x, ρ1, h1, h2⟩ := bind_ok h
  obtain ⟨y, ρ2, h3, h4⟩ := bind_ok h2
  rw [liftO_st h4, j.st _ _ _ h3, i.st _ _ _ h1]⟩
end DL
set_option Elab.async false
set_option linter.all false
set_option maxRecDepth 100000
set_option maxHeartbeats 4000000
namespace DL
open PySem PySem.Spec PyProof.Rows L2
theorem bt_len : bootBuiltins "len" = some (.builtin "len") := by decide +kernel
theorem bt_abs : bootBuiltins "abs" = some (.builtin "abs") := by decide +kernel
theorem bt_sum : bootBuiltins "sum" = some (.builtin "sum") := by decide +kernel
theorem bt_any : bootBuiltins "any" = some (.builtin "any") := by decide +kernel
theorem bt_all : bootBuiltins "all" = some (.builtin "all") := by decide +kernel
theorem bt_max : bootBuiltins "max" = some (.builtin "max") := by decide +kernel
theorem bt_min : bootBuiltins "min" = some (.builtin "min") := by decide +kernel
theorem bt_sorted : bootBuiltins "sorted" = some (.builtin "sorted") := by decide +kernel
theorem bt_int : bootBuiltins "int" = some (.type "int") := by decide +kernel
theorem bt_bool : bootBuiltins "bool" = some (.type "bool") := by decide +kernel
theorem bt_str : bootBuiltins "str" = some (.type "str") := by decide +kernel
theorem bt_list : bootBuiltins "list" = some (.type "list") := by decide +kernel
theorem bt_tuple : bootBuiltins "tuple" = some (.type "tuple") := by decide +kernel
theorem bt_dict : bootBuiltins "dict" = some (.type "dict") := by decide +kernel
theorem p0 {X : Cx} {E : XK} : Passes CX0 X E := fun _ _ _ _ _ _ _ h => h.elim
def dAddI : D → D → Option D
  | .int i, .int j => some (.int (i + j))
  | _, _ => none
theorem add_opI : ∀ a b d : D, dAddI a b = some d → ∃ j k, a = .int j ∧ b = .int k ∧ d = .int (j + k) := by
  intro a b d h
  unfold dAddI at h
  split at h <;> cases h
  exact ⟨_, _, rfl, rfl, rfl⟩
variable [CTab]
section
variable {X : Cx} {E : XK} {pos : Pos}
theorem c_eqA {k : Nat} (hr : Room k X.A) : CmpD X .Eq dEqA := by
  obtain ⟨r, h1, h2⟩ := c_eq (X := X) hr
  exact ⟨_, h1.or (op_eqR hr.units0), h2.orL eqD_opD⟩
theorem c_neA {k : Nat} (hr : Room k X.A) : CmpD X .NotEq dNeA := by
  obtain ⟨r, h1, h2⟩ := c_ne (X := X) hr
  exact ⟨_, h1.or (op_neR hr.units0), h2.orL neD_opD⟩
theorem d_dict0 : PE X (.Dict [] [] pos) (tD X.K E (mC (.dct [] []))) := by
  refine pe_dnewK.imp fun σ H Q h => ?_
  obtain ⟨c, Z, ρ, r, q⟩ := h
  intro p hp
  refine q.new r (same_upd hp) ?_
  show Rep X.K _ Z (.dct [] []) (.ref p)
  simp only [Rep]
  exact ⟨p, [], rfl, r.zfree hp, .inl upd_same, rfl, rfl⟩
end
end DL
set_option Elab.async false
set_option linter.all false
set_option maxRecDepth 100000
set_option maxHeartbeats 4000000
namespace DL
open PySem PySem.Spec PyProof.Rows L2
variable [CTab]
/-! ### list comprehensions with two fors -/
section
variable {K : PySem.W.Frag} {c : Cz} {Z : Addr → Prop} {ρ1 ρF : Env} {σ : St} {H1 : Hp} {vs is : List Nat} {P : Addr} {g : MT} {tt : M Bool} {m : M D} {J : It} {ds ys0 zs : List D} {ex : List (D × V)} {Fn : Hp → Prop}
/-- behind an item in which the hidden thing has grown -/
theorem Rel.back' {t t' : Ct} {ρ ρ' : Env} {σ' : St} {H H' : Hp} (r : Rel K (c.withHid P t) Z ρ σ H) (r' : Rel K (c.withHid P t') Z ρ' σ' H') (hn : ∀ v ∈ vs, notOwn ρ v = true) (e : Ext Z H H') (o : ∀ j, j ∉ vs → σ'[j]? = σ[j]?) (hl : σ'.length = σ.length) : Rel K (c.withHid P t') Z (restore ρ ρ' vs) σ H' := by
  have rb := Rel.back r.unhide r'.unhide hn e o hl
  refine ⟨rb.frame, rb.keep, rb.base, rb.len, rb.dom, rb.val, rb.own, rb.inn, rb.inj, rb.xs, fun q hq => ?_⟩
  rcases List.mem_cons.mp hq with eq | hq
  · subst eq
    refine ⟨r'.hidAt.1, r'.hidAt.2.1, fun j ⟨u, hu⟩ => ?_⟩
    have hj : j ∉ vs := fun z => by
      have hh := hn j z
      rw [restore_at vs j (by rw [r'.len, r.len, hl]), if_pos z] at hu
      exact absurd ⟨u, hu⟩ (notOwn_no hh)
    rw [restore_at vs j (by rw [r'.len, r.len, hl]), if_neg hj] at hu
    rw [← o j hj]
    exact r'.hidAt.2.2 j ⟨u, hu⟩
  · exact rb.hd q hq
/-- the loop of a comprehension, behind items that lie there already -/
theorem lc_loop (hg : ∀ j ∈ is, j ∈ vs) (wk : WkD K J ds ex) (h0 : c.H0 P = none) (hnh : ∀ q ∈ c.hid, q.1 ≠ P) (hZ : Z P) (hno : ∀ v ∈ vs, notOwn ρ1 v = true) (r1 : Rel K ((c.withEx ex).withHid P (.lst ys0)) Z ρ1 σ H1)
    (hrun : lcs (lcIt vs g tt m) ds ρ1 = .ok zs ρF) (hbd : (ys0 ++ zs).length ≤ sizeLine) (fin : ∀ H', Rel K ((c.withEx ex).withHid P (.lst (ys0 ++ zs))) Z ρF σ H' → Ext Z H1 H' → Fn H') :
    ∃ W : Nat → Nat → Hp → Prop, (∃ k, W 0 k H1) ∧ ∀ i k H, W i k H → (J.stop i H ∧ Fn H) ∨ (J.go i H ∧ ∃ Nx : Hp → Prop, (∀ H', Nx H' → ∃ k', k' < k ∧ W (i + 1) k' H') ∧ ∀ x H', J.yld i H x H' → tTG K is g x (L2.wipe σ vs) H' fun σ2 H2 => L2.wipe σ2 vs = L2.wipe σ vs ∧ tT K E0 tt σ2 H2 fun b H3 =>
      if b = true then tD K E0 m σ2 H3 fun y H4 => ∃ acc, H4 P = some (.lst acc) ∧ acc.length < sizeLine ∧ Nx (upd H4 P (.lst (acc ++ [y]))) else Nx H3) := by
  refine ⟨fun i k H => k = ds.length - i ∧ i ≤ ds.length ∧ ∃ ys ρ ws, Rel K ((c.withEx ex).withHid P (.lst ys)) Z ρ σ H ∧ Ext Z H1 H ∧ (∀ v ∈ vs, notOwn ρ v = true) ∧ lcs (lcIt vs g tt m) (ds.drop i) ρ = .ok ws ρF ∧ ys ++ ws = ys0 ++ zs,
    ⟨_, rfl, Nat.zero_le _, ys0, ρ1, zs, r1, Ext.refl, hno, hrun, rfl⟩, ?_⟩
  rintro i k H2 ⟨rfl, hi, ys, ρ2, ws, r2, e2, hno2, hgo, hl⟩
  by_cases hlt : i < ds.length
  · refine .inr ?_
    have hd : ds[i]? = some ds[i] := List.getElem?_eq_getElem hlt
    obtain ⟨go, yl⟩ := wk.go H2 _ r2.dom (fun q hq => r2.xs q (List.mem_append_left _ hq)) i ds[i] hd
    rw [List.drop_eq_getElem_cons hlt] at hgo
    unfold lcs at hgo
    cases ef : lcIt vs g tt m ds[i] ρ2 with
    | fail => rw [ef] at hgo; cases hgo
    | exc _ _ _ => rw [ef] at hgo; cases hgo
    | ok o ρ3 =>
      rw [ef] at hgo
      simp only at hgo
      cases er : lcs (lcIt vs g tt m) (ds.drop (i + 1)) ρ3 with
      | fail => rw [er] at hgo; cases hgo
      | exc _ _ _ => rw [er] at hgo; cases hgo
      | ok us ρ4 =>
        rw [er] at hgo
        simp only at hgo
        refine ⟨go, fun H' => ∃ ys', Rel K ((c.withEx ex).withHid P (.lst ys')) Z ρ3 σ H' ∧ Ext Z H1 H' ∧ (∀ v ∈ vs, notOwn ρ3 v = true) ∧ ys' ++ us = ys0 ++ zs,
          fun H' ⟨ys', k2, k3, k4, k5⟩ => ⟨ds.length - (i + 1), by omega, rfl, hlt, ys', ρ3, us, k2, k3, k4, by rw [er]; cases hgo; rfl, k5⟩, fun x H' y => ?_⟩
        obtain ⟨s3, rd⟩ := yl x H' y
        unfold lcIt at ef
        split at ef
        · cases ef
        · rename_i ρg hgd
          refine ⟨_, _, _, _, ρg, (r2.same s3).wipe vs, rd, hgd, fun σ4 H4 r4 s4 o4 => ?_⟩
          have out4 : ∀ j, j ∉ vs → σ4[j]? = σ[j]? := fun j hj => (o4.2 j fun z => hj (hg j z)).trans (wipe_at vs j hj)
          have len4 : σ4.length = σ.length := by rw [o4.1, wipe_len]
          refine ⟨(wipe_eq len4 out4), _, _, _, r4, ?_⟩
          split at ef
          · rename_i ρt ht
            rw [ht]
            intro b H5 r5 e5 hb5
            cases (show true = b from hb5)
            rw [if_pos rfl]
            refine ⟨_, _, _, r5, ?_⟩
            split at ef
            · rename_i yv ρy hy
              rw [hy]
              intro v H6 r6 e6 hv
              cases ef
              have ex6 : Ext Z H2 H6 := ((Ext.same s3).trans (Ext.same s4)).trans (e5.trans e6)
              have rb := Rel.back r2 r6 hno2 ex6 out4 len4
              obtain ⟨hz, ⟨o, ho, us', rfl, hus⟩, _⟩ := r6.hidAt
              cases hgo
              have ex7 : Ext Z H6 (upd H6 P (.lst (us' ++ [v]))) := fun a o nz e => by rw [upd_ne (fun z => nz (by rw [z]; exact hZ))]; exact e
              have hlen := congrArg List.length hl
              rw [List.length_append, List.length_cons] at hlen
              refine ⟨us', ho, by rw [← hus.len]; omega, ys ++ [yv], rb.putHid h0 hnh (fun a o ne e => by rw [upd_ne ne]; exact e) ⟨_, upd_same, _, rfl, ?_⟩, e2.trans (ex6.trans ex7), notOwn_back (by rw [r6.len, r2.len, len4]) hno2, ?_⟩
              · exact (Reps.ext ex7 _ _ hus).app (Reps.one (Rep.ext ex7 _ _ hv))
              · rw [← hl]
                simp
            · cases ef
          · rename_i ρt ht
            rw [ht]
            intro b H5 r5 e5 hb5
            cases (show false = b from hb5)
            rw [if_neg (by decide)]
            cases ef
            have ex6 : Ext Z H2 H5 := ((Ext.same s3).trans (Ext.same s4)).trans e5
            refine ⟨ys, Rel.back r2 r5 hno2 ex6 out4 len4, e2.trans ex6, notOwn_back (by rw [r5.len, r2.len, len4]) hno2, ?_⟩
            cases hgo
            exact hl
          · cases ef
  · have e0 : i = ds.length := by omega
    subst e0
    rw [List.drop_length] at hgo
    cases hgo
    rw [List.append_nil] at hl
    subst hl
    exact .inl ⟨wk.stop H2 _ (fun q hq => r2.xs q (List.mem_append_left _ hq)), fin H2 r2 e2⟩
end
def lcIt2 (vs : List Nat) (g : MT) (t : M Bool) (vs1 : List Nat) (mi1 : M (List D)) (g1 : MT) (t1 : M Bool) (m : M D) (d : D) (ρ : Env) : Res (List D) := match g d (wipeE ρ vs) with
  | none => .fail
  | some ρ1 => (match t ρ1 with
    | .ok true ρ2 => (match mi1 ρ2 with
      | .ok ds1 ρ3 => if vs1.all (notOwn ρ3) = true then (match lcs (lcIt vs1 g1 t1 m) ds1 ρ3 with
        | .ok ys ρ4 => .ok ys (restore ρ ρ4 vs)
        | _ => .fail) else .fail
      | _ => .fail)
    | .ok false ρ2 => .ok [] (restore ρ ρ2 vs)
    | _ => .fail)
def lcs2 (f : D → Env → Res (List D)) : List D → Env → Res (List D)
  | [], ρ => .ok [] ρ
  | d :: ds, ρ => match f d ρ with
    | .ok ys ρ1 => (match lcs2 f ds ρ1 with
      | .ok zs ρ2 => .ok (ys ++ zs) ρ2
      | _ => .fail)
    | _ => .fail
/-- the items of a comprehension with two fors -/
def mComp2 (vs : List Nat) (mi : M (List D)) (g : MT) (t : M Bool) (vs1 : List Nat) (mi1 : M (List D)) (g1 : MT) (t1 : M Bool) (m : M D) : M (List D) := fun ρ => bindR (mi ρ) fun ds ρ => if vs.all (notOwn ρ) = true then (match lcs2 (lcIt2 vs g t vs1 mi1 g1 t1 m) ds ρ with
    | .ok l ρ' => if l.length ≤ sizeLine then .ok l ρ' else .fail
    | _ => .fail) else .fail
section
variable {K : PySem.W.Frag} {vs vs1 is is1 : List Nat} {mi mi1 : M (List D)} {g g1 : MT} {tt t1 : M Bool} {m : M D}
theorem lc2_gen {σ : St} {H : Hp} {Q : VK} {E : XK} (hg : ∀ j ∈ is, j ∈ vs) (hg1 : ∀ j ∈ is1, j ∈ vs1)
    (h : ∃ c Z ρ, Rel K c Z ρ σ H ∧ match mComp2 vs mi g tt vs1 mi1 g1 t1 m ρ with
      | .fail => False
      | .exc x l ρ' => ∀ ed us H', Rel K c Z ρ' σ H' → Ext Z H H' → H' ed = some (.xd ((cF x).zip us)) → us.length ≤ (cF x).length → Reps K H' Z l us → E (.ref (He.ga K (cN x))) (some ed) H'
      | .ok l ρ' => ∀ P H1 H', H1 P = none → Ext Z H H1 → (∀ p, Z p → H1 p ≠ none) → NewAt K c (fun a => Z a ∨ a = P) ρ' σ H' (.lst l) P → Ext (fun a => Z a ∨ a = P) H1 H' → Q (.ref P) H') :
    tLc2 (iD K E mi) (tTG K is g) (tT K E0 tt) (iD K E0 mi1) (tTG K is1 g1) (tT K E0 t1) (tD K E0 m) vs vs1 σ H Q := by
  obtain ⟨c, Z, ρ, r, q⟩ := h
  refine ⟨c, Z, ρ, r, ?_⟩
  unfold mComp2 at q
  cases em : mi ρ with
  | fail => rw [em] at q; exact q
  | exc x l ρ1 => rw [em] at q; exact q
  | ok ds ρ1 =>
    rw [em, bindR_ok] at q
    intro J ex H1 r1 e1 hex wk P hP
    by_cases hno : vs.all (notOwn ρ1) = true
    · rw [if_pos hno] at q
      have hno : ∀ v ∈ vs, notOwn ρ1 v = true := by simpa using hno
      cases el : lcs2 (lcIt2 vs g tt vs1 mi1 g1 t1 m) ds ρ1 with
      | fail => rw [el] at q; exact q.elim
      | exc x l ρ' => rw [el] at q; exact q.elim
      | ok l ρF =>
        rw [el] at q
        simp only at q
        by_cases hbd : l.length ≤ sizeLine
        · rw [if_pos hbd] at q
          have fin := fun H' => q P H1 H' hP e1 r1.dom
          clear q em
          have n0 := (r1.more hex).newAt (p := P) (o := .lst []) (t := .lst []) hP ⟨[], rfl, Reps.nil⟩
          refine ⟨fun i k H => k = ds.length - i ∧ i ≤ ds.length ∧ ∃ ys ρ zs, Rel K ((c.withEx ex).withHid P (.lst ys)) (fun a => Z a ∨ a = P) ρ σ H ∧ Ext (fun a => Z a ∨ a = P) H1 H ∧ (∀ v ∈ vs, notOwn ρ v = true) ∧ lcs2 (lcIt2 vs g tt vs1 mi1 g1 t1 m) (ds.drop i) ρ = .ok zs ρF ∧ ys ++ zs = l,
            ⟨_, rfl, Nat.zero_le _, [], ρ1, l, n0.hide, fun a o nz e => by rw [upd_ne (fun z => nz (.inr z))]; exact e, hno, el, rfl⟩, ?_⟩
          rintro i k H2 ⟨rfl, hi, ys, ρ2, zs, r2, e2, hno2, hgo, hl⟩
          by_cases hlt : i < ds.length
          · refine .inr ?_
            have hd : ds[i]? = some ds[i] := List.getElem?_eq_getElem hlt
            obtain ⟨go, yl⟩ := wk.go H2 _ r2.dom (fun q hq => r2.xs q (List.mem_append_left _ hq)) i ds[i] hd
            rw [List.drop_eq_getElem_cons hlt] at hgo
            unfold lcs2 at hgo
            cases ef : lcIt2 vs g tt vs1 mi1 g1 t1 m ds[i] ρ2 with
            | fail => rw [ef] at hgo; cases hgo
            | exc _ _ _ => rw [ef] at hgo; cases hgo
            | ok ws ρ3 =>
              rw [ef] at hgo
              simp only at hgo
              cases er : lcs2 (lcIt2 vs g tt vs1 mi1 g1 t1 m) (ds.drop (i + 1)) ρ3 with
              | fail => rw [er] at hgo; cases hgo
              | exc _ _ _ => rw [er] at hgo; cases hgo
              | ok us ρ4 =>
                rw [er] at hgo
                simp only at hgo
                cases hgo
                refine ⟨go, fun H' => ∃ ys', Rel K ((c.withEx ex).withHid P (.lst ys')) (fun a => Z a ∨ a = P) ρ3 σ H' ∧ Ext (fun a => Z a ∨ a = P) H1 H' ∧ (∀ v ∈ vs, notOwn ρ3 v = true) ∧ ys' ++ us = l,
                  fun H' ⟨ys', k2, k3, k4, k5⟩ => ⟨ds.length - (i + 1), by omega, rfl, hlt, ys', ρ3, us, k2, k3, k4, er, k5⟩, fun x H' y => ?_⟩
                obtain ⟨s3, rd⟩ := yl x H' y
                unfold lcIt2 at ef
                split at ef
                · cases ef
                · rename_i ρg hgd
                  refine ⟨_, _, _, _, ρg, (r2.same s3).wipe vs, rd, hgd, fun σ4 H4 r4 s4 o4 => ?_⟩
                  have out4 : ∀ j, j ∉ vs → σ4[j]? = σ[j]? := fun j hj => (o4.2 j fun z => hj (hg j z)).trans (wipe_at vs j hj)
                  have len4 : σ4.length = σ.length := by rw [o4.1, wipe_len]
                  refine ⟨(wipe_eq len4 out4), _, _, _, r4, ?_⟩
                  split at ef
                  · rename_i ρt ht
                    rw [ht]
                    intro b H5 r5 e5 hb5
                    cases (show true = b from hb5)
                    rw [if_pos rfl]
                    refine ⟨_, _, _, r5, ?_⟩
                    split at ef
                    · rename_i ds1 ρm hm1
                      rw [hm1]
                      intro J1 ex1 H6 r6 e6 hex1 wk1
                      split at ef
                      · rename_i hno1
                        have hno1 : ∀ v ∈ vs1, notOwn ρm v = true := by simpa using hno1
                        split at ef
                        · rename_i ws' ρw hw
                          cases ef
                          have hb2 : (ys ++ ws).length ≤ sizeLine := by
                            have hlen := congrArg List.length hl
                            simp only [List.length_append] at hlen ⊢
                            omega
                          refine lc_loop (c := c.withEx ex) (ex := ex1) (ys0 := ys) hg1 wk1 n0.new n0.nh (.inr rfl) hno1 (r6.more hex1) hw hb2 fun H' rr ee => ?_
                          have ex6 : Ext (fun a => Z a ∨ a = P) H2 H' := ((Ext.same s3).trans (Ext.same s4)).trans ((e5.trans e6).trans ee)
                          have rr' : Rel K ((c.withEx ex).withHid P (.lst (ys ++ ws))) (fun a => Z a ∨ a = P) ρw σ4 H' := Rel.less (c := (c.withEx ex).withHid P (.lst (ys ++ ws))) (ex := ex1) rr
                          have rb : Rel K ((c.withEx ex).withHid P (.lst (ys ++ ws))) (fun a => Z a ∨ a = P) (restore ρ2 ρw vs) σ H' := Rel.back' r2 rr' hno2 ex6 out4 len4
                          exact ⟨ys ++ ws, rb, e2.trans ex6, notOwn_back (by rw [rr'.len, r2.len, len4]) hno2, by rw [← hl]; simp⟩
                        · cases ef
                      · cases ef
                    · cases ef
                  · rename_i ρt ht
                    rw [ht]
                    intro b H5 r5 e5 hb5
                    cases (show false = b from hb5)
                    rw [if_neg (by decide)]
                    cases ef
                    have ex6 : Ext (fun a => Z a ∨ a = P) H2 H5 := ((Ext.same s3).trans (Ext.same s4)).trans e5
                    exact ⟨ys, Rel.back r2 r5 hno2 ex6 out4 len4, e2.trans ex6, notOwn_back (by rw [r5.len, r2.len, len4]) hno2, hl⟩
                  · cases ef
          · have e0 : i = ds.length := by omega
            subst e0
            rw [List.drop_length] at hgo
            cases hgo
            rw [List.append_nil] at hl
            subst hl
            have rl : Rel K (c.withHid P (.lst ys)) (fun a => Z a ∨ a = P) _ σ H2 := ⟨r2.frame, r2.keep, r2.base, r2.len, r2.dom, r2.val, r2.own, r2.inn, r2.inj, fun q hq => r2.xs q (List.mem_append_right _ hq), r2.hd⟩
            exact .inl ⟨wk.stop H2 _ (fun q hq => r2.xs q (List.mem_append_left _ hq)), fin H2 (rl.showAt n0.new n0.nh) e2⟩
        · rw [if_neg hbd] at q
          exact q.elim
    · rw [if_neg hno] at q
      exact q.elim
end
end DL
namespace DL
open PySem PySem.Spec PyProof.Rows L2
variable [CTab]
section
variable {X : Cx} {E : XK} {pos spos py : Pos} {elt tg iter tg1 iter1 : Expr} {ifs ifs1 : List Expr} {scope : Scope} {vs vs1 is is1 : List Nat} {mi mi1 : M (List D)} {g g1 : MT} {t t1 : M Bool} {m : M D} {y : Str}
theorem lc2D {K : PySem.W.Frag} {σ : St} {H : Hp} {Q : VK} (hg : ∀ j ∈ is, j ∈ vs) (hg1 : ∀ j ∈ is1, j ∈ vs1) (h : tD K E (mLcD (mComp2 vs mi g t vs1 mi1 g1 t1 m)) σ H Q) : tLc2 (iD K E mi) (tTG K is g) (tT K E0 t) (iD K E0 mi1) (tTG K is1 g1) (tT K E0 t1) (tD K E0 m) vs vs1 σ H Q := by
  obtain ⟨c, Z, ρ, r, q⟩ := h
  refine lc2_gen hg hg1 ⟨c, Z, ρ, r, ?_⟩
  unfold mLcD at q
  cases ec : mComp2 vs mi g t vs1 mi1 g1 t1 m ρ with
  | fail => rw [ec] at q; exact q
  | exc x l ρ' => rw [ec] at q; exact q
  | ok l ρ' =>
    rw [ec] at q
    intro D H1 H' hD e1 hz n e2
    have hnz : ¬ Z D := fun z => hz D z hD
    obtain ⟨r', rp⟩ := n.frz (Y := Z) (fun a => Iff.rfl) hnz
    exact q (.ref D) H' r' (e1.trans (ext_or e2 hD)) rp
/-- [elt for tg in iter if .. for tg1 in iter1 if ..] -/
theorem d_lc2 (own : List (Str × Nat)) (vs1 : List Nat) (hc : X.calm = true) (hN : X.N.Nodup) (ok : BlkOk X.N X.env.scope scope own) (hv : ∀ i ∈ vs1, i ∈ own.map (·.2)) (hg0 : ∀ j ∈ is, j ∈ own.map (·.2)) (hg01 : ∀ j ∈ is1, j ∈ vs1) (hi : PI X tg iter (iD X.K E mi))
    (hg : ∀ (s : Shared) (H : Hp) (C : Addr) (cl : List (Str × Addr)) (fp : List Addr), PG (X.blk s H scope (compEnvC scope cl C X.env) fp) tg (tTG X.K is g)) (ht : ∀ (s : Shared) (H : Hp) (C : Addr) (cl : List (Str × Addr)) (fp : List Addr), PTs (X.blk s H scope (compEnvC scope cl C X.env) fp) ifs (tT X.K E0 t))
    (hi1 : ∀ (s : Shared) (H : Hp) (C : Addr) (cl : List (Str × Addr)) (fp : List Addr), PI (X.blk s H scope (compEnvC scope cl C X.env) fp) tg1 iter1 (iD X.K E0 mi1))
    (hg1 : ∀ (s : Shared) (H : Hp) (C : Addr) (cl : List (Str × Addr)) (fp : List Addr), PG (X.blk s H scope (compEnvC scope cl C X.env) fp) tg1 (tTG X.K is1 g1)) (ht1 : ∀ (s : Shared) (H : Hp) (C : Addr) (cl : List (Str × Addr)) (fp : List Addr), PTs (X.blk s H scope (compEnvC scope cl C X.env) fp) ifs1 (tT X.K E0 t1))
    (he : ∀ (s : Shared) (H : Hp) (C : Addr) (cl : List (Str × Addr)) (fp : List Addr), PE (X.blk s H scope (compEnvC scope cl C X.env) fp) elt (tD X.K E0 m)) (hs : ∀ x, foldedSetIterable iter X.env x = pure x := by intro _; rfl) (hs1 : ∀ env x, foldedSetIterable iter1 env x = pure x := by intro _ _; rfl) :
    PE X (.ListComp elt [⟨tg, iter, ifs, 0⟩, ⟨tg1, iter1, ifs1, 0⟩] scope pos) (tD X.K E (mLcD (mComp2 (own.map (·.2)) mi g t vs1 mi1 g1 t1 m))) :=
  (pe_lc2 hc hN hi ok hv hg ht hi1 hg1 ht1 he hs hs1).imp fun _ _ _ h => lc2D hg0 hg01 h
theorem s_setLc2 (i : Nat) (own : List (Str × Nat)) (vs1 : List Nat) (hc : X.calm = true) (hN : X.N.Nodup) (ok : BlkOk X.N X.env.scope scope own) (hv : ∀ i ∈ vs1, i ∈ own.map (·.2)) (hg0 : ∀ j ∈ is, j ∈ own.map (·.2)) (hg01 : ∀ j ∈ is1, j ∈ vs1) (hi : PI X tg iter (iD X.K E mi))
    (hg : ∀ (s : Shared) (H : Hp) (C : Addr) (cl : List (Str × Addr)) (fp : List Addr), PG (X.blk s H scope (compEnvC scope cl C X.env) fp) tg (tTG X.K is g)) (ht : ∀ (s : Shared) (H : Hp) (C : Addr) (cl : List (Str × Addr)) (fp : List Addr), PTs (X.blk s H scope (compEnvC scope cl C X.env) fp) ifs (tT X.K E0 t))
    (hi1 : ∀ (s : Shared) (H : Hp) (C : Addr) (cl : List (Str × Addr)) (fp : List Addr), PI (X.blk s H scope (compEnvC scope cl C X.env) fp) tg1 iter1 (iD X.K E0 mi1))
    (hg1 : ∀ (s : Shared) (H : Hp) (C : Addr) (cl : List (Str × Addr)) (fp : List Addr), PG (X.blk s H scope (compEnvC scope cl C X.env) fp) tg1 (tTG X.K is1 g1)) (ht1 : ∀ (s : Shared) (H : Hp) (C : Addr) (cl : List (Str × Addr)) (fp : List Addr), PTs (X.blk s H scope (compEnvC scope cl C X.env) fp) ifs1 (tT X.K E0 t1))
    (he : ∀ (s : Shared) (H : Hp) (C : Addr) (cl : List (Str × Addr)) (fp : List Addr), PE (X.blk s H scope (compEnvC scope cl C X.env) fp) elt (tD X.K E0 m)) (hs : ∀ x, foldedSetIterable iter X.env x = pure x := by intro _; rfl) (hs1 : ∀ env x, foldedSetIterable iter1 env x = pure x := by intro _ _; rfl)
    (hy : X.N[i]? = some y := by rfl) (hyl : X.env.scope.names.lookup y = some .local := by rfl) (hsw : swapsWith (.ListComp elt [⟨tg, iter, ifs, 0⟩, ⟨tg1, iter1, ifs1, 0⟩] scope pos) (some (.Name y py)) spos.line X.env = pure true := by exact sw_true rfl rfl rfl (by decide +kernel)) :
    PS X (.Assign [.Name y py] (.ListComp elt [⟨tg, iter, ifs, 0⟩, ⟨tg1, iter1, ifs1, 0⟩] scope pos) spos) (tS X.K E (mSet i (mLcD (mComp2 (own.map (·.2)) mi g t vs1 mi1 g1 t1 m)))) := by
  refine (ps_setLc2 hc hN hy hyl hsw hi ok hv hg ht hi1 hg1 ht1 he hs hs1).imp fun Dn σ H h => ?_
  obtain ⟨c, ρ, ⟨Z, r⟩, q⟩ := h
  exact lc2D hg0 hg01 ⟨c, Z, ρ, r, tSR.expr (k := fun d ρ => .ok .nx (ρ.set i (some (.val d)))) q fun d ρ1 v H1 r1 h1 q1 => q1 _ _ ⟨Z, r1.set h1⟩⟩
end
end DL
set_option Elab.async false
set_option linter.all false
set_option maxRecDepth 100000
set_option maxHeartbeats 4000000
namespace DL
open PySem PySem.Spec PyProof.Rows L2
variable [CTab]
/-! ### methods -/
/-- the class at c has the method m, that does g -/
structure Method (P : Program) (w : World) (K : PySem.W.Frag) (mg : Str → Option Value) (base : Heap) (CX : CXT) (k : Nat) (m : Str) (n : Nat) (c : Nat) (g : FD) : Prop where
  cls : Cls K (He.ga K (cN c))
  nf : m ∉ cF c
  ex : ∃ (f : Addr) (fd : FuncData) (ps : List Str), Meth K (He.ga K (cN c)) m f ∧ FnOk P w K mg base CX k f fd ps (spF K (n + 1) g) ∧ Binds K fd ps [] ∧ ps.length = n + 1
/-- o.m(..) of data: gs tells for each class what its m does -/
def mMeth (gs : List (Nat × FD)) (ma : M D) (ms : M (List Ar)) : M D := fun ρ => bindR (ma ρ) fun d ρ => match d with
  | .ob c l => (match gs.lookup c with
    | some g => bindR (ms ρ) fun as ρ => callF g (.d (.ob c l) :: as) ρ
    | none => .fail)
  | _ => .fail
/-- x.m(..) of a thing of one's own -/
def mMethS (gs : List (Nat × FD)) (i : Nat) (ms : M (List Ar)) : M D := fun ρ => match holds ρ i with
  | some (.ob c _) => (match gs.lookup c with
    | some g => bindR (ms ρ) fun as ρ => callF g (.s i :: as) ρ
    | none => .fail)
  | _ => .fail
theorem lookup_nf {m : Str} : ∀ {ns : List Str} {vs : List V}, m ∉ ns → (ns.zip vs).lookup m = none
  | [], _, _ => by simp
  | _ :: _, [], _ => by simp
  | n :: ns, v :: vs, h => by
    simp only [List.mem_cons, not_or] at h
    rw [List.zip_cons_cons, List.lookup_cons, beq_eq_false_iff_ne.mpr h.1]
    exact lookup_nf h.2
section
variable {X : Cx} {CX : CXT} {E : XK} {pos apos : Pos} {o e : Expr} {es : List Expr} {ma : M D} {ms : M (List Ar)} {k n : Nat} {m : Str} {gs : List (Nat × FD)}
theorem pe_ex {ι : Type} {p : ι → Prop} {t : ι → TE} (h : ∀ i, p i → PE X e (t i)) : PE X e (fun σ H Q => ∃ i, p i ∧ t i σ H Q) := ⟨fun pins s σ H Q I ⟨i, hi, q⟩ => (h i hi).run pins s σ H Q I q⟩
/-- what a receiver must be: data of a class that has the method -/
theorem meth_gen {K : PySem.W.Frag} {σ : St} {H : Hp} {Q : VK} (hm : ∀ q ∈ gs, m ∉ cF q.1) [hml : ArLen n ms] (h : tD K E (mMeth gs ma ms) σ H Q) :
    tD K E ma σ H fun x H1 => ∃ q, q ∈ gs ∧ ∃ a dx fs, x = V.ref a ∧ H1 a = some (.ins (He.ga K (cN q.1)) dx fs) ∧ fs.lookup m = none ∧ tAs K E ms σ H1 fun vs H2 => spF K (n + 1) q.2 (x :: (vs ++ [])) H2 Q E := by
  obtain ⟨c, Z, ρ, r, q⟩ := h
  refine ⟨c, Z, ρ, r, q.bind fun d ρ1 x H1 r1 e1 hx q1 => ?_⟩
  cases d <;> first | (exact q1.elim; done) | skip
  rename_i cl l
  have hx : Rep K H1 Z (.ob cl l) x := hx
  have hx' := hx
  simp only [Rep] at hx'
  obtain ⟨a, dx, us, rfl, hna, ha, hlen, hus⟩ := hx'
  have q1 : tR K E rD c Z σ H1 Q (match gs.lookup cl with
    | some g => bindR (ms ρ1) fun as ρ => callF g (.d (.ob cl l) :: as) ρ
    | none => .fail) := q1
  split at q1
  · rename_i g hg
    have hmem := lookupB hg
    refine ⟨(cl, g), hmem, a, dx, _, rfl, ha, lookup_nf (hm _ hmem), c, Z, ρ1, r1, ?_⟩
    cases em : ms ρ1 with
    | fail => rw [em] at q1; exact q1
    | exc x l ρ2 => rw [em] at q1; exact q1
    | ok as ρ2 =>
      rw [em] at q1
      simp only [bindR_ok] at q1
      intro vs H2 r2 e2 h2
      rw [List.append_nil]
      have h2 : rAr K σ H2 Z as vs := h2
      exact call_gen (as := .d (.ob cl l) :: as) r2 (.cons (show Rep K H2 Z (.ob cl l) (.ref a) from Rep.ext e2 _ _ hx) h2) (by simp [← rAr_len h2, hml.len _ _ _ em]) (q1.ext e2)
  · exact q1.elim
theorem meths_gen {i : Nat} {K : PySem.W.Frag} {σ : St} {H : Hp} {Q : VK} (hm : ∀ q ∈ gs, m ∉ cF q.1) [hml : ArLen n ms] (h : tD K E (mMethS gs i ms) σ H Q) :
    tVar i σ H fun x H1 => ∃ q, q ∈ gs ∧ ∃ a dx fs, x = V.ref a ∧ H1 a = some (.ins (He.ga K (cN q.1)) dx fs) ∧ fs.lookup m = none ∧ tAs K E ms σ H1 fun vs H2 => spF K (n + 1) q.2 (x :: (vs ++ [])) H2 Q E := by
  obtain ⟨c, Z, ρ, r, q⟩ := h
  unfold mMethS at q
  split at q
  · rename_i cl l ht
    obtain ⟨p, w, hw, hh, h1, hz, o, ho, dx, us, rfl, hlen, hus⟩ := holds_rel r ht
    refine ⟨_, h1, ?_⟩
    split at q
    · rename_i g hg
      have hmem := lookupB hg
      refine ⟨(cl, g), hmem, p, dx, _, rfl, ho, lookup_nf (hm _ hmem), c, Z, ρ, r, ?_⟩
      cases em : ms ρ with
      | fail => rw [em] at q; exact q
      | exc x l ρ2 => rw [em] at q; exact q
      | ok as ρ2 =>
        rw [em] at q
        simp only [bindR_ok] at q
        intro vs H2 r2 e2 h2
        rw [List.append_nil]
        have h2 : rAr K σ H2 Z as vs := h2
        exact call_gen (as := .s i :: as) r2 (.cons h1 h2) (by simp [← rAr_len h2, hml.len _ _ _ em]) (q.ext e2)
    · exact q.elim
  · exact q.elim
/-- o.m(e, ..), the class seen when o is there -/
theorem pe_methE {pl : Sem Bool} {ta : TE} {t : TA} (hk : ∀ q ∈ gs, Method X.prog X.w X.K X.mg X.base CX k m n q.1 q.2) (hr : Room k X.A) (hx : Passes CX X E) (he : PE X o ta) (ha : PA X (e :: es) t)
    (hst : starEach (e :: es) X.env = (false, eval e X.env) :: starEach es X.env) (hpl : (backTo pos (starEach es X.env)).any (·.1) = false)
    (ht : eval (.Call (.Attribute o m apos) (e :: es) [] pos) X.env = (do let ov ← eval o X.env; standAt apos.atName; let (f, first) ← holding [ov] (getMethod ov m pl); callWith pos f first (backTo pos (starEach (e :: es) X.env)) (backToKw pos (keywordEach [] X.env)))) :
    PE X (.Call (.Attribute o m apos) (e :: es) [] pos) (fun σ H Q => ta σ H fun x H1 => ∃ q, q ∈ gs ∧ ∃ a dx fs, x = V.ref a ∧ H1 a = some (.ins (He.ga X.K (cN q.1)) dx fs) ∧ fs.lookup m = none ∧ t σ H1 fun vs H2 => spF X.K (n + 1) q.2 (x :: (vs ++ [])) H2 Q E) := by
  constructor
  intro pins s σ H Q I h
  apply PySem.W.methodCall_KW (pl := pl) _ ht
  refine thn (he.run pins s σ H _ I h) ?_
  rintro u s1 ⟨x, H1, I1, rx, q, hq, a, dx, fs, ex, ea, l, q1⟩
  subst ex
  obtain rfl : u = Value.ref a := rx
  have M := hk q hq
  obtain ⟨f, fd, ps, hm, F, hb, _⟩ := M.ex
  refine getmeth_ok I1 ea M.cls hm l ?_
  apply PySem.W.callWith_K (first := [.ref a]) (h₀ := X.base) I.ok.mod.kin hm.kp _ hst hpl
  refine thn (ha.run pos pins s1 σ H1 _ I1 q1) ?_
  rintro us s2 ⟨vs, H2, I2, r, q2⟩
  exact ⟨I2.kIn, run_fn (us := .ref a :: us) (vs := .ref a :: vs) F hr hb .nil hx I2 (.cons rfl r) q2⟩
theorem pe_methE0 {pl : Sem Bool} {ta : TE} (hk : ∀ q ∈ gs, Method X.prog X.w X.K X.mg X.base CX k m 0 q.1 q.2) (hr : Room k X.A) (hx : Passes CX X E) (he : PE X o ta)
    (ht : eval (.Call (.Attribute o m apos) [] [] pos) X.env = (do let ov ← eval o X.env; standAt apos.atName; let (f, first) ← holding [ov] (getMethod ov m pl); callWith pos f first (backTo pos (starEach [] X.env)) (backToKw pos (keywordEach [] X.env)))) :
    PE X (.Call (.Attribute o m apos) [] [] pos) (fun σ H Q => ta σ H fun x H1 => ∃ q, q ∈ gs ∧ ∃ a dx fs, x = V.ref a ∧ H1 a = some (.ins (He.ga X.K (cN q.1)) dx fs) ∧ fs.lookup m = none ∧ spF X.K 1 q.2 [x] H1 Q E) := by
  constructor
  intro pins s σ H Q I h
  apply PySem.W.methodCall_KW (pl := pl) _ ht
  refine thn (he.run pins s σ H _ I h) ?_
  rintro u s1 ⟨x, H1, I1, rx, q, hq, a, dx, fs, ex, ea, l, q1⟩
  subst ex
  obtain rfl : u = Value.ref a := rx
  have M := hk q hq
  obtain ⟨f, fd, ps, hm, F, hb, _⟩ := M.ex
  refine getmeth_ok I1 ea M.cls hm l ?_
  exact PySem.W.callWith_K0 (first := [.ref a]) I1.kIn hm.kp (run_fn (us := [.ref a]) (vs := [.ref a]) F hr hb .nil hx I1 (.cons rfl .nil) q1)
/-- o.m(e, ..) of data -/
theorem d_meth {j : Nat} {pl : Sem Bool} (gs : List (Nat × FD)) (hk : ∀ q ∈ gs, Method X.prog X.w X.K X.mg X.base CX k m n q.1 q.2) (hr : Room j X.A) (hx : Passes CX X E) (he : PE X o (tD X.K E ma)) (ha : PA X (e :: es) (tAs X.K E ms)) [hml : ArLen n ms] (hj : k ≤ j := by decide)
    (hst : starEach (e :: es) X.env = (false, eval e X.env) :: starEach es X.env := by rfl) (hpl : (backTo pos (starEach es X.env)).any (·.1) = false := by rfl)
    (ht : eval (.Call (.Attribute o m apos) (e :: es) [] pos) X.env = (do let ov ← eval o X.env; standAt apos.atName; let (f, first) ← holding [ov] (getMethod ov m pl); callWith pos f first (backTo pos (starEach (e :: es) X.env)) (backToKw pos (keywordEach [] X.env))) := by rfl) :
    PE X (.Call (.Attribute o m apos) (e :: es) [] pos) (tD X.K E (mMeth gs ma ms)) :=
  (pe_methE hk (hr.mono hj) hx he ha hst hpl ht).imp fun σ H Q h => meth_gen (fun q hq => (hk q hq).nf) h
theorem d_meth0 {j : Nat} {pl : Sem Bool} (gs : List (Nat × FD)) (hk : ∀ q ∈ gs, Method X.prog X.w X.K X.mg X.base CX k m 0 q.1 q.2) (hr : Room j X.A) (hx : Passes CX X E) (he : PE X o (tD X.K E ma)) (hj : k ≤ j := by decide)
    (ht : eval (.Call (.Attribute o m apos) [] [] pos) X.env = (do let ov ← eval o X.env; standAt apos.atName; let (f, first) ← holding [ov] (getMethod ov m pl); callWith pos f first (backTo pos (starEach [] X.env)) (backToKw pos (keywordEach [] X.env))) := by rfl) :
    PE X (.Call (.Attribute o m apos) [] [] pos) (tD X.K E (mMeth gs ma mANil)) := by
  refine (pe_methE0 hk (hr.mono hj) hx he ht).imp fun σ H Q h => ?_
  have h2 := meth_gen (ms := mANil) (n := 0) (fun q hq => (hk q hq).nf) h
  obtain ⟨c, Z, ρ, r, q⟩ := h2
  refine ⟨c, Z, ρ, r, ?_⟩
  cases em : ma ρ with
  | fail => rw [em] at q; exact q
  | exc x l ρ2 => rw [em] at q; exact q
  | ok d ρ1 =>
    rw [em] at q
    intro x H1 r1 e1 h1
    obtain ⟨q', hq, a, dx, fs, ex, ea, l, cz, Z', ρ', r', qq⟩ := q x H1 r1 e1 h1
    exact ⟨q', hq, a, dx, fs, ex, ea, l, qq [] H1 r' Ext.refl .nil⟩
/-- x.m(e, ..) of a thing of one's own -/
theorem d_methS {j i : Nat} {x : Str} {np : Pos} {pl : Sem Bool} (gs : List (Nat × FD)) (hk : ∀ q ∈ gs, Method X.prog X.w X.K X.mg X.base CX k m n q.1 q.2) (hr : Room j X.A) (hx : Passes CX X E) (ha : PA X (e :: es) (tAs X.K E ms)) [hml : ArLen n ms] (hj : k ≤ j := by decide)
    (hN : X.N[i]? = some x := by rfl) (hv : Vis X.env.scope x := by first | exact Or.inl rfl | exact Or.inr (Or.inl rfl) | exact Or.inr (Or.inr rfl)) (hd : (x == ("__debug__" : Str)) = false := by decide) (hcd : (x == ("__classdict__" : Str)) = false := by decide)
    (hst : starEach (e :: es) X.env = (false, eval e X.env) :: starEach es X.env := by rfl) (hpl : (backTo pos (starEach es X.env)).any (·.1) = false := by rfl)
    (ht : eval (.Call (.Attribute (.Name x np) m apos) (e :: es) [] pos) X.env = (do let ov ← eval (.Name x np) X.env; standAt apos.atName; let (f, first) ← holding [ov] (getMethod ov m pl); callWith pos f first (backTo pos (starEach (e :: es) X.env)) (backToKw pos (keywordEach [] X.env))) := by rfl) :
    PE X (.Call (.Attribute (.Name x np) m apos) (e :: es) [] pos) (tD X.K E (mMethS gs i ms)) :=
  (pe_methE hk (hr.mono hj) hx (pe_var hN hv hd hcd) ha hst hpl ht).imp fun σ H Q h => meths_gen (fun q hq => (hk q hq).nf) h
theorem d_methS0 {j i : Nat} {x : Str} {np : Pos} {pl : Sem Bool} (gs : List (Nat × FD)) (hk : ∀ q ∈ gs, Method X.prog X.w X.K X.mg X.base CX k m 0 q.1 q.2) (hr : Room j X.A) (hx : Passes CX X E) (hj : k ≤ j := by decide)
    (hN : X.N[i]? = some x := by rfl) (hv : Vis X.env.scope x := by first | exact Or.inl rfl | exact Or.inr (Or.inl rfl) | exact Or.inr (Or.inr rfl)) (hd : (x == ("__debug__" : Str)) = false := by decide) (hcd : (x == ("__classdict__" : Str)) = false := by decide)
    (ht : eval (.Call (.Attribute (.Name x np) m apos) [] [] pos) X.env = (do let ov ← eval (.Name x np) X.env; standAt apos.atName; let (f, first) ← holding [ov] (getMethod ov m pl); callWith pos f first (backTo pos (starEach [] X.env)) (backToKw pos (keywordEach [] X.env))) := by rfl) :
    PE X (.Call (.Attribute (.Name x np) m apos) [] [] pos) (tD X.K E (mMethS gs i mANil)) := by
  refine (pe_methE0 hk (hr.mono hj) hx (pe_var hN hv hd hcd) ht).imp fun σ H Q h => ?_
  obtain ⟨v, h1, q', hq, a, dx, fs, ex, ea, l, cz, Z', ρ', r', qq⟩ := meths_gen (ms := mANil) (n := 0) (fun q hq => (hk q hq).nf) h
  exact ⟨v, h1, q', hq, a, dx, fs, ex, ea, l, qq [] H r' Ext.refl .nil⟩
end
end DL
set_option Elab.async false
set_option linter.all false
set_option maxRecDepth 100000
set_option maxHeartbeats 4000000
namespace DL
open PySem PySem.Spec PyProof.Rows L2
variable [CTab]
/-! ### objects of one's own -/
section
variable {K : PySem.W.Frag} {c : Cz} {Z : Addr → Prop} {ρ : Env} {σ : St} {H H' : Hp} {a : Addr} {t : Ct}
theorem Rel.made (r : Rel K c Z ρ σ H) (ha : H a = none) (s : Same H H') (h : RepC K H' (fun b => Z b ∨ b = a) t a) : NewAt K c (fun b => Z b ∨ b = a) ρ σ H' t a := by
  obtain ⟨o, ho, hc⟩ := h
  have n := r.newAt (p := a) (o := .lst []) (t := .lst []) ha ⟨[], rfl, Reps.nil⟩
  have r2 : Rel K c (fun b => Z b ∨ b = a) ρ σ (upd H a o) := r.addZ ha
  have s2 : Same (upd H a o) H' := fun b u e => by
    by_cases hb : b = a
    · subst hb
      rw [upd_same] at e
      cases e
      exact ho
    · rw [upd_ne hb] at e
      exact s b u e
  exact ⟨r2.same s2, .inr rfl, n.new, ⟨o, ho, hc⟩, n.no, n.nh⟩
end
def oNew (c : Nat) (g : FD) (ms : M (List Ar)) : M Ct := fun ρ => bindR (ms ρ) fun as ρ => match toWs ρ as with
  | some (ws, none) => (match g (.inn (.ob c []) :: ws) with
    | .ok .non [.ob c' l] => if c' = c then .ok (.ob c l) ρ else .fail
    | .exc x l => .exc x l ρ
    | _ => .fail)
  | _ => .fail
section
variable {X : Cx} {CX : CXT} {E : XK} {pos p : Pos} {e : Expr} {es : List Expr} {ms : M (List Ar)} {k n c : Nat} {g : FD} {x : Str} {K : PySem.W.Frag}
/-- what __init__ is given, and what it leaves -/
theorem new_gen {cz : Cz} {Z : Addr → Prop} {ρ1 : Env} {σ : St} {H1 : Hp} {as : List Ar} {vs : List V} {Q : VK} {a dx : Addr} (r1 : Rel K cz Z ρ1 σ H1) (h1 : rAr K σ H1 Z as vs) (hn : as.length = n) (ha : H1 a = none) (hdx : H1 dx = none) (hne : dx ≠ a)
    (q2 : match toWs ρ1 as with
      | some (ws, none) => (match g (.inn (.ob c []) :: ws) with
        | .ok .non [.ob c' l] => c' = c ∧ ∀ H', Same H1 H' → RepC K H' (fun b => Z b ∨ b = a) (.ob c l) a → Q (.ref a) H'
        | .exc x l => ∀ ed us H', Same H1 H' → H' ed = some (.xd ((cF x).zip us)) → us.length ≤ (cF x).length → Reps K H' Z l us → E (.ref (He.ga K (cN x))) (some ed) H'
        | _ => False)
      | _ => False) :
    spF K (n + 1) g (.ref a :: vs) (upd (upd H1 dx (.own a)) a (.ins (He.ga K (cN c)) dx [])) (fun v H2 => v = .non ∧ Q (.ref a) H2) E := by
  cases ew : toWs ρ1 as with
  | none => rw [ew] at q2; exact q2.elim
  | some y =>
    obtain ⟨ws, o⟩ := y
    rw [ew] at q2
    cases o with
    | some i => exact q2.elim
    | none =>
      simp only at q2
      obtain ⟨g1, g2⟩ := toWs_none r1 ew h1
      have s1 : Same H1 (upd H1 dx (.own a)) := same_upd hdx
      have ha2 : upd H1 dx (.own a) a = none := by rw [upd_ne (Ne.symm hne)]; exact ha
      have s2 : Same H1 (upd (upd H1 dx (.own a)) a (.ins (He.ga K (cN c)) dx [])) := s1.trans (same_upd ha2)
      have zs : ∀ b o, ¬ Z b → H1 b = some o → ¬ (Z b ∨ b = a) := fun b o n e z => z.elim n fun q => by
        rw [q, ha] at e
        cases e
      have hin : inAd (.inn (.ob c []) :: ws) (.ref a :: vs) = [a] := by
        show a :: inAd ws vs = [a]
        rw [g2]
      refine ⟨fun b => Z b ∨ b = a, .inn (.ob c []) :: ws, ?_, fun b z e => ?_, ⟨a, vs, rfl, .inr rfl, ⟨_, upd_same, dx, [], by rw [List.zip_nil_right], by simp, rfl⟩, (g1.zed zs g2).ext (Ext.same s2) g2⟩, by rw [hin]; simp, ?_⟩
      · show ws.length + 1 = n + 1
        rw [g1.len, ← rAr_len h1, hn]
      · rcases z with z | z
        · exact r1.dom b z (s2.free e)
        · rw [z, upd_same] at e
          cases e
      · cases ef : g (.inn (.ob c []) :: ws) with
        | fail => rw [ef] at q2; exact q2.elim
        | exc x' l =>
          rw [ef] at q2
          intro ed us H' hk h1 h2 h3
          rw [hin] at hk
          have s3 : Same H1 H' := fun b o h => hk b o (by rw [List.mem_singleton]; exact ne_of_none h ha) (s2 b o h)
          exact q2 ed us H' s3 h1 h2 (Reps.zed (fun b o n e z => n (.inl z)) _ _ h3)
        | ok d ts =>
          rw [ef] at q2
          match d, ts, q2 with
          | .non, [.ob c' l], q2 =>
            simp only at q2
            obtain ⟨hc, q2⟩ := q2
            subst hc
            intro v H' hk ht hd
            rw [hin] at hk ht
            obtain ⟨p', r', e2, hrc, _⟩ := ht
            cases e2
            have s3 : Same H1 H' := fun b o h => hk b o (by rw [List.mem_singleton]; exact ne_of_none h ha) (s2 b o h)
            exact ⟨hd, q2 H' s3 hrc⟩
          | .non, [], q2 => exact q2.elim
          | .non, [.lst _], q2 => exact q2.elim
          | .non, [.dct _ _], q2 => exact q2.elim
          | .non, t1 :: _ :: _, q2 =>
            cases t1 <;> exact q2.elim
          | .bl _, _, q2 => exact q2.elim
          | .int _, _, q2 => exact q2.elim
          | .str _, _, q2 => exact q2.elim
          | .lst _, _, q2 => exact q2.elim
          | .rol _, _, q2 => exact q2.elim
          | .tup _, _, q2 => exact q2.elim
          | .dct _ _, _, q2 => exact q2.elim
          | .ob _ _, _, q2 => exact q2.elim
theorem own_new {cz : Cz} {Z : Addr → Prop} {ρ1 : Env} {σ : St} {H1 : Hp} {as : List Ar} {vs : List V} {Q : VK} {a dx : Addr} (r1 : Rel K cz Z ρ1 σ H1) (h1 : rAr K σ H1 Z as vs) (hn : as.length = n) (ha : H1 a = none) (hdx : H1 dx = none) (hne : dx ≠ a)
    (q : match (match toWs ρ1 as with
      | some (ws, none) => (match g (.inn (.ob c []) :: ws) with
        | .ok .non [.ob c' l] => if c' = c then Res.ok (Ct.ob c l) ρ1 else .fail
        | .exc x l => .exc x l ρ1
        | _ => .fail)
      | _ => .fail : Res Ct) with
      | .fail => False
      | .ok t ρ' => ∀ p Z' H', NewAt K cz Z' ρ' σ H' t p → (∀ d v, Rep K H1 Z d v → Rep K H' Z' d v) → Q (.ref p) H'
      | .exc x l ρ' => ∀ ed vs H', Rel K cz Z ρ' σ H' → H' ed = some (.xd ((cF x).zip vs)) → vs.length ≤ (cF x).length → Reps K H' Z l vs → E (.ref (He.ga K (cN x))) (some ed) H') :
    spF K (n + 1) g (.ref a :: vs) (upd (upd H1 dx (.own a)) a (.ins (He.ga K (cN c)) dx [])) (fun v H2 => v = .non ∧ Q (.ref a) H2) E := by
  refine new_gen r1 h1 hn ha hdx hne ?_
  cases ew : toWs ρ1 as with
  | none => rw [ew] at q; exact q
  | some y =>
    obtain ⟨ws, o⟩ := y
    rw [ew] at q
    cases o with
    | some i => exact q
    | none =>
      simp only at q ⊢
      cases ef : g (.inn (.ob c []) :: ws) with
      | fail => rw [ef] at q; exact q
      | exc x l => rw [ef] at q; exact fun ed us H' s h2 h3 h4 => q ed us H' (r1.same s) h2 h3 h4
      | ok d ts =>
        rw [ef] at q
        match d, ts, q with
        | .non, [.ob c' l], q =>
          simp only at q ⊢
          by_cases hc : c' = c
          · subst hc
            rw [if_pos rfl] at q
            refine ⟨rfl, fun H' s h => q a _ H' (r1.made ha s h) fun d v hd => (hd.zed fun b u n e z => z.elim n fun w => by rw [w, ha] at e; cases e).ext (Ext.same s)⟩
          · rw [if_neg hc] at q
            exact q.elim
        | .non, [], q => exact q
        | .non, [.lst _], q => exact q
        | .non, [.dct _ _], q => exact q
        | .non, t1 :: _ :: _, q => cases t1 <;> exact q
        | .bl _, _, q => exact q
        | .int _, _, q => exact q
        | .str _, _, q => exact q
        | .lst _, _, q => exact q
        | .rol _, _, q => exact q
        | .tup _, _, q => exact q
        | .dct _ _, _, q => exact q
        | .ob _ _, _, q => exact q
/-- x = C(..), the object one's own -/
theorem o_new {j : Nat} (mk : Maker X.prog X.w X.K X.mg X.base CX k x n c g) (hr : Room j X.A) (hx : Passes CX X E) (ha : PA X (e :: es) (tAs X.K E ms)) [hml : ArLen n ms] (hj : k + 1 ≤ j := by decide) (hg : Gl X x := by rfl) (hdb : (x == ("__debug__" : Str)) = false := by decide)
    (he : starEach (e :: es) X.env = (false, eval e X.env) :: starEach es X.env := by rfl) (hpl : (backTo pos (starEach es X.env)).any (·.1) = false := by rfl) :
    PE X (.Call (.Name x p) (e :: es) [] pos) (tO X.K E (oNew c g ms)) := by
  obtain ⟨f, fd, ps, M, F, hb, hps⟩ := mk.ex
  refine (pe_make M F (hr.mono hj) hg mk.gl hb .nil hx ha hdb he hpl).imp fun σ H Q h => ?_
  obtain ⟨cz, Z, ρ, r, q⟩ := h
  refine ⟨cz, Z, ρ, r, ?_⟩
  unfold oNew at q
  cases em : ms ρ with
  | fail => rw [em] at q; exact q
  | exc x l ρ1 => rw [em] at q; exact fun ed vs H' h1 h2 h3 h4 h5 => q ed vs H' h1 h3 h4 h5
  | ok as ρ1 =>
    rw [em] at q
    simp only [bindR_ok] at q
    intro vs H1 r1 e1 h1 a dx ha hdx hne
    rw [List.append_nil, mk.nm]
    refine own_new (ρ1 := ρ1) r1 h1 (hml.len _ _ _ em) ha hdx hne ?_
    split at q
    · rename_i he
      exact q.elim
    · rename_i t ρ' he
      first
      | exact fun p Z' H' n hk => q p Z' H' n fun d v hd => hk d v (hd.ext e1)
      | (rw [he]; exact fun p Z' H' n hk => q p Z' H' n fun d v hd => hk d v (hd.ext e1))
    · rename_i y l ρ' he
      first
      | exact q
      | (rw [he]; exact q)
theorem o_new0 {j : Nat} (mk : Maker X.prog X.w X.K X.mg X.base CX k x 0 c g) (hr : Room j X.A) (hx : Passes CX X E) (hj : k + 1 ≤ j := by decide) (hg : Gl X x := by rfl) (hdb : (x == ("__debug__" : Str)) = false := by decide) :
    PE X (.Call (.Name x p) [] [] pos) (tO X.K E (oNew c g mANil)) := by
  obtain ⟨f, fd, ps, M, F, hb, hps⟩ := mk.ex
  refine (pe_make0 M F (hr.mono hj) hg mk.gl hb .nil hx hdb).imp fun σ H Q h => ?_
  obtain ⟨cz, Z, ρ, r, q⟩ := h
  intro a dx ha hdx hne
  rw [mk.nm]
  exact own_new (as := []) (vs := []) r .nil rfl ha hdx hne q
theorem d_new0 {j : Nat} (mk : Maker X.prog X.w X.K X.mg X.base CX k x 0 c g) (hr : Room j X.A) (hx : Passes CX X E) (hj : k + 1 ≤ j := by decide) (hg : Gl X x := by rfl) (hdb : (x == ("__debug__" : Str)) = false := by decide) :
    PE X (.Call (.Name x p) [] [] pos) (tD X.K E (mNew c g mANil)) := by
  obtain ⟨f, fd, ps, M, F, hb, hps⟩ := mk.ex
  refine (pe_make0 M F (hr.mono hj) hg mk.gl hb .nil hx hdb).imp fun σ H Q h => ?_
  obtain ⟨cz, Z, ρ, r, q⟩ := h
  intro a dx ha hdx hne
  rw [mk.nm]
  refine new_gen (as := []) (vs := []) r .nil rfl ha hdx hne ?_
  have q : tR X.K E rD cz Z σ H Q (match g [.inn (.ob c [])] with
    | .ok .non [.ob c' l] => if c' = c then .ok (.ob c l) ρ else .fail
    | .exc x l => .exc x l ρ
    | _ => .fail) := q
  show match g [.inn (.ob c [])] with
    | .ok .non [.ob c' l] => c' = c ∧ ∀ H', Same H H' → RepC X.K H' (fun b => Z b ∨ b = a) (.ob c l) a → Q (.ref a) H'
    | .exc x l => ∀ ed us H', Same H H' → H' ed = some (.xd ((cF x).zip us)) → us.length ≤ (cF x).length → Reps X.K H' Z l us → E (.ref (He.ga X.K (cN x))) (some ed) H'
    | _ => False
  split at q
  · rename_i c' l he
    try rw [he]
    split at q
    · rename_i hc
      refine ⟨hc, fun H' s hrc => q.new r s ?_⟩
      obtain ⟨o, ho, dx', us, eo, hl, hr'⟩ := hrc
      subst eo
      show Rep X.K H' Z (.ob c l) (.ref a)
      simp only [Rep]
      exact ⟨a, dx', us, rfl, fun z => r.dom a z ha, ho, hl, Reps.zed (fun b o n e z => n (.inl z)) _ _ hr'⟩
    · exact q.elim
  · rename_i x' l he
    try rw [he]
    exact fun ed us H' s h1 h2 h3 => q ed us H' (r.same s) (Ext.same s) h1 h2 h3
  · exact q.elim
end
end DL
set_option Elab.async false
set_option linter.all false
set_option maxRecDepth 100000
set_option maxHeartbeats 4000000
namespace DL
open PySem PySem.Spec PyProof.Rows L2
variable [CTab]
/-! ### things of one's own are written at a place -/
section
variable {X : Cx} {E : XK} {pos tpos : Pos} {e ei : Expr} {m mi : M D} {K : PySem.W.Frag}
/-- x[e] = e2 of a list of one's own -/
theorem s_setIx (i : Nat) {x : Str} {np : Pos} (hei : PE X ei (tD X.K E mi)) (he : PE X e (tD X.K E m))
    (hN : X.N[i]? = some x := by rfl) (hv : Vis X.env.scope x := by first | exact Or.inl rfl | exact Or.inr (Or.inl rfl) | exact Or.inr (Or.inr rfl)) (hd : (x == ("__debug__" : Str)) = false := by decide) (hcd : (x == ("__classdict__" : Str)) = false := by decide)
    (ha : ∀ v, assign (.Subscript (.Name x np) ei tpos) X.env v = (do let ov ← holding [v] (eval (.Name x np) X.env); let iv ← holding [v, ov] (eval ei X.env); standAt tpos; holding [v, ov, iv] (setItem ov iv v); release [v, ov, iv] []) := by intro _; rfl)
    (hs : swapsWithSole [.Subscript (.Name x np) ei tpos] e pos.line X.env = pure false := by rfl) (hw : swappedStores [.Subscript (.Name x np) ei tpos] e X.env = pure none := by rfl) (h1 : (assignEach [.Subscript (.Name x np) ei tpos] X.env).map (·.2) = [assign (.Subscript (.Name x np) ei tpos) X.env] := by rfl) :
    PS X (.Assign [.Subscript (.Name x np) ei tpos] e pos) (tS X.K E (mSetIx i mi m)) := by
  refine (ps_asg he (pg_sub (pe_var hN hv hd hcd) hei set_list ha) hs hw h1).imp fun Dn σ H h => ?_
  obtain ⟨c, ρ, ⟨Z, r⟩, q⟩ := h
  refine ⟨c, Z, ρ, r, tSR.expr q fun d ρ1 v H1 r1 hd q1 => ?_⟩
  split at q1
  · rename_i l0 ht
    obtain ⟨p, w, _, _, g1, hz, o, ho, us, rfl, hus⟩ := holds_rel r1 ht
    refine ⟨_, g1, c, Z, ρ1, r1, ?_⟩
    have hd : Rep X.K H1 Z d v := hd
    cases em : mi ρ1 with
    | fail => rw [em] at q1; exact q1
    | exc x l ρ2 => rw [em] at q1; exact fun ed vs H' h1 h2 h3 h4 h5 => q1 σ ed vs H' ⟨Z, h1⟩ h3 h4 (Reps.zed h1.z0 _ _ h5)
    | ok k ρ2 =>
      rw [em] at q1
      simp only [bindR_ok] at q1
      intro kv H2 r2 e2 hk
      split at q1
      · rename_i j l2 ht2
        cases (show kv = _ from hk)
        obtain ⟨us', k', g2, g3, g4⟩ := cSetAt_ok (v := v) r2 g1 (hd.ext e2) q1
        exact ⟨p, us', j, k', rfl, rfl, g2, g3, g4⟩
      · exact q1.elim
  · exact q1.elim
/-- x[e] = e2 of a dict of one's own: e2 first, then x, then e -/
def cPut (k : Key) : Ct → D → Option Ct
  | .dct ks l, d => if ks.length < sizeLine then some (.dct (putD ks l k d).1 (putD ks l k d).2) else none
  | _, _ => none
def mPut (i : Nat) (mi m : M D) : M Fl := fun ρ => bindR (m ρ) fun d ρ => (match holds ρ i with
  | some (.dct _ _) => bindR (mi ρ) fun k ρ => (match k.key, holds ρ i with
    | some j, some (.dct _ _) => mMutNow i (cPut j) d ρ
    | _, _ => .fail)
  | _ => .fail)
theorem cPut_ok {c : Cz} {Z : Addr → Prop} {ρ : Env} {σ : St} {H : Hp} {Dn : Ends} {i : Nat} {j : Key} {d : D} {v : V} {p : Addr} (r : Rel K c Z ρ σ H) (hp : σ[i]? = some (some (.ref p))) (hd : Rep K H Z d v) (q : tSR K E c Dn (mMutNow i (cPut j) d ρ)) :
    ∃ kvs, H p = some (.dK kvs) ∧ kvs.length < sizeLine ∧ Dn.nx σ (upd H p (.dK (putK kvs j v))) := by
  obtain ⟨p', t, t', h1, ⟨o, h2, h3⟩, hz, hf, kk⟩ := mut_gen (d := d) q r
  rw [hp] at h1
  cases h1
  cases t with
  | lst _ => cases hf
  | ob _ _ => cases hf
  | dct ks l =>
    obtain ⟨us, rfl, hl, hus⟩ := h3
    simp only [cPut] at hf
    split at hf
    · rename_i hsz
      cases hf
      obtain ⟨us', e1, e2, e3⟩ := putK_zip (k := j) hl hus hd
      have ex : Ext Z H (upd H p (.dK (putK (ks.zip us) j v))) := fun a o nz e => by rw [upd_ne (fun z => nz (by rw [z]; exact hz))]; exact e
      refine ⟨_, h2, by rw [zip_len_of hl]; exact hsz, kk _ (fun a o ne e => by rw [upd_ne ne]; exact e) ⟨_, upd_same, us', ?_, e2, Reps.ext ex _ _ e3⟩⟩
      rw [e1]
    · cases hf
theorem s_put {k : Nat} (hr : Room k X.A) (i : Nat) {x : Str} {np : Pos} (hei : PE X ei (tD X.K E mi)) (he : PE X e (tD X.K E m))
    (hN : X.N[i]? = some x := by rfl) (hv : Vis X.env.scope x := by first | exact Or.inl rfl | exact Or.inr (Or.inl rfl) | exact Or.inr (Or.inr rfl)) (hd : (x == ("__debug__" : Str)) = false := by decide) (hcd : (x == ("__classdict__" : Str)) = false := by decide)
    (hs : swapsWith e (some (.Subscript (.Name x np) ei tpos)) pos.line X.env = pure false := by rfl) :
    PS X (.Assign [.Subscript (.Name x np) ei tpos] e pos) (tS X.K E (mPut i mi m)) := by
  refine (ps_dput (hu_of hr) (pe_var hN hv hd hcd) hei he hs).imp fun Dn σ H h => ?_
  obtain ⟨c, ρ, ⟨Z, r⟩, q⟩ := h
  refine ⟨c, Z, ρ, r, tSR.expr q fun d ρ1 v H1 r1 hd q1 => ?_⟩
  split at q1
  · rename_i ks0 l0 ht
    obtain ⟨p, w, _, _, g1, hz, _⟩ := holds_rel r1 ht
    refine ⟨_, g1, c, Z, ρ1, r1, ?_⟩
    have hd : Rep X.K H1 Z d v := hd
    cases em : mi ρ1 with
    | fail => rw [em] at q1; exact q1
    | exc x l ρ2 => rw [em] at q1; exact fun ed vs H' h1 h2 h3 h4 h5 => q1 σ ed vs H' ⟨Z, h1⟩ h3 h4 (Reps.zed h1.z0 _ _ h5)
    | ok kd ρ2 =>
      rw [em] at q1
      simp only [bindR_ok] at q1
      intro kv H2 r2 e2 hk
      split at q1
      · rename_i j ks2 l2 hkey ht2
        have ek : kv = kV j := D.key_rep hkey hk
        subst ek
        obtain ⟨kvs, g2, g3, g4⟩ := cPut_ok (v := v) r2 g1 (hd.ext e2) q1
        exact ⟨p, _, rfl, DPut.k g2 g3, g4⟩
      · exact q1.elim
  · exact q1.elim
end
end DL
set_option Elab.async false
set_option linter.all false
set_option maxRecDepth 100000
set_option maxHeartbeats 4000000
/-! ### C() of a class without an __init__ of its own -/
namespace OB
open PySem PySem.Spec PyProof.Rows L2
section
variable {X : Cx} {C : Addr} {x : Str} {p pos : Pos}
/-- a plain class: made by object's own -/
structure Plain (K : PySem.W.Frag) (C : Addr) : Prop where
  makes : PySem.W.makesIn K C = true
  init : PySem.W.findIn K (.ref C) "__init__" = some (some (.builtin "object.__init__"))
  kp : PySem.W.keepIn K (.ref C) = true
def tPlain (C : Addr) : TE := fun _ H Q => ∀ a dx, H a = none → H dx = none → dx ≠ a → Q (.ref a) (upd (upd H dx (.own a)) a (.ins C dx []))
theorem pe_plain (M : Plain X.K C) (hg : Gl X x) (hm : X.mg x = some (.ref C)) (hdb : (x == ("__debug__" : Str)) = false := by decide) : PE X (.Call (.Name x p) [] [] pos) (tPlain C) := by
  constructor
  intro pins s σ H Q I h
  refine wpAny_Call_Name_kw (ld_glob I hg hm ?_ hdb)
  refine PySem.W.callWith_K0 I.kIn M.kp ?_
  have q := h (s.heap.objs.size + 1) s.heap.objs.size (I.hok.fresh (Nat.le_succ _)) (I.hok.fresh (Nat.le_refl _)) (Nat.ne_of_lt (Nat.lt_succ_self _))
  have I2 := Inv.made (C := C) I
  have Y := PySem.W.makes_of (M := model X.prog X.w) I.kIn M.makes
  refine wpAny_call (make_map0 I.kIn M.makes M.init (fun self => PySem.W.Looks.of_pure (PySem.W.oi_bind self)) ?_)
  have e2 : ((s.heap.push PySem.W.emptyDict).push (PySem.W.instObj C s.heap.objs.size)).get? (s.heap.objs.size + 1) = some (PySem.W.instObj C s.heap.objs.size) := by
    have := Heap.get?_push_size (s.heap.push PySem.W.emptyDict) (o := PySem.W.instObj C s.heap.objs.size) rfl
    rwa [Heap.size_push] at this
  have t1 : PySem.W.Looks (model X.prog X.w) ((s.heap.push PySem.W.emptyDict).push (PySem.W.instObj C s.heap.objs.size)) (typeOf (.ref (s.heap.objs.size + 1))) (.ref C) := (PySem.W.Looks.ld e2).andThen .now
  have t2 : PySem.W.Looks (model X.prog X.w) ((s.heap.push PySem.W.emptyDict).push (PySem.W.instObj C s.heap.objs.size)) (isInstance (.ref (s.heap.objs.size + 1)) (.type "object")) true := t1.andThen (Y.top.keeps fun b o e => Heap.get?_push_of_some _ (Heap.get?_push_of_some _ e))
  refine codeAny_call_builtin PySem.W.oi_plain PySem.W.entry_oi (@PySem.W.check_slot (model X.prog X.w) _ _ _ "object.__init__" "object" "__init__" (.ref (s.heap.objs.size + 1)) [] [] _ PySem.W.oi_kind PySem.W.oi_split t2 (PySem.W.oi_args _) ?_)
  rw [PySem.W.oi_run]
  exact wpAny_pure (And.intro rfl ⟨V.ref (s.heap.objs.size + 1), _, I2, rfl, q⟩)
end
end OB
namespace DL
open PySem PySem.Spec PyProof.Rows L2
variable [CTab]
def mPlain (c : Nat) : M D := fun ρ => .ok (.ob c []) ρ
theorem d_plain {X : Cx} {E : XK} {c : Nat} {x : Str} {p pos : Pos} (M : OB.Plain X.K (He.ga X.K (cN c))) (hm : X.mg x = some (.ref (He.ga X.K (cN c)))) (hg : Gl X x := by rfl) (hdb : (x == ("__debug__" : Str)) = false := by decide) : PE X (.Call (.Name x p) [] [] pos) (tD X.K E (mPlain c)) := by
  refine (OB.pe_plain M hg hm hdb).imp fun σ H Q h => ?_
  obtain ⟨cz, Z, ρ, r, q⟩ := h
  intro a dx ha hdx hne
  have s1 : Same H (upd H dx (.own a)) := same_upd hdx
  have ha2 : upd H dx (.own a) a = none := by rw [upd_ne (Ne.symm hne)]; exact ha
  refine q.new r (s1.trans (same_upd ha2)) ?_
  show Rep X.K _ Z (.ob c []) (.ref a)
  simp only [Rep]
  exact ⟨a, dx, [], rfl, fun z => r.dom a z ha, by rw [upd_same, List.zip_nil_right], by simp, rfl⟩
end DL
set_option Elab.async false
set_option linter.all false
set_option maxRecDepth 100000
set_option maxHeartbeats 4000000
namespace DL
open PySem PySem.Spec PyProof.Rows L2
variable [CTab]
/-! ### try, the body raises nothing -/
theorem s_tryN {X : Cx} {E : XK} {pos : Pos} {body : List Stmt} {h₀ hs} {b : M Fl} (hn : ∀ e s, ¬ X.xe e s) (hb : PSs X body (tS X.K E b)) : PS X (.Try body (h₀ :: hs) [] [] pos) (tS X.K E b) :=
  ps_try_never (u := tNext) hn hb pss_nil
end DL
set_option Elab.async false
set_option linter.all false
set_option maxRecDepth 100000
set_option maxHeartbeats 4000000
/-! ### a field as a target -/
namespace OB
open PySem PySem.Spec PyProof.Rows L2
def gFld (K : PySem.W.Frag) (to : TE) (f : Str) : TG := fun v σ H Q => to σ H fun x H2 => ∃ a C dx fs, x = .ref a ∧ H2 a = some (.ins C dx fs) ∧ Cls K C ∧ NoAttr K C f ∧ fs.length < 1000 ∧ Q σ (upd H2 a (.ins C dx (putF f v fs)))
theorem pg_fld {X : Cx} {o : Expr} {f : Str} {pos : Pos} {to : TE} (ho : PE X o to)
    (ha : ∀ v, assign (.Attribute o f pos) X.env v = (do let ov ← holding [v] (eval o X.env); standAt pos.atName; holding [v, ov] (setAttr ov f v); release [v, ov] []) := by intro _; rfl) : PG X (.Attribute o f pos) (gFld X.K to f) := by
  constructor
  intro pins s σ H v u Q I r h
  rw [ha]
  refine wpAny_bind (wpAny_holding (thn (ho.run pins s σ H _ I h) ?_))
  rintro ov s1 ⟨x, H1, I1, rx, a, C, dx, fs, ex, ea, c, n, l, q⟩
  subst ex
  obtain rfl : ov = Value.ref a := rx
  refine wpAny_bind (wpAny_standAt (wpAny_bind (wpAny_holding (setattr_ok I1 ea c n l r fun s2 I2 => ?_))))
  exact wpAny_release ⟨σ, _, I2, q⟩
end OB
namespace DL
open PySem PySem.Spec PyProof.Rows L2
variable [CTab]
/-- the j-th field of the own thing in slot i takes data -/
def mTF (i c j : Nat) : MT := fun d ρ => match mMutNow i (cFld c j) d ρ with
  | .ok .nx ρ' => some ρ'
  | _ => none
end DL
set_option Elab.async false
set_option linter.all false
set_option maxRecDepth 100000
set_option maxHeartbeats 4000000
namespace DL
open PySem PySem.Spec PyProof.Rows L2
variable [CTab]
section
variable {X : Cx} {E : XK} {pos : Pos} {e : Expr} {m : M D} {K : PySem.W.Frag}
/-- a field of the own thing in slot i takes data: what a target's reading asks -/
theorem fld_gen {n : Nat} {f : Str} (cf : CFacts K n) {i c j : Nat} (hc : c < n) (hj : (cF c)[j]? = some f) (hl : (cF c).length < 1000) {cz : Cz} {Z : Addr → Prop} {ρ : Env} {σ : St} {H : Hp} {Dn : Ends} {d : D} {v : V} (r : Rel K cz Z ρ σ H) (hd : Rep K H Z d v)
    (q : tSR K E cz Dn (mMutNow i (cFld c j) d ρ)) : OB.gFld K (tVar i) f v σ H Dn.nx := by
  obtain ⟨p, t, t', h1, ⟨o, h2, h3⟩, hz, hf, k⟩ := mut_gen (d := d) q r
  cases t with
  | lst _ => cases hf
  | dct _ _ => cases hf
  | ob c' l =>
    have hf : (if c' = c then (if j < l.length then some (Ct.ob c (l.set j d)) else if j = l.length then some (Ct.ob c (l ++ [d])) else none) else none) = some t' := hf
    split at hf
    · rename_i ec
      subst ec
      obtain ⟨dx, vs, rfl, hlen, hr⟩ := h3
      have hll := hr.len
      obtain ⟨g1, g2⟩ := putF_at (v := v) (vs := vs) (cf.nd c' hc) hj
      have ex : ∀ o', Ext Z H (upd H p o') := fun o' a o nz e => by rw [upd_ne (fun z => nz (by rw [z]; exact hz))]; exact e
      have hz1 : ((cF c').zip vs).length < 1000 := by rw [List.length_zip]; omega
      have hjl := (List.getElem?_eq_some_iff.mp hj).1
      refine ⟨_, h1, p, _, dx, _, rfl, h2, (cf.cls c' hc).cl, cf.noat c' f hc (List.mem_of_getElem? hj), hz1, ?_⟩
      refine k _ (fun a o ne e => by rw [upd_ne ne]; exact e) ?_
      split at hf
      · rename_i hlt
        cases hf
        exact ⟨_, upd_same, dx, vs.set j v, by rw [g1 (by omega)], by simpa using hlen, Reps.set (Rep.ext (ex _) _ _ hd) j (Reps.ext (ex _) _ _ hr)⟩
      · split at hf
        · rename_i hlt heq
          cases hf
          exact ⟨_, upd_same, dx, vs ++ [v], by rw [g2 (by omega)], by simp; omega, (Reps.ext (ex _) _ _ hr).app (Reps.one (Rep.ext (ex _) _ _ hd))⟩
        · cases hf
    · cases hf
end
end DL
set_option Elab.async false
set_option linter.all false
set_option maxRecDepth 100000
set_option maxHeartbeats 4000000
namespace DL
open PySem PySem.Spec PyProof.Rows L2
variable [CTab]
section
variable {K : PySem.W.Frag}
/-- a change of the thing in slot i, the relation kept -/
theorem mutZ {i : Nat} {f : Ct → D → Option Ct} {c : Cz} {Z : Addr → Prop} {ρ ρ' : Env} {σ : St} {H : Hp} {d : D} (h : mMutNow i f d ρ = .ok .nx ρ') (r : Rel K c Z ρ σ H) :
    ∃ p t t', σ[i]? = some (some (.ref p)) ∧ RepC K H Z t p ∧ Z p ∧ f t d = some t' ∧ ∀ H', (∀ a o, a ≠ p → H a = some o → H' a = some o) → RepC K H' Z t' p → Rel K c Z ρ' σ H' := by
  unfold mMutNow at h
  split at h
  · rename_i w hw
    split at h
    · rename_i t ht
      split at h
      · rename_i t' hf
        cases h
        obtain ⟨w', hw', hh⟩ := holds_hold ht
        rw [hw] at hw'
        cases hw'
        obtain ⟨p, h1, h2, h3⟩ := r.hold hw hh
        exact ⟨p, t, t', h1, h3, h2, hf, fun H' hk hn => r.put hw hh h1 hk hn⟩
      · cases h
    · cases h
  · cases h
/-- fields of the own thing in slot i, one behind another -/
def putFs (i c : Nat) : List Nat → List D → Env → Option Env
  | [], [], ρ => some ρ
  | j :: js, d :: ds, ρ => (match mMutNow i (cFld c j) d ρ with
    | .ok .nx ρ1 => putFs i c js ds ρ1
    | _ => none)
  | _, _, _ => none
theorem fld_step {n : Nat} {f : Str} (cf : CFacts K n) {i c j : Nat} (hc : c < n) (hj : (cF c)[j]? = some f) (hl : (cF c).length < 1000) {cz : Cz} {Z : Addr → Prop} {ρ ρ' : Env} {σ : St} {H : Hp} {d : D} {v : V} {Q : St → Hp → Prop} (r : Rel K cz Z ρ σ H) (hd : Rep K H Z d v)
    (h : mMutNow i (cFld c j) d ρ = .ok .nx ρ') (q : ∀ H', Rel K cz Z ρ' σ H' → Ext Z H H' → Q σ H') : OB.gFld K (tVar i) f v σ H Q := by
  obtain ⟨p, t, t', h1, ⟨o, h2, h3⟩, hz, hf, k⟩ := mutZ h r
  cases t with
  | lst _ => cases hf
  | dct _ _ => cases hf
  | ob c' l =>
    have hf : (if c' = c then (if j < l.length then some (Ct.ob c (l.set j d)) else if j = l.length then some (Ct.ob c (l ++ [d])) else none) else none) = some t' := hf
    split at hf
    · rename_i ec
      subst ec
      obtain ⟨dx, vs, rfl, hlen, hr⟩ := h3
      have hll := hr.len
      obtain ⟨g1, g2⟩ := putF_at (v := v) (vs := vs) (cf.nd c' hc) hj
      have ex : ∀ o', Ext Z H (upd H p o') := fun o' a o nz e => by rw [upd_ne (fun z => nz (by rw [z]; exact hz))]; exact e
      have hz1 : ((cF c').zip vs).length < 1000 := by rw [List.length_zip]; omega
      have hjl := (List.getElem?_eq_some_iff.mp hj).1
      refine ⟨_, h1, p, _, dx, _, rfl, h2, (cf.cls c' hc).cl, cf.noat c' f hc (List.mem_of_getElem? hj), hz1, q _ (k _ (fun a o ne e => by rw [upd_ne ne]; exact e) ?_) (ex _)⟩
      split at hf
      · rename_i hlt
        cases hf
        exact ⟨_, upd_same, dx, vs.set j v, by rw [g1 (by omega)], by simpa using hlen, Reps.set (Rep.ext (ex _) _ _ hd) j (Reps.ext (ex _) _ _ hr)⟩
      · split at hf
        · rename_i hlt heq
          cases hf
          exact ⟨_, upd_same, dx, vs ++ [v], by rw [g2 (by omega)], by simp; omega, (Reps.ext (ex _) _ _ hr).app (Reps.one (Rep.ext (ex _) _ _ hd))⟩
        · cases hf
    · cases hf
end
end DL
set_option Elab.async false
set_option linter.all false
set_option maxRecDepth 100000
set_option maxHeartbeats 4000000
namespace DL
open PySem PySem.Spec PyProof.Rows L2
variable [CTab]
def tFs (K : PySem.W.Frag) (i c : Nat) (js : List Nat) : TGs := fun vs σ H Q => ∃ cz Z ρ l ρ', Rel K cz Z ρ σ H ∧ Reps K H Z l vs ∧ putFs i c js l ρ = some ρ' ∧ ∀ H', Rel K cz Z ρ' σ H' → Q σ H'
def mAsgF (i c : Nat) (js : List Nat) (m : M D) : M Fl := fun ρ => bindR (m ρ) fun d ρ => match d with
  | .tup l => (match putFs i c js l ρ with
    | some ρ' => .ok .nx ρ'
    | none => .fail)
  | _ => .fail
section
variable {X : Cx} {E : XK} {pos tpos apos : Pos} {e : Expr} {es : List Expr} {m : M D} {i c j : Nat} {js : List Nat}
theorem gf_nil : PGs X [] (tFs X.K i c []) := by
  refine pgs_nil.imp fun vs σ H Q h => ?_
  obtain ⟨cz, Z, ρ, l, ρ', r, hl, hp, q⟩ := h
  cases l with
  | nil =>
    cases hp
    exact ⟨hl, q H r⟩
  | cons _ _ => cases hp
theorem gf_cons {n : Nat} {f x : Str} {np : Pos} (cf : CFacts X.K n) (j : Nat) (hc : c < n) (hj : (cF c)[j]? = some f) (hl : (cF c).length < 1000) (hr : PGs X es (tFs X.K i c js)) (hN : X.N[i]? = some x := by rfl) (hv : Vis X.env.scope x := by first | exact Or.inl rfl | exact Or.inr (Or.inl rfl) | exact Or.inr (Or.inr rfl))
    (hd : (x == ("__debug__" : Str)) = false := by decide) (hcd : (x == ("__classdict__" : Str)) = false := by decide)
    (ha : ∀ v, assign (.Attribute (.Name x np) f apos) X.env v = (do let ov ← holding [v] (eval (.Name x np) X.env); standAt apos.atName; holding [v, ov] (setAttr ov f v); release [v, ov] []) := by intro _; rfl)
    (hs : (assignEach (.Attribute (.Name x np) f apos :: es) X.env).map (·.2) = assign (.Attribute (.Name x np) f apos) X.env :: (assignEach es X.env).map (·.2) := by rfl) : PGs X (.Attribute (.Name x np) f apos :: es) (tFs X.K i c (j :: js)) := by
  refine (pgs_cons (OB.pg_fld (pe_var hN hv hd hcd) ha) hr hs).imp fun vs σ H Q h => ?_
  obtain ⟨cz, Z, ρ, l, ρ', r, hrl, hp, q⟩ := h
  cases l with
  | nil => cases hp
  | cons d ds =>
    obtain ⟨u, us, rfl, h1, h2⟩ := hrl.inv
    have hp : (match mMutNow i (cFld c j) d ρ with
      | .ok .nx ρ1 => putFs i c js ds ρ1
      | _ => none) = some ρ' := hp
    split at hp
    · rename_i ρ1 hm
      exact ⟨u, us, rfl, fld_step cf hc hj hl r h1 hm fun H' r' ex => ⟨cz, Z, ρ1, ds, ρ', r', Reps.ext ex _ _ h2, hp, q⟩⟩
    · cases hp
/-- o.a, o.b = .. -/
theorem s_asgF {k : Nat} (hc : X.calm = true) (he : PE X e (tD X.K E m)) (hg : PGs X es (tFs X.K i c js)) (hn : (assignEach es X.env).length = js.length := by rfl) (hst : (assignEach es X.env).findIdx? (·.1) = none := by rfl)
    (hs : swapsWithSole [.Tuple es k tpos] e pos.line X.env = pure false := by rfl) (hw : swappedStores [.Tuple es k tpos] e X.env = pure none := by rfl) (h1 : (assignEach [.Tuple es k tpos] X.env).map (·.2) = [assign (.Tuple es k tpos) X.env] := by rfl) :
    PS X (.Assign [.Tuple es k tpos] e pos) (tS X.K E (mAsgF i c js m)) := by
  refine (ps_asg he (pg_tup hc hg hn hst) hs hw h1).imp fun Dn σ H h => ?_
  obtain ⟨cz, ρ, ⟨Z, r⟩, q⟩ := h
  refine ⟨cz, Z, ρ, r, tSR.expr q fun d ρ1 v H1 r1 hd q1 => ?_⟩
  cases d <;> first | (exact q1.elim; done) | skip
  rename_i l
  have hd : Rep X.K H1 Z (.tup l) v := hd
  simp only [Rep] at hd
  obtain ⟨p, us, rfl, h2, h3⟩ := hd
  have len : ∀ (js : List Nat) (l : List D) (ρ ρ' : Env), putFs i c js l ρ = some ρ' → l.length = js.length := by
    intro js
    induction js with
    | nil => intro l ρ ρ' h; cases l with | nil => rfl | cons _ _ => cases h
    | cons a js ih =>
      intro l ρ ρ' h
      cases l with
      | nil => cases h
      | cons d l =>
        unfold putFs at h
        split at h
        · exact congrArg (· + 1) (ih _ _ _ h)
        · cases h
  have q1 : tSR X.K E cz Dn (match putFs i c js l ρ1 with
    | some ρ' => .ok .nx ρ'
    | none => .fail) := q1
  split at q1
  · rename_i ρ' hp
    exact ⟨p, us, rfl, h2.sq, by rw [← h3.len]; exact len _ _ _ _ hp, cz, Z, ρ1, l, ρ', r1, h3, hp, fun H' r' => q1 σ H' ⟨Z, r'⟩⟩
  · exact q1.elim
end
end DL
set_option Elab.async false
set_option linter.all false
set_option maxRecDepth 100000
set_option maxHeartbeats 4000000
/-! ### a set of unlike texts, and its length -/
namespace DL
open PySem PySem.Spec PyProof.Rows L2
section
variable {prog : Program} {w : World} {A : Around} {R : Result → Shared → Prop} {I : Addr} {fp wr : List Addr} {G : Array GenState → Array GenState → Prop} {n : Nat} {P : Nat → Value → Prop} {St : Nat → Shared → Prop}
def inTake (xs : List Str) (i : Nat) : Str → Bool := fun k => decide (k ∈ xs.take i)
theorem inTake_succ {xs : List Str} {i : Nat} (hi : i < xs.length) (k : Str) : (inTake xs i k || decide (k = xs.getD i Str.empty)) = inTake xs (i + 1) k := by
  have e : xs.getD i Str.empty = xs[i] := by simp [hi]
  unfold inTake
  rw [e, List.take_succ_eq_append_getElem hi]
  simp only [List.mem_append, List.mem_singleton, Bool.decide_or]
theorem inTake_new {xs : List Str} (nd : xs.Nodup) {i : Nat} (hi : i < xs.length) : inTake xs i (xs.getD i Str.empty) = false := by
  have e : xs.getD i Str.empty = xs[i] := by simp [hi]
  unfold inTake
  rw [e, decide_eq_false_iff_not]
  intro h
  obtain ⟨j, hj, q⟩ := List.mem_iff_getElem.mp h
  rw [List.getElem_take] at q
  rw [List.length_take] at hj
  exact absurd q (List.pairwise_iff_getElem.mp nd j i (by omega) hi (by omega))
theorem setLoop (W : WalksS prog w A.in1 I fp wr G n P St) {b : Addr} (hb : b ∉ fp) {xs : List Str} (nd : xs.Nodup) (hn : xs.length = n) (hl : n + 1 < scanBound) (hv : ∀ i v, P i v → ∃ t, v = .str (xs.getD i Str.empty) t) :
    ∀ (m i : Nat) (s : Shared), i + m = n → St i s → s.heap.SetOf (strKind prog w) b (inTake xs i) i →
      (∀ s', Moved (b :: wr) G s s' → s'.heap.SetOf (strKind prog w) b (inTake xs n) n → R (.ok (.ret .none)) s') →
      codeAny (model prog w) A (.builtin "set.update.loop" ⟨[.ref b, .ref I], []⟩) R s := by
  have hw : b ∉ wr := fun h => hb (W.sub _ h)
  have mv : ∀ {s s' : Shared} {i : Nat}, Moved wr G s s' → s.heap.SetOf (strKind prog w) b (inTake xs i) i → s'.heap.SetOf (strKind prog w) b (inTake xs i) i := fun hm ⟨o, es, ep, t, ho, rest⟩ => ⟨o, es, ep, t, hm.heap b _ hw ho, rest⟩
  have up : ∀ {s s' : Shared}, Moved wr G s s' → Moved (b :: wr) G s s' := fun hm => hm.mono fun c hc => List.mem_cons_of_mem _ hc
  intro m
  induction m with
  | zero =>
    intro i s hi hst hS hR
    obtain rfl : i = n := by omega
    refine codeAny_builtin PyProof.Rows.F.entry_set_update_loop ?_
    rw [Around.under_plainId PyProof.Rows.F.plain_set_update_loop _]
    refine wpAny_bind (m := pyNext (.ref I)) (W.done s _ _ hst fun s' hm => ?_)
    exact wpAny_pure (hR s' (up hm) (mv hm hS))
  | succ m ih =>
    intro i s hi hst hS hR
    have hin : i < n := by omega
    refine codeAny_builtin PyProof.Rows.F.entry_set_update_loop ?_
    rw [Around.under_plainId PyProof.Rows.F.plain_set_update_loop _]
    refine wpAny_bind (m := pyNext (.ref I)) (W.item i s _ _ hin hst fun v s' hP hst' hm => ?_)
    obtain ⟨t, rfl⟩ := hv i v hP
    refine wpAny_bind (m := holding [Value.str (xs.getD i Str.empty) t] (setAdd b (.str (xs.getD i Str.empty) t))) (wpAny_holding ?_)
    unfold setAdd
    refine wpAny_holding (wpAny_bind ((strKind prog w).pyHash (k := xs.getD i Str.empty) (strKind_is _ _ _ _) ?_))
    refine wpAny_setAddHashed_of (knd := strKind prog w) (s := { s' with toks := s'.toks + 1 }) (strKind_is _ _ _ _) rfl (show s'.heap.SetOf (strKind prog w) b (inTake xs i) i from mv hm hS) (by omega) fun h' hsb hS2 => ?_
    have hS3 : h'.SetOf (strKind prog w) b (inTake xs (i + 1)) (i + 1) := SetOf_congr hS2 (inTake_succ (by omega)) (by rw [inTake_new nd (by omega)]; rfl)
    refine wpAny_pure ⟨plainId_quiet PyProof.Rows.F.plain_set_update_loop _, ih (i + 1) _ (by omega) (W.frame _ s' _ _ hst' (Nat.le_succ _) fun c hc o e => ?_) hS3 fun s'' hm2 hS4 => hR s'' (Moved.trans W.gtrans ((up hm).then_heap (Nat.le_succ _) fun c o hc e => ?_) hm2) hS4⟩
    · rw [hsb.2 c fun q => hb (q ▸ hc)]
      exact e
    · rw [hsb.2 c fun q => hc (by rw [q]; exact List.mem_cons_self)]
      exact e
end
section
variable {prog : Program} {w : World} {A : Around} {E : Value → Shared → Prop} {s : Shared}
abbrev freshSet (led : Bool) : Obj := { cls := .type "set", dict := none, data := .set #[] 0 (.fresh 0 0 led) }
abbrev withSet (s : Shared) (led : Bool) : Shared := { s with heap := s.heap.push (freshSet led) }
/-- what set(x) leaves: the set of xs at the first free place, all else as it was -/
def SetMade (prog : Program) (w : World) (s : Shared) (xs : List Str) (s' : Shared) : Prop :=
  ∃ (h' : Heap) (tk : Nat), s' = { s with heap := h', toks := tk } ∧ h'.SetOf (strKind prog w) s.heap.objs.size (inTake xs xs.length) xs.length ∧ ∀ b o, s.heap.get? b = some o → h'.get? b = some o
theorem set_of_init {v : Value} {xs : List Str} {Q : Value → Shared → Prop}
    (hi : ∀ led, codeAny (model prog w) A.in1 (.call (.builtin "set.__init__") ⟨[.ref s.heap.objs.size, v], []⟩) (wants (fun r s2 => r = .none ∧ SetMade prog w s xs s2) E) (withSet s led))
    (h : ∀ s', SetMade prog w s xs s' → Q (.ref s.heap.objs.size) s') : wpAny (model prog w) A (call (.type "set") [v]) Q E s := by
  obtain ⟨c, tl, hmro⟩ := PySem.F.called_set.mro
  have q1 := PySem.F.called_set.made
  have q2 := PySem.F.called_set.sub
  have q3 := PySem.F.called_set.notType
  have q4 := PySem.F.called_set.canCreate
  have q5 := PySem.F.typeCall_set_1 v
  refine wpAny_call (codeAny_of_tree ?_)
  show wpAny _ _ (callAny (.type "set") _) _ _ _
  refine wpAny_pure ⟨Code.quiet_builtin _ (by decide +kernel), codeAny_builtin PySem.F.entry_type_call ?_⟩
  rw [Around.under_plain (weight_type_call_type "set" [v] []) rfl]
  repeat (any_goals (first | assumption | wp_step))
  refine codeAny_mono (code_set_new_1 v (E := E) (Q₁ := fun x s1 => ∃ led, x = .ref s.heap.objs.size ∧ s1 = withSet s led) fun led => ⟨led, rfl, rfl⟩) fun r s1 hr => ?_
  match r, hr with
  | .error e, hr => exact hr
  | .ok (.ret x), hr =>
    obtain ⟨led, rfl, rfl⟩ := hr
    have hT : Shared.TypeIs (withSet s led) (.ref s.heap.objs.size) "set" := ⟨_, Heap.get?_push_size _ rfl, rfl⟩
    have q6 := PySem.F.called_set.init.lookup
    have q7 := PySem.F.called_set.init.bind (.ref s.heap.objs.size)
    repeat (any_goals (first | assumption | wp_step))
    refine codeAny_mono (hi led) fun r2 s2 hr2 => ?_
    match r2, hr2 with
    | .error e, hr2 => exact hr2
    | .ok (.ret x), hr2 =>
      obtain ⟨rfl, hm⟩ := hr2
      repeat (any_goals (first | assumption | wp_step))
      exact h _ hm
theorem init_list {l : Addr} {items : Array Value} {xs : List Str} (hh : A.handled = none) (hl : s.heap.IsList l items) (hi : StrsAre items.toList xs) (nd : xs.Nodup) (hb : xs.length + 1 < scanBound) (led : Bool) :
    codeAny (model prog w) A.in1 (.call (.builtin "set.__init__") ⟨[.ref s.heap.objs.size, .ref l], []⟩) (wants (fun r s2 => r = .none ∧ SetMade prog w s xs s2) E) (withSet s led) := by
  have g0 : (withSet s led).heap.get? s.heap.objs.size = some (freshSet led) := Heap.get?_push_size _ rfl
  refine codeAny_call_builtin PySem.F.called_set.init.plain PySem.F.entry_set_init (check_set_init_1 ⟨_, g0, rfl⟩ ?_)
  have hn : xs.length = items.size := by rw [← StrsAre.len_eq hi, Array.length_toList]
  obtain ⟨⟨oc, od, dt, sl⟩, ho, e1, k, e2⟩ := hl
  simp only at e1 e2
  subst e1 e2
  have u1 : (withSet s led).heap.get? l = some { cls := .type "list", dict := od, data := .seq items k, slots := sl } := Heap.get?_push_of_some _ ho
  have u2 := PySem.F.sub_list_set
  have u3 := PySem.F.sub_list_frozenset
  have u4 : (Value.type "list" == Value.type "dict") = false := by decide
  have hl1 : (withSet s led).heap.IsList l items := ⟨_, u1, rfl, k, rfl⟩
  unfold Builtin.«set.__init__» noKeywords Builtin.Frozenset.updateFrom
  generalize hPI : pyIter = PI
  wp_walk
  subst hPI
  refine wpAny_pyIter_list hl1 (wpAny_bind (wpAny_runValue ?_))
  have lt : l < s.heap.objs.size := Heap.lt_size ho
  have sz : (withSet s led).heap.objs.size = s.heap.objs.size + 1 := Heap.size_push ..
  have n1 : l ≠ (withSet s led).heap.objs.size := by rw [sz]; exact Nat.ne_of_lt (Nat.lt_succ_of_lt lt)
  have n2 : s.heap.objs.size ∉ [(withSet s led).heap.objs.size, l] := by
    rw [sz]
    simp only [List.mem_cons, List.not_mem_nil, or_false, not_or]
    exact ⟨Nat.ne_of_lt (Nat.lt_succ_self _), Nat.ne_of_gt lt⟩
  have at_ : ∀ (i : Nat) (v : Value), items[i]? = some v → ∃ t, v = .str (xs.getD i Str.empty) t := fun i v hv => SS.strs_at hi i v (by rw [Array.getElem?_toList]; exact hv)
  have h3 : A.in1.in1.in1.handled = none := by simp [hh]
  refine setLoop ((Walks.list h3 _ l n1 items).toS) n2 nd hn (by rw [← hn]; exact hb) at_ items.size 0 _ (by omega) ⟨⟨_, Heap.get?_push_size _ rfl, rfl, rfl⟩, (hl1.push _)⟩ ?hS0 ?hR
  case hS0 => exact SetOf_congr ((setObjOf_fresh (knd := strKind prog w) led).setOf (Heap.get?_push_of_some _ g0) (by unfold scanBound; omega)) (fun k => by simp [inTake]) rfl
  case hR =>
    intro s' hm hS
    obtain ⟨h', g', d', t', o'⟩ := s'
    obtain rfl : g' = s.gens := hm.gens
    obtain rfl : d' = s.drawn := hm.drawn
    obtain rfl : o' = s.os := hm.os
    show wpAny _ _ _ _ _ _
    refine wpAny_pure ?_
    show wpAny _ _ (ret Value.none) _ _ _
    refine wpAny_pure ⟨rfl, h', t', rfl, by rw [hn]; exact hS, fun b o e => ?_⟩
    have hb := Heap.lt_size e
    refine hm.heap b o ?_ (Heap.get?_push_of_some _ (Heap.get?_push_of_some _ e))
    rw [sz]
    simp only [List.mem_cons, List.not_mem_nil, or_false, not_or]
    exact ⟨Nat.ne_of_lt hb, Nat.ne_of_lt (Nat.lt_succ_of_lt hb)⟩
theorem init_tuple {l : Addr} {items : Array Value} {xs : List Str} (hh : A.handled = none) (hl : s.heap.IsTuple l items) (hi : StrsAre items.toList xs) (nd : xs.Nodup) (hb : xs.length + 1 < scanBound) (led : Bool) :
    codeAny (model prog w) A.in1 (.call (.builtin "set.__init__") ⟨[.ref s.heap.objs.size, .ref l], []⟩) (wants (fun r s2 => r = .none ∧ SetMade prog w s xs s2) E) (withSet s led) := by
  have g0 : (withSet s led).heap.get? s.heap.objs.size = some (freshSet led) := Heap.get?_push_size _ rfl
  refine codeAny_call_builtin PySem.F.called_set.init.plain PySem.F.entry_set_init (check_set_init_1 ⟨_, g0, rfl⟩ ?_)
  have hn : xs.length = items.size := by rw [← StrsAre.len_eq hi, Array.length_toList]
  obtain ⟨⟨oc, od, dt, sl⟩, ho, e1, k, e2⟩ := hl
  simp only at e1 e2
  subst e1 e2
  have u1 : (withSet s led).heap.get? l = some { cls := .type "tuple", dict := od, data := .seq items k, slots := sl } := Heap.get?_push_of_some _ ho
  have u2 := PySem.F.sub_tuple_set
  have u3 := PySem.F.sub_tuple_frozenset
  have u4 : (Value.type "tuple" == Value.type "dict") = false := by decide
  have hl1 : (withSet s led).heap.IsTuple l items := ⟨_, u1, rfl, k, rfl⟩
  unfold Builtin.«set.__init__» noKeywords Builtin.Frozenset.updateFrom
  generalize hPI : pyIter = PI
  wp_walk
  subst hPI
  refine wpAny_pyIter_tuple hl1 (wpAny_bind (wpAny_runValue ?_))
  have lt : l < s.heap.objs.size := Heap.lt_size ho
  have sz : (withSet s led).heap.objs.size = s.heap.objs.size + 1 := Heap.size_push ..
  have n1 : l ≠ (withSet s led).heap.objs.size := by rw [sz]; exact Nat.ne_of_lt (Nat.lt_succ_of_lt lt)
  have n2 : s.heap.objs.size ∉ [(withSet s led).heap.objs.size, l] := by
    rw [sz]
    simp only [List.mem_cons, List.not_mem_nil, or_false, not_or]
    exact ⟨Nat.ne_of_lt (Nat.lt_succ_self _), Nat.ne_of_gt lt⟩
  have at_ : ∀ (i : Nat) (v : Value), items[i]? = some v → ∃ t, v = .str (xs.getD i Str.empty) t := fun i v hv => SS.strs_at hi i v (by rw [Array.getElem?_toList]; exact hv)
  have h3 : A.in1.in1.in1.handled = none := by simp [hh]
  refine setLoop ((Walks.tuple h3 _ l n1 items).toS) n2 nd hn (by rw [← hn]; exact hb) at_ items.size 0 _ (by omega) ⟨⟨_, Heap.get?_push_size _ rfl, rfl, rfl⟩, (hl1.push _)⟩ ?hS0 ?hR
  case hS0 => exact SetOf_congr ((setObjOf_fresh (knd := strKind prog w) led).setOf (Heap.get?_push_of_some _ g0) (by unfold scanBound; omega)) (fun k => by simp [inTake]) rfl
  case hR =>
    intro s' hm hS
    obtain ⟨h', g', d', t', o'⟩ := s'
    obtain rfl : g' = s.gens := hm.gens
    obtain rfl : d' = s.drawn := hm.drawn
    obtain rfl : o' = s.os := hm.os
    show wpAny _ _ _ _ _ _
    refine wpAny_pure ?_
    show wpAny _ _ (ret Value.none) _ _ _
    refine wpAny_pure ⟨rfl, h', t', rfl, by rw [hn]; exact hS, fun b o e => ?_⟩
    have hb := Heap.lt_size e
    refine hm.heap b o ?_ (Heap.get?_push_of_some _ (Heap.get?_push_of_some _ e))
    rw [sz]
    simp only [List.mem_cons, List.not_mem_nil, or_false, not_or]
    exact ⟨Nat.ne_of_lt hb, Nat.ne_of_lt (Nat.lt_succ_of_lt hb)⟩
end
section
variable [CTab]
def dLenSet : D → Option D
  | .lst l => (dStrs l).bind fun xs => if xs.Nodup ∧ xs.length ≤ 4000 then some (.int (xs.length : Nat)) else none
  | .rol l => (dStrs l).bind fun xs => if xs.Nodup ∧ xs.length ≤ 4000 then some (.int (xs.length : Nat)) else none
  | .tup l => (dStrs l).bind fun xs => if xs.Nodup ∧ xs.length ≤ 4000 then some (.int (xs.length : Nat)) else none
  | _ => none
def tLenU (K : PySem.W.Frag) (ta : TE) : TE := fun σ H Q => ta σ H fun x H1 => ∃ (l : Addr) (xs : List Str), x = .ref l ∧ (SqL K H1 l (xs.map V.str) ∨ SqT K H1 l (xs.map V.str)) ∧ xs.Nodup ∧ xs.length ≤ 4000 ∧ Q (.int (xs.length : Nat)) H1
theorem pe_lenU {X : Cx} {a : Expr} {ta : TE} {p p2 q pos : Pos} (hc : X.calm = true) (hg : Gl X "len") (hm : X.mg "len" = none) (hg2 : Gl X "set") (hm2 : X.mg "set" = none) (ha : PE X a ta)
    (na : starEach [a] X.env = (false, eval a X.env) :: starEach [] X.env) : PE X (.Call (.Name "len" p) [.Call (.Name "set" p2) [a] [] q] [] pos) (tLenU X.K ta) := by
  constructor
  intro pins s σ H Q I h
  refine Call_ (ld_blt I hg hm boot_len (PyProof.Rows.callWith_builtin1 (PyProof.Rows.args_cons ?_ rfl) rfl rfl))
  refine Call_ (ld_blt I hg2 hm2 boot_set (PyProof.Rows.callWith_type1 (PyProof.Rows.args_cons (thn (ha.run pins s σ H _ I h) fun v s1 ⟨x, H1, I1, r1, q1⟩ => PyProof.Rows.args_nil ?_) na) na rfl))
  obtain ⟨l, xs, rfl, hq, nd, hl, q1⟩ := q1
  cases r1
  have ar : ∀ {its : List Value}, Vals (xs.map V.str) its → StrsAre its.toArray.toList xs := fun r => by simpa using strsAre_of r
  have fin : ∀ s', SetMade X.prog X.w s1 xs s' → wpAny (model X.prog X.w) X.A (spliced (backTo pos (starEach [] X.env))) (fun vs s₂ => wpAny (model X.prog X.w) X.A (call (.builtin "len") (Value.ref s1.heap.objs.size :: vs)) (EP X pins σ Q) X.xe s₂) X.xe s' := fun s' ⟨h', tk, e, hS, hk⟩ => by
    subst e
    refine PyProof.Rows.args_nil ?_
    obtain ⟨o, es, ep, t, ho, hex, hd, _, _, _, hf, hn⟩ := hS
    have I2 : Inv X pins σ H1 { s1 with heap := h', toks := tk } := I1.kept fun b o e => hk b o e
    exact call_len_set ho hex hd hf (by rw [hn]; omega) ⟨.int xs.length, H1, I2.tok _, ⟨_, by rw [hn]⟩, q1⟩
  rcases hq with hq | hq
  · obtain ⟨its, r, pl, hz⟩ := I1.list hq
    exact set_of_init (fun led => init_list (I1.ok.hd hc) pl.isList (ar r) nd (by unfold scanBound; omega) led) fin
  · obtain ⟨its, r, pl, hz⟩ := I1.tuple hq
    exact set_of_init (fun led => init_tuple (I1.ok.hd hc) pl (ar r) nd (by unfold scanBound; omega) led) fin
theorem d_lenSet {X : Cx} {E : XK} {a : Expr} {m : M D} {p p2 q pos : Pos} (ha : PE X a (tD X.K E m)) (hm : X.mg "len" = none) (hm2 : X.mg "set" = none) (hc : X.calm = true := by rfl) (hg : Gl X "len" := by rfl) (hg2 : Gl X "set" := by rfl)
    (na : starEach [a] X.env = (false, eval a X.env) :: starEach [] X.env := by rfl) : PE X (.Call (.Name "len" p) [.Call (.Name "set" p2) [a] [] q] [] pos) (tD X.K E (m1 dLenSet m)) := by
  refine (pe_lenU hc hg hm hg2 hm2 ha na).imp fun σ H Q h => ?_
  obtain ⟨c, Z, ρ, r, q⟩ := h
  refine ⟨c, Z, ρ, r, q.bind fun d ρ1 v H1 r1 e1 h1 q1 => ?_⟩
  obtain ⟨w, hw, k⟩ := q1.lift r1
  have h1 : Rep X.K H1 Z d v := h1
  unfold dLenSet at hw
  split at hw
  · rename_i l _
    cases hs : dStrs l with
    | none => rw [hs] at hw; cases hw
    | some xs =>
      rw [hs] at hw
      simp only [Option.bind_some] at hw
      split at hw
      · rename_i hx
        cases hw
        simp only [Rep] at h1
        obtain ⟨p, vs, rfl, g1, g2⟩ := h1
        cases dStrs_rep hs g2
        exact ⟨p, xs, rfl, .inl g1.sq, hx.1, hx.2, k _ H1 (Same.refl H1) rfl⟩
      · cases hw
  · rename_i l _
    cases hs : dStrs l with
    | none => rw [hs] at hw; cases hw
    | some xs =>
      rw [hs] at hw
      simp only [Option.bind_some] at hw
      split at hw
      · rename_i hx
        cases hw
        simp only [Rep] at h1
        obtain ⟨p, vs, rfl, g1, g2⟩ := h1
        cases dStrs_rep hs g2
        exact ⟨p, xs, rfl, .inl g1.sq, hx.1, hx.2, k _ H1 (Same.refl H1) rfl⟩
      · cases hw
  · rename_i l _
    cases hs : dStrs l with
    | none => rw [hs] at hw; cases hw
    | some xs =>
      rw [hs] at hw
      simp only [Option.bind_some] at hw
      split at hw
      · rename_i hx
        cases hw
        simp only [Rep] at h1
        obtain ⟨p, vs, rfl, g1, g2⟩ := h1
        cases dStrs_rep hs g2
        exact ⟨p, xs, rfl, .inr g1.sq, hx.1, hx.2, k _ H1 (Same.refl H1) rfl⟩
      · cases hw
  · cases hw
/-- a class without an __init__ of its own -/
def plainB (K : PySem.W.Frag) (x : Str) : Bool := PySem.W.makesIn K (He.ga K x) && (He.eqO (PySem.W.findIn K (.ref (He.ga K x)) "__init__") (some (some (.builtin "object.__init__"))) && PySem.W.keepIn K (.ref (He.ga K x)))
theorem plain_ok {K : PySem.W.Frag} {x : Str} (h : plainB K x = true) : OB.Plain K (He.ga K x) := by
  obtain ⟨h1, h⟩ := He.ba h
  obtain ⟨h2, h3⟩ := He.ba h
  exact ⟨h1, He.eqO_ok h2, h3⟩
end
end DL
set_option Elab.async false
set_option linter.all false
set_option maxRecDepth 100000
set_option maxHeartbeats 4000000
/-! ### targets that change things of one's own: names, places, fields, one behind another -/
namespace DL
open PySem PySem.Spec PyProof.Rows L2
variable [CTab]
def tXs (K : PySem.W.Frag) (g : MTs) : TGs := fun vs σ H Q => ∃ c Z ρ l ρ', Rel K c Z ρ σ H ∧ Reps K H Z l vs ∧ g l ρ = some ρ' ∧ ∀ σ' H', Rel K c Z ρ' σ' H' → Q σ' H'
def mXN (i : Nat) (gs : MTs) : MTs := fun l ρ => match l with
  | d :: r => gs r (ρ.set i (some (.val d)))
  | _ => none
/-- x[e], x a list of one's own in slot i -/
def mXI (i : Nat) (mi : M D) (gs : MTs) : MTs := fun l ρ => match l with
  | d :: r => (match holds ρ i with
    | some (.lst _) => (match mi ρ with
      | .ok (.int j) ρ1 => (match mMutNow i (cSetAt j) d ρ1 with
        | .ok .nx ρ2 => gs r ρ2
        | _ => none)
      | _ => none)
    | _ => none)
  | _ => none
def mXF (i c j : Nat) (gs : MTs) : MTs := fun l ρ => match l with
  | d :: r => (match mMutNow i (cFld c j) d ρ with
    | .ok .nx ρ1 => gs r ρ1
    | _ => none)
  | _ => none
instance {n i : Nat} {gs : MTs} [t : TgLen n gs] : TgLen (n + 1) (mXN i gs) := ⟨fun l ρ ρ' h => by
  unfold mXN at h
  split at h
  · exact congrArg (· + 1) (t.len _ _ _ h)
  · cases h⟩
instance {n i : Nat} {mi : M D} {gs : MTs} [t : TgLen n gs] : TgLen (n + 1) (mXI i mi gs) := ⟨fun l ρ ρ' h => by
  unfold mXI at h
  split at h
  · split at h <;> first | (cases h; done) | skip
    split at h <;> first | (cases h; done) | skip
    split at h <;> first | (cases h; done) | skip
    exact congrArg (· + 1) (t.len _ _ _ h)
  · cases h⟩
instance {n i c j : Nat} {gs : MTs} [t : TgLen n gs] : TgLen (n + 1) (mXF i c j gs) := ⟨fun l ρ ρ' h => by
  unfold mXF at h
  split at h
  · split at h <;> first | (cases h; done) | skip
    exact congrArg (· + 1) (t.len _ _ _ h)
  · cases h⟩
def mAsgX (gs : MTs) (m : M D) : M Fl := fun ρ => bindR (m ρ) fun d ρ => match d with
  | .tup l => (match gs l ρ with
    | some ρ' => .ok .nx ρ'
    | none => .fail)
  | _ => .fail
section
variable {X : Cx} {E : XK} {pos tpos apos : Pos} {e ei : Expr} {es : List Expr} {m mi : M D} {i c j : Nat} {gs : MTs}
theorem gx_nil : PGs X [] (tXs X.K mTNil) := by
  refine pgs_nil.imp fun vs σ H Q h => ?_
  obtain ⟨cz, Z, ρ, l, ρ', r, hl, hp, q⟩ := h
  unfold mTNil at hp
  split at hp
  · cases hp
    exact ⟨hl, q σ H r⟩
  · cases hp
theorem gx_name (i : Nat) {x : Str} (hN : X.N.Nodup) (hr : PGs X es (tXs X.K gs)) (hi : X.N[i]? = some x := by rfl) (hx : Loc X.env.scope x := by first | exact Or.inl rfl | exact Or.inr rfl) (hf : X.fn x = true ∨ X.env.scope.names.lookup x = some .local := by first | exact .inl rfl | exact .inr rfl)
    (hs : (assignEach (.Name x pos :: es) X.env).map (·.2) = assign (.Name x pos) X.env :: (assignEach es X.env).map (·.2) := by rfl) : PGs X (.Name x pos :: es) (tXs X.K (mXN i gs)) := by
  refine (pgs_cons (pg_name hN hi hx hf) hr hs).imp fun vs σ H Q h => ?_
  obtain ⟨cz, Z, ρ, l, ρ', r, hrl, hp, q⟩ := h
  unfold mXN at hp
  split at hp
  · rename_i d ds
    obtain ⟨u, us, rfl, h1, h2⟩ := hrl.inv
    exact ⟨u, us, rfl, cz, Z, _, ds, ρ', r.set h1, h2, hp, q⟩
  · cases hp
theorem gx_ix (i : Nat) {x : Str} {np : Pos} (hei : PE X ei (tD X.K E mi)) (hr : PGs X es (tXs X.K gs))
    (hN : X.N[i]? = some x := by rfl) (hv : Vis X.env.scope x := by first | exact Or.inl rfl | exact Or.inr (Or.inl rfl) | exact Or.inr (Or.inr rfl)) (hd : (x == ("__debug__" : Str)) = false := by decide) (hcd : (x == ("__classdict__" : Str)) = false := by decide)
    (ha : ∀ v, assign (.Subscript (.Name x np) ei apos) X.env v = (do let ov ← holding [v] (eval (.Name x np) X.env); let iv ← holding [v, ov] (eval ei X.env); standAt apos; holding [v, ov, iv] (setItem ov iv v); release [v, ov, iv] []) := by intro _; rfl)
    (hs : (assignEach (.Subscript (.Name x np) ei apos :: es) X.env).map (·.2) = assign (.Subscript (.Name x np) ei apos) X.env :: (assignEach es X.env).map (·.2) := by rfl) : PGs X (.Subscript (.Name x np) ei apos :: es) (tXs X.K (mXI i mi gs)) := by
  refine (pgs_cons (pg_sub (pe_var hN hv hd hcd) hei set_list ha) hr hs).imp fun vs σ H Q h => ?_
  obtain ⟨cz, Z, ρ, l, ρ', r, hrl, hp, q⟩ := h
  unfold mXI at hp
  split at hp
  · rename_i d ds
    obtain ⟨u, us, rfl, h1, h2⟩ := hrl.inv
    split at hp <;> first | (cases hp; done) | skip
    rename_i l0 ht
    obtain ⟨p, w, _, _, g1, hz, o, ho, ls, rfl, hus⟩ := holds_rel r ht
    split at hp <;> first | (cases hp; done) | skip
    rename_i j ρ1 em
    split at hp <;> first | (cases hp; done) | skip
    rename_i ρ2 em2
    refine ⟨u, us, rfl, _, g1, cz, Z, ρ, r, ?_⟩
    rw [em]
    intro kv H2 r2 e2 hk
    cases (show kv = _ from hk)
    obtain ⟨p', t, t', k1, ⟨o2, k2, k3⟩, k4, k5, kk⟩ := mutZ em2 r2
    rw [g1] at k1
    cases k1
    cases t with
    | dct _ _ => cases k5
    | ob _ _ => cases k5
    | lst l =>
      obtain ⟨us2, rfl, hus2⟩ := k3
      simp only [cSetAt] at k5
      split at k5
      · rename_i k hk
        cases k5
        have ex : Ext Z H2 (upd H2 p (.lst (us2.set k u))) := fun a o nz e => by rw [upd_ne (fun z => nz (by rw [z]; exact hz))]; exact e
        refine ⟨p, us2, j, k, rfl, rfl, k2, by rw [← hus2.len]; exact hk, cz, Z, ρ2, ds, ρ', ?_, Reps.ext ex _ _ (Reps.ext e2 _ _ h2), hp, q⟩
        exact kk _ (fun a o ne e => by rw [upd_ne ne]; exact e) ⟨_, upd_same, _, rfl, Reps.set (Rep.ext ex _ _ (Rep.ext e2 _ _ h1)) k (Reps.ext ex _ _ hus2)⟩
      · cases k5
  · cases hp
theorem gx_fld {n : Nat} {f x : Str} {np : Pos} (cf : CFacts X.K n) (j : Nat) (hc : c < n) (hj : (cF c)[j]? = some f) (hl : (cF c).length < 1000) (hr : PGs X es (tXs X.K gs)) (hN : X.N[i]? = some x := by rfl) (hv : Vis X.env.scope x := by first | exact Or.inl rfl | exact Or.inr (Or.inl rfl) | exact Or.inr (Or.inr rfl))
    (hd : (x == ("__debug__" : Str)) = false := by decide) (hcd : (x == ("__classdict__" : Str)) = false := by decide)
    (ha : ∀ v, assign (.Attribute (.Name x np) f apos) X.env v = (do let ov ← holding [v] (eval (.Name x np) X.env); standAt apos.atName; holding [v, ov] (setAttr ov f v); release [v, ov] []) := by intro _; rfl)
    (hs : (assignEach (.Attribute (.Name x np) f apos :: es) X.env).map (·.2) = assign (.Attribute (.Name x np) f apos) X.env :: (assignEach es X.env).map (·.2) := by rfl) : PGs X (.Attribute (.Name x np) f apos :: es) (tXs X.K (mXF i c j gs)) := by
  refine (pgs_cons (OB.pg_fld (pe_var hN hv hd hcd) ha) hr hs).imp fun vs σ H Q h => ?_
  obtain ⟨cz, Z, ρ, l, ρ', r, hrl, hp, q⟩ := h
  unfold mXF at hp
  split at hp
  · rename_i d ds
    obtain ⟨u, us, rfl, h1, h2⟩ := hrl.inv
    split at hp <;> first | (cases hp; done) | skip
    rename_i ρ1 hm
    exact ⟨u, us, rfl, fld_step cf hc hj hl r h1 hm fun H' r' ex => ⟨cz, Z, ρ1, ds, ρ', r', Reps.ext ex _ _ h2, hp, q⟩⟩
  · cases hp
theorem s_asgX {k n : Nat} [tl : TgLen n gs] (hc : X.calm = true) (he : PE X e (tD X.K E m)) (hg : PGs X es (tXs X.K gs)) (hn : (assignEach es X.env).length = n := by rfl) (hst : (assignEach es X.env).findIdx? (·.1) = none := by rfl)
    (hs : swapsWithSole [.Tuple es k tpos] e pos.line X.env = pure false := by rfl) (hw : swappedStores [.Tuple es k tpos] e X.env = pure none := by rfl) (h1 : (assignEach [.Tuple es k tpos] X.env).map (·.2) = [assign (.Tuple es k tpos) X.env] := by rfl) :
    PS X (.Assign [.Tuple es k tpos] e pos) (tS X.K E (mAsgX gs m)) := by
  refine (ps_asg he (pg_tup hc hg hn hst) hs hw h1).imp fun Dn σ H h => ?_
  obtain ⟨cz, ρ, ⟨Z, r⟩, q⟩ := h
  refine ⟨cz, Z, ρ, r, tSR.expr q fun d ρ1 v H1 r1 hd q1 => ?_⟩
  cases d <;> first | (exact q1.elim; done) | skip
  rename_i l
  have hd : Rep X.K H1 Z (.tup l) v := hd
  simp only [Rep] at hd
  obtain ⟨p, us, rfl, h2, h3⟩ := hd
  have q1 : tSR X.K E cz Dn (match gs l ρ1 with
    | some ρ' => .ok .nx ρ'
    | none => .fail) := q1
  split at q1
  · rename_i ρ' hp
    exact ⟨p, us, rfl, h2.sq, by rw [← h3.len]; exact tl.len _ _ _ hp, cz, Z, ρ1, l, ρ', r1, h3, hp, fun σ' H' r' => q1 σ' H' ⟨Z, r'⟩⟩
  · exact q1.elim
end
end DL
set_option Elab.async false
set_option linter.all false
set_option maxRecDepth 100000
set_option maxHeartbeats 4000000
/-! ### list(range(..)) -/
namespace DL
open PySem PySem.Spec PyProof.Rows L2
def rngV (a : Int) (n : Nat) : List V := (List.range n).map fun i : Nat => .int (a + (i : Int))
theorem rngV_succ (a : Int) (n : Nat) : rngV a (n + 1) = .int a :: rngV (a + 1) n := by
  unfold rngV
  rw [List.range_succ_eq_map, List.map_cons, List.map_map]
  congr 1
  · simp
  · apply List.map_congr_left
    intro i _
    simp only [Function.comp_def]
    congr 1
    omega
theorem vals_rng : ∀ (us : List Value) (a : Int), (∀ (j : Nat) v, us[j]? = some v → ∃ t, v = .int (a + (j : Int)) t) → Vals (rngV a us.length) us
  | [], a, _ => .nil
  | u :: us, a, h => by
    rw [List.length_cons, rngV_succ]
    obtain ⟨t, e⟩ := h 0 u rfl
    refine .cons ⟨t, by rw [e]; simp⟩ (vals_rng us (a + 1) fun j v hv => ?_)
    obtain ⟨t, e⟩ := h (j + 1) v (by simpa using hv)
    exact ⟨t, by rw [e]; congr 1; omega⟩
section
variable {X : Cx}
theorem cr_range1 : CallR X (.type "range") (fun vs H Q => ∃ j, vs = [V.int j] ∧ ∀ p, H p = none → Q (.ref p) (upd H p (.rng 0 j))) := by
  intro pins s σ H vs us Q I r h
  obtain ⟨j, rfl, q⟩ := h
  obtain ⟨u, rfl, t, rfl⟩ := vals1 r
  refine call_range_1 ⟨.ref s.heap.objs.size, upd H s.heap.objs.size (.rng 0 j), I.laid (t' := s.toks + 1 + 1) (fun b o e => Heap.get?_push_of_some _ e) (Nat.le_refl _) ⟨s.toks, t, s.toks + 1, Heap.get?_push_size _ rfl⟩, rfl, q _ (I.hok.fresh (Nat.le_refl _))⟩
theorem cr_listRng (hc : X.calm = true) : CallR X (.type "list") (fun vs H Q => ∃ p i j, vs = [V.ref p] ∧ H p = some (.rng i j) ∧ -4000 ≤ i ∧ i ≤ 4000 ∧ -4000 ≤ j ∧ j ≤ 4000 ∧ ∀ l, H l = none → Q (.ref l) (upd H l (.lst (rngV i (j - i).toNat)))) := by
  intro pins s σ H vs us Q I r h
  obtain ⟨p, i, j, rfl, hp, b1, b2, b3, b4, q⟩ := h
  obtain ⟨u, rfl, rx⟩ := vals1 r
  cases rx
  obtain ⟨t, u, v, ho⟩ := I.hok p _ hp
  have hn : Builtin.Range.rangeSize i j 1 = ((j - i).toNat : Nat) := by
    rw [rangeSize_one]
    split <;> omega
  have hs : Builtin.Range.small i j 1 = true := small_one (by omega) (by omega) (by omega) (by omega)
  refine call_list_range (n := (j - i).toNat) (I.ok.hd hc) ho hs hn (by omega) fun h' tk acc c' hk hS hacc => ?_
  have hv : Vals (rngV i (j - i).toNat) acc.toList := by
    have := vals_rng acc.toList i fun j v hv => by
      obtain ⟨t, e⟩ := hacc.2 j v (by simpa using hv)
      exact ⟨t, by rw [e, Int.mul_one]⟩
    rwa [Array.length_toList, hacc.1] at this
  exact ⟨.ref s.heap.objs.size, upd H s.heap.objs.size (.lst (rngV i (j - i).toNat)), I.laid (t' := tk) hk (Nat.le_refl _) (show ObjOk X.prog X.w _ h' _ (.lst _) from ⟨by unfold rngV sizeLine; simp; omega, acc.toList, c', hv, by simpa using hS⟩), rfl, q _ (I.hok.fresh (Nat.le_refl _))⟩
end
section
variable [CTab] {X : Cx} {E : XK} {pos p p2 pos2 : Pos} {e e2 : Expr} {m m' : M D}
def lim4 (i : Int) : Bool := decide (-4000 ≤ i ∧ i ≤ 4000)
def mLstRng1 (m : M D) : M D := fun ρ => bindR (m ρ) fun d ρ => match d with
  | .int j => if lim4 j = true then .ok (.lst (rngD 0 j.toNat)) ρ else .fail
  | _ => .fail
def mLstRng2 (m m' : M D) : M D := fun ρ => bindR (m ρ) fun d ρ => bindR (m' ρ) fun d' ρ => match d, d' with
  | .int i, .int j => if (lim4 i && lim4 j) = true then .ok (.lst (rngD i (j - i).toNat)) ρ else .fail
  | _, _ => .fail
theorem reps_rng {K : PySem.W.Frag} {H : Hp} {Z : Addr → Prop} : ∀ (n : Nat) (a : Int), Reps K H Z (rngD a n) (rngV a n) := fun n a => by
  unfold rngD rngV
  induction List.range n with
  | nil => exact Reps.nil
  | cons i l ih => exact Reps.cons (show V.int _ = V.int _ from rfl) ih
theorem lrng_gen {K : PySem.W.Frag} {c : Cz} {Z : Addr → Prop} {ρ : Env} {σ : St} {H : Hp} {Q : VK} (i : Int) (n : Nat) (r : Rel K c Z ρ σ H) (q : tR K E rD c Z σ H Q (.ok (.lst (rngD i n)) ρ)) {p l : Addr} {o : HO} (hp : H p = none) (hl : upd H p o l = none) : Q (.ref l) (upd (upd H p o) l (.lst (rngV i n))) := by
  have s1 : Same H (upd H p o) := same_upd hp
  exact q.new r (s1.trans (same_upd hl)) (new_lst (fun a z e => r.dom a z (s1.free e)) hl (reps_rng n i))
theorem d_lstRng1 (he : PE X e (tD X.K E m)) (hm : X.mg "list" = none) (hm2 : X.mg "range" = none) (hc : X.calm = true := by rfl) (hg : Gl X "list" := by rfl) (hg2 : Gl X "range" := by rfl) (h1 : starEach [e] X.env = (false, eval e X.env) :: starEach [] X.env := by rfl)
    (h2 : (backTo pos2 (starEach [] X.env)).any (·.1) = false := by rfl) (h3 : starEach [.Call (.Name "range" p2) [e] [] pos2] X.env = (false, eval (.Call (.Name "range" p2) [e] [] pos2) X.env) :: starEach [] X.env := by rfl) (h4 : (backTo pos (starEach [] X.env)).any (·.1) = false := by rfl) :
    PE X (.Call (.Name "list" p) [.Call (.Name "range" p2) [e] [] pos2] [] pos) (tD X.K E (mLstRng1 m)) := by
  refine (pe_callTy (cr_listRng hc) hg hm (by decide +kernel) (pa_cons (pe_callTy cr_range1 hg2 hm2 (by decide +kernel) (pa_cons he pa_nil h1) (by decide) (by decide) h1 h2) pa_nil h3) (by decide) (by decide) h3 h4).imp fun σ H Q h => ?_
  obtain ⟨c, Z, ρ, r, q⟩ := h
  refine ⟨c, Z, ρ, r, q.bind fun d ρ1 v H1 r1 e1 hd q1 => ?_⟩
  cases d <;> first | (exact q1.elim; done) | skip
  rename_i j
  cases (show v = _ from hd)
  by_cases hl : lim4 j = true
  · have q1 : tR X.K E rD c Z σ H1 Q (if lim4 j = true then .ok (.lst (rngD 0 j.toNat)) ρ1 else .fail) := q1
    rw [if_pos hl] at q1
    obtain ⟨l1, l2⟩ := of_decide_eq_true hl
    refine ⟨j, rfl, fun p hp => ⟨p, 0, j, rfl, upd_same, by omega, by omega, l1, l2, fun l hl => ?_⟩⟩
    rw [Int.sub_zero]
    exact lrng_gen 0 _ r1 q1 hp hl
  · have q1 : tR X.K E rD c Z σ H1 Q (if lim4 j = true then .ok (.lst (rngD 0 j.toNat)) ρ1 else .fail) := q1
    rw [if_neg hl] at q1
    exact q1.elim
theorem d_lstRng2 (he : PE X e (tD X.K E m)) (he2 : PE X e2 (tD X.K E m')) (hm : X.mg "list" = none) (hm2 : X.mg "range" = none) (hc : X.calm = true := by rfl) (hg : Gl X "list" := by rfl) (hg2 : Gl X "range" := by rfl) (h1 : starEach [e, e2] X.env = (false, eval e X.env) :: starEach [e2] X.env := by rfl) (h1' : starEach [e2] X.env = (false, eval e2 X.env) :: starEach [] X.env := by rfl)
    (h2 : (backTo pos2 (starEach [e2] X.env)).any (·.1) = false := by rfl) (h3 : starEach [.Call (.Name "range" p2) [e, e2] [] pos2] X.env = (false, eval (.Call (.Name "range" p2) [e, e2] [] pos2) X.env) :: starEach [] X.env := by rfl) (h4 : (backTo pos (starEach [] X.env)).any (·.1) = false := by rfl) :
    PE X (.Call (.Name "list" p) [.Call (.Name "range" p2) [e, e2] [] pos2] [] pos) (tD X.K E (mLstRng2 m m')) := by
  refine (pe_callTy (cr_listRng hc) hg hm (by decide +kernel) (pa_cons (pe_callTy cr_range2 hg2 hm2 (by decide +kernel) (pa_cons he (pa_cons he2 pa_nil h1') h1) (by decide) (by decide) h1 h2) pa_nil h3) (by decide) (by decide) h3 h4).imp fun σ H Q h => ?_
  obtain ⟨c, Z, ρ, r, q⟩ := h
  refine ⟨c, Z, ρ, r, q.bind fun d ρ1 v H1 r1 e1 hd q1 => ⟨c, Z, ρ1, r1, q1.bind fun d2 ρ2 v2 H2 r2 e2 hd2 q2 => ?_⟩⟩
  replace hd := Rep.ext e2 _ _ hd
  cases d <;> first | (exact q2.elim; done) | skip
  rename_i i
  cases d2 <;> first | (exact q2.elim; done) | skip
  rename_i j
  cases (show v = _ from hd)
  cases (show v2 = _ from hd2)
  by_cases hl : (lim4 i && lim4 j) = true
  · have q2 : tR X.K E rD c Z σ H2 Q (if (lim4 i && lim4 j) = true then .ok (.lst (rngD i (j - i).toNat)) ρ2 else .fail) := q2
    rw [if_pos hl] at q2
    obtain ⟨g1, g2⟩ := Bool.and_eq_true_iff.mp hl
    obtain ⟨l1, l2⟩ := of_decide_eq_true g1
    obtain ⟨l3, l4⟩ := of_decide_eq_true g2
    exact ⟨i, j, rfl, fun p hp => ⟨p, i, j, rfl, upd_same, l1, l2, l3, l4, fun l hl => lrng_gen i _ r2 q2 hp hl⟩⟩
  · have q2 : tR X.K E rD c Z σ H2 Q (if (lim4 i && lim4 j) = true then .ok (.lst (rngD i (j - i).toNat)) ρ2 else .fail) := q2
    rw [if_neg hl] at q2
    exact q2.elim
end
end DL
set_option Elab.async false
set_option linter.all false
set_option maxRecDepth 100000
set_option maxHeartbeats 4000000
/-! ### the module's constants -/
namespace DL
open PySem PySem.Spec PyProof.Rows L2
variable [CTab]
mutual
def repB (K : PySem.W.Frag) : D → Value → Bool
  | .int i, .int j _ => decide (j = i)
  | .str x, .str y _ => decide (y = x)
  | .bl b, .bool c => decide (c = b)
  | .non, .none => true
  | .tup l, .ref a => (match K.lookup a with
    | some o => decide (o.cls = .type "tuple") && (match o.data with
      | .seq its _ => decide (its.size ≤ sizeLine) && repBs K l its.toList
      | _ => false)
    | none => false)
  | .rol l, .ref a => (match K.lookup a with
    | some o => decide (o.cls = .type "list") && (o.dict.isNone && (match o.data with
      | .seq its _ => decide (its.size ≤ sizeLine) && repBs K l its.toList
      | _ => false))
    | none => false)
  | _, _ => false
def repBs (K : PySem.W.Frag) : List D → List Value → Bool
  | [], [] => true
  | d :: l, v :: r => repB K d v && repBs K l r
  | _, _ => false
end
mutual
theorem repB_ok {K : PySem.W.Frag} : ∀ (d : D) (v : Value), repB K d v = true → ∃ x : V, RelV x v ∧ ∀ H Z, Rep K H Z d x
  | .int i, v, h => by
    cases v <;> first | (simp [repB] at h; done) | skip
    rename_i j t
    simp only [repB, decide_eq_true_eq] at h
    exact ⟨.int i, ⟨t, by rw [h]⟩, fun _ _ => rfl⟩
  | .str i, v, h => by
    cases v <;> first | (simp [repB] at h; done) | skip
    rename_i j t
    simp only [repB, decide_eq_true_eq] at h
    exact ⟨.str i, ⟨t, by rw [h]⟩, fun _ _ => rfl⟩
  | .bl i, v, h => by
    cases v <;> first | (simp [repB] at h; done) | skip
    rename_i j
    simp only [repB, decide_eq_true_eq] at h
    exact ⟨.bl i, by rw [h]; rfl, fun _ _ => rfl⟩
  | .non, v, h => by
    cases v <;> first | (simp [repB] at h; done) | skip
    exact ⟨.non, rfl, fun _ _ => rfl⟩
  | .tup l, v, h => by
    cases v <;> first | (simp [repB] at h; done) | skip
    rename_i a
    simp only [repB] at h
    cases e : K.lookup a with
    | none => rw [e] at h; cases h
    | some o =>
      rw [e] at h
      simp only [Bool.and_eq_true, decide_eq_true_eq] at h
      obtain ⟨h1, h2⟩ := h
      split at h2
      · rename_i its n hd
        simp only [Bool.and_eq_true, decide_eq_true_eq] at h2
        obtain ⟨xs, r1, r2⟩ := repBs_ok l its.toList h2.2
        refine ⟨.ref a, rfl, fun H Z => ?_⟩
        simp only [Rep]
        exact ⟨a, xs, rfl, .inr ⟨o, its, n, e, h1, hd, h2.1, r1⟩, r2 H Z⟩
      · cases h2
  | .rol l, v, h => by
    cases v <;> first | (simp [repB] at h; done) | skip
    rename_i a
    simp only [repB] at h
    cases e : K.lookup a with
    | none => rw [e] at h; cases h
    | some o =>
      rw [e] at h
      simp only [Bool.and_eq_true, decide_eq_true_eq] at h
      obtain ⟨h1, h3, h2⟩ := h
      split at h2
      · rename_i its n hd
        simp only [Bool.and_eq_true, decide_eq_true_eq] at h2
        obtain ⟨xs, r1, r2⟩ := repBs_ok l its.toList h2.2
        refine ⟨.ref a, rfl, fun H Z => ?_⟩
        simp only [Rep]
        exact ⟨a, xs, rfl, .inr ⟨o, its, n, e, h1, by simpa using h3, hd, h2.1, r1⟩, r2 H Z⟩
      · cases h2
  | .lst l, v, h => by cases v <;> simp [repB] at h
  | .dct ks l, v, h => by cases v <;> simp [repB] at h
  | .ob c l, v, h => by cases v <;> simp [repB] at h
theorem repBs_ok {K : PySem.W.Frag} : ∀ (l : List D) (vs : List Value), repBs K l vs = true → ∃ xs : List V, Vals xs vs ∧ ∀ H Z, Reps K H Z l xs
  | [], [], _ => ⟨[], .nil, fun _ _ => Reps.nil⟩
  | [], _ :: _, h => by simp [repBs] at h
  | _ :: _, [], h => by simp [repBs] at h
  | d :: l, v :: vs, h => by
    simp only [repBs, Bool.and_eq_true] at h
    obtain ⟨x, h1, h2⟩ := repB_ok d v h.1
    obtain ⟨xs, h3, h4⟩ := repBs_ok l vs h.2
    exact ⟨x :: xs, .cons h1 h3, fun H Z => Reps.cons (h2 H Z) (h4 H Z)⟩
end
def constB (K : PySem.W.Frag) (x : Str) (d : D) : Bool := match PySem.W.nsIn K mainGlobals x with
  | some (some v) => repB K d v
  | _ => false
theorem const_ok {K : PySem.W.Frag} {h : Heap} {mg : Str → Option Value} (X : K.In h) (G : h.Ns mainGlobals mg) {x : Str} {d : D} (c : constB K x d = true) : ∃ p : V × Value, mg x = some p.2 ∧ RelV p.1 p.2 ∧ ∀ H Z, Rep K H Z d p.1 := by
  unfold constB at c
  split at c
  · rename_i v e
    obtain ⟨y, h1, h2⟩ := repB_ok d v c
    exact ⟨(y, v), PySem.W.mg_of X G e, h1, h2⟩
  · cases c
end DL
set_option Elab.async false
set_option linter.all false
set_option maxRecDepth 100000
set_option maxHeartbeats 4000000
/-! ### things of one's own are looked at: a scalar comes of it -/
namespace DL
open PySem PySem.Spec PyProof.Rows L2
variable [CTab]
def frzW : W → W
  | .val d => .val d
  | .own t => .val t.toD
  | .inn t => .val t.toD
def frzE (ρ : Env) : Env := ρ.map (Option.map frzW)
def mLook (m : M D) : M D := fun ρ => match m (frzE ρ) with
  | .ok d _ => if d.sc.isSome = true then .ok d ρ else .fail
  | _ => .fail
def mLookT (m : M Bool) : M Bool := fun ρ => match m (frzE ρ) with
  | .ok b _ => .ok b ρ
  | _ => .fail
/-- nothing may be changed -/
def czNo (H : Hp) : Cz := ⟨fun _ => none, H, fun _ => False, [], []⟩
section
variable {K : PySem.W.Frag} {c : Cz} {Z : Addr → Prop} {ρ : Env} {σ : St} {H H' : Hp}
theorem frzE_at {i : Nat} {d : D} (h : (frzE ρ)[i]? = some (some (.val d))) : ρ[i]? = some (some (.val d)) ∨ ∃ t w, ρ[i]? = some (some w) ∧ Hold w t ∧ d = t.toD := by
  unfold frzE at h
  rw [List.getElem?_map] at h
  cases e : ρ[i]? with
  | none => rw [e] at h; cases h
  | some o =>
    rw [e] at h
    cases o with
    | none => cases h
    | some w =>
      cases w with
      | val d' => cases h; exact .inl rfl
      | own t => cases h; exact .inr ⟨t, _, rfl, .own t, rfl⟩
      | inn t => cases h; exact .inr ⟨t, _, rfl, .inn t, rfl⟩
theorem frzE_no {i : Nat} {t : Ct} : ¬ (frzE ρ)[i]? = some (some (.own t)) ∧ ¬ (frzE ρ)[i]? = some (some (.inn t)) := by
  unfold frzE
  rw [List.getElem?_map]
  cases ρ[i]? with
  | none => exact ⟨fun h => (by cases h), fun h => (by cases h)⟩
  | some o =>
    cases o with
    | none => exact ⟨fun h => (by cases h), fun h => (by cases h)⟩
    | some w => cases w <;> exact ⟨fun h => (by cases h), fun h => (by cases h)⟩
theorem Rel.look (r : Rel K c Z ρ σ H) : Rel K (czNo H) (fun _ => False) (frzE ρ) σ H where
  frame := fun a o _ e => e
  keep := fun a e => e
  base := fun a z => z.elim
  len := by unfold frzE; rw [List.length_map]; exact r.len
  dom := fun a z => z.elim
  val := fun i d h => by
    rcases frzE_at h with h | ⟨t, w, h1, h2, rfl⟩
    · obtain ⟨v, h1, h2⟩ := r.val i d h
      exact ⟨v, h1, h2.zed fun _ _ _ _ z => z⟩
    · obtain ⟨p, g1, g2, o, g3, g4⟩ := r.hold h1 h2
      exact ⟨.ref p, g1, CtHO.toD (fun z => z) g3 (g4.zed fun _ _ _ _ z => z)⟩
  own := fun i t h => (frzE_no.1 h).elim
  inn := fun i t h => (frzE_no.2 h).elim
  inj := fun i j p ⟨t, h⟩ => (h.elim frzE_no.1 frzE_no.2).elim
  xs := fun q hq => by cases hq
  hd := fun q hq => by cases hq
theorem sc_repZ {d : D} {v : V} {Z' : Addr → Prop} (h : d.sc.isSome = true) (r : Rep K H Z d v) : Rep K H Z' d v := by
  cases d <;> first | exact r | (cases h; done)
end
section
variable {X : Cx} {E : XK} {e : Expr}
theorem look_ext {H H' : Hp} (h : Ext (fun _ => False) H H') : Same H H' := fun a o e => h a o (fun z => z) e
theorem d_look {m : M D} (h : PE X e (tD X.K E m)) : PE X e (tD X.K E (mLook m)) := by
  refine h.imp fun σ H Q h => ?_
  obtain ⟨c, Z, ρ, r, q⟩ := h
  refine ⟨_, _, _, r.look, ?_⟩
  have q : tR X.K E rD c Z σ H Q (match m (frzE ρ) with
    | .ok d _ => if d.sc.isSome = true then .ok d ρ else .fail
    | _ => .fail) := q
  cases em : m (frzE ρ) with
  | fail => rw [em] at q; exact q.elim
  | exc x l ρ' => rw [em] at q; exact q.elim
  | ok d ρ' =>
    rw [em] at q
    intro b H' r' ex hb
    simp only at q
    split at q
    · rename_i hs
      have s := look_ext ex
      exact q b H' (r.same s) (Ext.same s) (sc_repZ hs hb)
    · exact q.elim
theorem dt_look {m : M Bool} (h : PT X e (tT X.K E m)) : PT X e (tT X.K E (mLookT m)) := by
  refine h.imp fun σ H Q h => ?_
  obtain ⟨c, Z, ρ, r, q⟩ := h
  refine ⟨_, _, _, r.look, ?_⟩
  have q : tR X.K E rB c Z σ H Q (match m (frzE ρ) with
    | .ok b _ => .ok b ρ
    | _ => .fail) := q
  cases em : m (frzE ρ) with
  | fail => rw [em] at q; exact q.elim
  | exc x l ρ' => rw [em] at q; exact q.elim
  | ok d ρ' =>
    rw [em] at q
    intro b H' r' ex hb
    have s := look_ext ex
    exact q b H' (r.same s) (Ext.same s) hb
@[simp] theorem ev_mLook (m : M D) (ρ : Env) : mLook m ρ = (match m (frzE ρ) with
  | .ok d _ => if d.sc.isSome = true then .ok d ρ else .fail
  | _ => .fail) := rfl
@[simp] theorem ev_mLookT (m : M Bool) (ρ : Env) : mLookT m ρ = (match m (frzE ρ) with
  | .ok b _ => .ok b ρ
  | _ => .fail) := rfl
@[simp] theorem frzE_nil : frzE [] = [] := rfl
@[simp] theorem frzE_cons (o : Option W) (ρ : Env) : frzE (o :: ρ) = o.map frzW :: frzE ρ := rfl
@[simp] theorem frzW_val (d : D) : frzW (.val d) = .val d := rfl
@[simp] theorem frzW_own (t : Ct) : frzW (.own t) = .val t.toD := rfl
@[simp] theorem frzW_inn (t : Ct) : frzW (.inn t) = .val t.toD := rfl
end
end DL
set_option Elab.async false
set_option linter.all false
set_option maxRecDepth 100000
set_option maxHeartbeats 4000000
/-! ### or, and of any values -/
namespace DL
open PySem PySem.Spec PyProof.Rows L2
variable [CTab]
def mOrG (ma mb : M D) : M D := fun ρ => bindR (ma ρ) fun d ρ => match dTru d with
  | some true => .ok d ρ
  | some false => mb ρ
  | none => .fail
def mAndG (ma mb : M D) : M D := fun ρ => bindR (ma ρ) fun d ρ => match dTru d with
  | some true => mb ρ
  | some false => .ok d ρ
  | none => .fail
section
variable {X : Cx} {E : XK} {pos : Pos} {a b : Expr} {rest : List Expr} {ma mb : M D}
theorem d_orG (ha : PE X a (tD X.K E ma)) (hb : PE X (.BoolOp .Or (b :: rest) pos) (tD X.K E mb)) : PE X (.BoolOp .Or (a :: b :: rest) pos) (tD X.K E (mOrG ma mb)) := by
  refine (pe_orT ha hb).imp fun σ H Q h => ?_
  obtain ⟨c, Z, ρ, r, q⟩ := h
  refine ⟨c, Z, ρ, r, q.bind fun d ρ1 v H1 r1 e1 h1 q1 => ?_⟩
  split at q1
  · rename_i hk
    exact ⟨true, tru_ok' hk h1, by rw [if_pos rfl]; exact q1.done r1 h1⟩
  · rename_i hk
    exact ⟨false, tru_ok' hk h1, by rw [if_neg (by decide)]; exact ⟨c, Z, ρ1, r1, q1⟩⟩
  · exact q1.elim
theorem d_andG (ha : PE X a (tD X.K E ma)) (hb : PE X (.BoolOp .And (b :: rest) pos) (tD X.K E mb)) : PE X (.BoolOp .And (a :: b :: rest) pos) (tD X.K E (mAndG ma mb)) := by
  refine (pe_andT ha hb).imp fun σ H Q h => ?_
  obtain ⟨c, Z, ρ, r, q⟩ := h
  refine ⟨c, Z, ρ, r, q.bind fun d ρ1 v H1 r1 e1 h1 q1 => ?_⟩
  split at q1
  · rename_i hk
    exact ⟨true, tru_ok' hk h1, by rw [if_pos rfl]; exact ⟨c, Z, ρ1, r1, q1⟩⟩
  · rename_i hk
    exact ⟨false, tru_ok' hk h1, by rw [if_neg (by decide)]; exact q1.done r1 h1⟩
  · exact q1.elim
end
@[simp] theorem ev_mOrG (ma mb : M D) (ρ : Env) : mOrG ma mb ρ = (bindR (ma ρ) fun d ρ => match dTru d with
  | some true => .ok d ρ
  | some false => mb ρ
  | none => .fail) := rfl
@[simp] theorem ev_mAndG (ma mb : M D) (ρ : Env) : mAndG ma mb ρ = (bindR (ma ρ) fun d ρ => match dTru d with
  | some true => mb ρ
  | some false => .ok d ρ
  | none => .fail) := rfl
end DL
set_option Elab.async false
set_option linter.all false
set_option maxRecDepth 100000
set_option maxHeartbeats 4000000
/-! ### sorted(a tuple of texts) -/
namespace DL
open PySem PySem.Spec PyProof.Rows L2
def rSortedTu (K : PySem.W.Frag) : List V → Hp → VK → Prop := fun vs H Q => ∃ (a : Addr) (xs : List Str), vs = [V.ref a] ∧ SqT K H a (xs.map V.str) ∧ xs.length < 64 ∧ ∀ (ys : List Str) (p : Addr), ys.Perm xs → PyProof.Rows.sortedS ys = true → H p = none → Q (.ref p) (upd H p (.lst (ys.map V.str)))
theorem cr_sortedTu {X : Cx} : CallR X (.builtin "sorted") (rSortedTu X.K) := by
  intro pins s σ H vs us Q I r h
  obtain ⟨a, xs, rfl, hs, h64, q⟩ := h
  obtain ⟨its, rv, ⟨o, ho, hc, n, hd⟩, hz⟩ := I.tuple hs
  rw [Vals.ref1 r]
  have hS := rv.strs
  have hl : its.length = xs.length := by rw [← rv.length, List.length_map]
  refine Calls.call_function_entry PyProof.Rows.kind_sorted PyProof.Rows.plain_sorted PyProof.Rows.entry_sorted (PyProof.Rows.args_sorted1 _) ?_
  unfold Builtin.«sorted»
  refine wpAny_bind (m := checkCount "sorted" 1 1 _) (wpAny_pure ?_)
  have hsz : its.length ≤ sizeLine := by rw [hl]; exact Nat.le_trans (Nat.le_of_lt h64) (by decide)
  refine wpAny_bind (wpAny_collect_seq a (.inr rfl) ho hc hd (fun h' hk => ?_) (by simpa using hsz))
  rw [List.toList_toArray]
  have I1 : Inv X pins σ H { s with heap := h' } := I.kept (t' := s.toks) hk
  refine wpAny_bind (wpAny_newList ?_ hsz)
  have hL : (h'.push (seqObj "list" its.toArray 0)).get? h'.objs.size = some (seqObj "list" its.toArray 0) := Heap.get?_push_size _ rfl
  show wpAny _ _ _ _ _ { s with heap := h'.push (seqObj "list" its.toArray 0) }
  refine wpAny_bind (wpAny_holding (wpAny_call_entry PyProof.Rows.slot_list_sort ⟨_, hL, rfl⟩ PyProof.Rows.entry_list_sort
    (list_sort_treeK strKind_oneLt (s := { s with heap := h'.push (seqObj "list" its.toArray 0) }) hL hS.keysOf (fun v₁ v₂ rest e => keyKind_strs (by rw [← e]; exact hS)) (by rw [hl]; exact h64) fun st' hp hs' => ⟨_, rfl, ?_⟩)
    (PyProof.Rows.args_list_sort _)))
  obtain ⟨ys, g1, g2, g3⟩ := sorted_out_str hS hp hs'
  obtain ⟨e', he'⟩ := PyProof.Rows.sortedHeap_at (vs := its) (out := (arrOf st').map (·.2)) hL
  have hlen : (ys.map V.str).length ≤ sizeLine := by
    rw [List.length_map, g2.length_eq, ← hl]
    exact hsz
  refine wpAny_pure ⟨_, rfl, .ref h'.objs.size, upd H h'.objs.size (.lst (ys.map V.str)), I1.laid (t' := s.toks) (fun b u e => ?_) (Nat.le_refl _)
    (show ObjOk X.prog X.w _ _ _ (.lst (ys.map V.str)) from ⟨hlen, ((arrOf st').map (·.2)).toList, e', vals_of_strs g1, by rw [Array.toArray_toList]; exact he'⟩), rfl, q ys _ g2 g3 (I1.hok.fresh (Nat.le_refl _))⟩
  have hb : b < h'.objs.size := Heap.lt_size e
  rw [PyProof.Rows.sortedHeap_old (Nat.ne_of_lt hb) (by rw [size_push']; exact Nat.lt_succ_of_lt hb)]
  exact Heap.get?_push_of_some _ e
variable [CTab]
def fSortedX : List D → Option D
  | [.tup l] => (dStrs l).bind fun ss => if ss.length < 64 then some (.lst ((isort leS ss).map .str)) else none
  | l => fSorted l
theorem ca_sortedX {K : PySem.W.Frag} : CaD K (fun xs H Q => (rSortedI K xs H Q ∨ rSortedS K xs H Q) ∨ rSortedTu K xs H Q) fSortedX := by
  intro H Z l d xs Q hz r h k
  unfold fSortedX at h
  split at h
  · rename_i ds
    obtain ⟨v, rfl, h1⟩ := r.inv1
    cases e5 : dStrs ds with
    | none => rw [e5] at h; cases h
    | some ss =>
      rw [e5] at h
      simp only [Option.bind_some] at h
      split at h
      · rename_i h64
        cases h
        simp only [Rep] at h1
        obtain ⟨p, vs, rfl, h2, h3⟩ := h1
        cases dStrs_rep e5 h3
        refine .inr ⟨p, ss, rfl, h2.sq, h64, fun ys q hp hs hq => ?_⟩
        have e4 : ys = isort leS ss := List.Perm.eq_of_pairwise (le := fun a b => leS a b = true) (fun a b _ _ q1 q2 => leS_anti a b q1 q2) (sortedS_pw hs) (isort_pw leS_tr leS_tot ss) (hp.trans (isort_perm ss).symm)
        subst e4
        exact k _ _ (same_upd hq) (new_lst hz hq (reps_strs _))
      · cases h
  · exact .inl (ca_sorted H Z _ d xs Q hz r h k)
theorem call_sortedX {X : Cx} : CallR X (.builtin "sorted") (fun xs H Q => (rSortedI X.K xs H Q ∨ rSortedS X.K xs H Q) ∨ rSortedTu X.K xs H Q) := call_sortedA.or cr_sortedTu
end DL
set_option Elab.async false
set_option linter.all false
set_option maxRecDepth 100000
set_option maxHeartbeats 4000000
/-! ### list(d.values()) -/
namespace DL
open PySem PySem.Spec PyProof.Rows L2
def tLstVals (td : TE) : TE := fun σ H Q => td σ H fun x H1 => ∃ a kvs, x = V.ref a ∧ Rd H1 a (.dK kvs) ∧ kvs.length ≤ 4000 ∧ ∀ l, H1 l = none → Q (.ref l) (upd H1 l (.lst (kvs.map (·.2))))
theorem pe_lstVals {X : Cx} {o : Expr} {p pos apos mpos : Pos} {td : TE} (hc : X.calm = true) (hg : Gl X "list") (hm : X.mg "list" = none) (hd : PE X o td) (hbase : attributeBase o "values" X.env (eval o X.env) = eval o X.env) (hline : (apos.endLine == mpos.line) = true)
    (na : starEach [.Call (.Attribute o "values" apos) [] [] mpos] X.env = (false, eval (.Call (.Attribute o "values" apos) [] [] mpos) X.env) :: starEach [] X.env) :
    PE X (.Call (.Name "list" p) [.Call (.Attribute o "values" apos) [] [] mpos] [] pos) (tLstVals td) := by
  constructor
  intro pins s σ H Q I h
  refine Call_ (ld_blt I hg hm (u := .type "list") (by decide +kernel) ?_)
  refine PyProof.Rows.callWith_type1 (PyProof.Rows.args_cons ?_ na) na rfl
  refine wpAny_Call_method0_late hbase hline (thn (hd.run pins s σ H _ I h) fun v s1 ⟨x, H1, I1, r1, a, kvs, ex, ha, hz, q⟩ => ?_)
  subst ex
  obtain rfl : v = Value.ref a := r1
  obtain ⟨_, hsys, vs, rel, dof⟩ := dk_rd I1.hok ha
  obtain ⟨ep, dat⟩ := dof.dictAt
  have dat' := dat
  obtain ⟨ob, es, ho, ex, hdat, hko, hpr, hnd⟩ := dat'
  refine ⟨"dict", "dict.values", F.plainAttrs_dict, F.slot_dict_values, F.type_dict_values, ⟨ob, ho, ex.1⟩, fun b e => ?_, Calls.callWith_builtin rfl (PySem.evalArgs_none ?_)⟩
  · cases e
    exact ⟨ob, ho, ex.2.1⟩
  refine call_meetsIn F.slot_dict_values ⟨ob, ho, ex.1⟩ F.entry_dict_values (F.args_dict_values_1 _) (meets_dict_values (mixKind X.prog X.w) a hsys) ⟨⟨vs, dof⟩, ?_⟩
  have k1 : ∀ b u, s1.heap.get? b = some u → (s1.heap.push { cls := .type "dict_values", data := .fields #[.ref a] }).get? b = some u := fun b u e => Heap.get?_push_of_some _ e
  have dat1 : (s1.heap.push { cls := .type "dict_values", data := .fields #[.ref a] }).DictAt (mixKind X.prog X.w) a vs ep := dat.keep k1
  refine PyProof.Rows.args_nil ?_
  have hl : kvs.length = vs.length := Paired.length rel
  have I2 : Inv X pins σ H1 { s1 with heap := s1.heap.push { cls := .type "dict_values", data := .fields #[.ref a] } } := I1.kept (t' := s1.toks) k1
  have hz2 : vs.length ≤ sizeLine := by rw [← hl]; exact Nat.le_trans hz (by decide)
  refine PySem.W.kdl_call (s := { s1 with heap := s1.heap.push { cls := .type "dict_values", data := .fields #[.ref a] } }) (PySem.W.kdl_values (knd := mixKind X.prog X.w) (kvs := vs) (ep := ep) (d := a) (r := s1.heap.objs.size)) (I.ok.hd hc) ⟨⟨_, Heap.get?_push_size _ rfl, rfl, rfl⟩, dat1⟩ hz2 fun h' tk acc c' hk hS hacc => ?_
  refine ⟨.ref _, upd H1 _ (.lst (kvs.map (·.2))), I2.laid (t' := tk) hk (Nat.le_refl _) (show ObjOk X.prog X.w _ h' _ (.lst (kvs.map (·.2))) from ⟨by rw [List.length_map, hl]; exact hz2, acc.toList, c', ?_, by rw [Array.toArray_toList]; exact hS⟩), rfl, q _ (I2.hok.fresh (Nat.le_refl _))⟩
  have hal : acc.toList.length = acc.size := by simp
  refine vals_of_at (by rw [List.length_map, hal, hacc.1, hl]) fun j x w h1 h2 => ?_
  obtain ⟨k, hk2⟩ := hacc.2 j w (by rw [← Array.getElem?_toList]; exact h2)
  obtain ⟨y, g1, g2⟩ := KV.at' rel hk2
  rw [List.getElem?_map, g1] at h1
  cases h1
  exact g2
variable [CTab]
def dValsL : D → Option D
  | .dct ks l => if l.length ≤ 4000 then some (.lst l) else none
  | _ => none
theorem d_lstVals {X : Cx} {E : XK} {o : Expr} {m : M D} {p pos apos mpos : Pos} (hd : PE X o (tD X.K E m)) (hm : X.mg "list" = none) (hc : X.calm = true := by rfl) (hg : Gl X "list" := by rfl) (hbase : attributeBase o "values" X.env (eval o X.env) = eval o X.env := by rfl) (hline : (apos.endLine == mpos.line) = true := by rfl)
    (na : starEach [.Call (.Attribute o "values" apos) [] [] mpos] X.env = (false, eval (.Call (.Attribute o "values" apos) [] [] mpos) X.env) :: starEach [] X.env := by rfl) :
    PE X (.Call (.Name "list" p) [.Call (.Attribute o "values" apos) [] [] mpos] [] pos) (tD X.K E (m1 dValsL m)) := by
  refine (pe_lstVals hc hg hm hd hbase hline na).imp fun σ H Q h => ?_
  obtain ⟨c, Z, ρ, r, q⟩ := h
  refine ⟨c, Z, ρ, r, q.bind fun d ρ1 v H1 r1 e1 h1 q1 => ?_⟩
  obtain ⟨w, hw, k⟩ := q1.lift r1
  replace h1 : Rep X.K H1 Z d v := h1
  cases d <;> first | (cases hw; done) | skip
  rename_i ks l
  simp only [dValsL] at hw
  split at hw
  · rename_i hz
    cases hw
    simp only [Rep] at h1
    obtain ⟨a, vs, rfl, hza, hrd, hlen, hr⟩ := h1
    have hl2 := hr.len
    have e : (ks.zip vs).map (·.2) = vs := by
      rw [List.map_snd_zip]
      omega
    refine ⟨a, ks.zip vs, rfl, hrd, by rw [List.length_zip]; omega, fun q hq => ?_⟩
    rw [e]
    exact k _ _ (same_upd hq) (new_lst r1.dom hq hr)
  · cases hw
@[simp] theorem dValsL_dct (ks : List Key) (l : List D) : dValsL (.dct ks l) = if l.length ≤ 4000 then some (.lst l) else none := rfl
end DL
set_option Elab.async false
set_option linter.all false
set_option maxRecDepth 100000
set_option maxHeartbeats 4000000
/-! ### tuple(range(..)) -/
namespace DL
open PySem PySem.Spec PyProof.Rows L2
variable [CTab] {X : Cx} {E : XK} {pos p p2 pos2 : Pos} {e e2 : Expr} {m m' : M D}
def mTupRng1 (m : M D) : M D := fun ρ => bindR (m ρ) fun d ρ => match d with
  | .int j => if lim4 j = true then .ok (.tup (rngD 0 j.toNat)) ρ else .fail
  | _ => .fail
def mTupRng2 (m m' : M D) : M D := fun ρ => bindR (m ρ) fun d ρ => bindR (m' ρ) fun d' ρ => match d, d' with
  | .int i, .int j => if (lim4 i && lim4 j) = true then .ok (.tup (rngD i (j - i).toNat)) ρ else .fail
  | _, _ => .fail
theorem d_tupRng1 (he : PE X e (tD X.K E m)) (hm : X.mg "tuple" = none) (hm2 : X.mg "range" = none) (hc : X.calm = true := by rfl) (hg : Gl X "tuple" := by rfl) (hg2 : Gl X "range" := by rfl) (h1 : starEach [e] X.env = (false, eval e X.env) :: starEach [] X.env := by rfl)
    (h3 : starEach [.Call (.Name "range" p2) [e] [] pos2] X.env = (false, eval (.Call (.Name "range" p2) [e] [] pos2) X.env) :: starEach [] X.env := by rfl) :
    PE X (.Call (.Name "tuple" p) [.Call (.Name "range" p2) [e] [] pos2] [] pos) (tD X.K E (mTupRng1 m)) := by
  refine (pe_tupRg hc hg hm (prg_1 hg2 hm2 he h1) h3).imp fun σ H Q h => ?_
  obtain ⟨c, Z, ρ, r, q⟩ := h
  refine ⟨c, Z, ρ, r, q.bind fun d ρ1 v H1 r1 e1 hd q1 => ?_⟩
  cases d <;> first | (exact q1.elim; done) | skip
  rename_i j
  cases (show v = _ from hd)
  by_cases hl : lim4 j = true
  · have q1 : tR X.K E rD c Z σ H1 Q (if lim4 j = true then .ok (.tup (rngD 0 j.toNat)) ρ1 else .fail) := q1
    rw [if_pos hl] at q1
    obtain ⟨l1, l2⟩ := of_decide_eq_true hl
    refine ⟨j, rfl, ⟨by omega, by omega, by omega, by omega, by omega⟩, fun q hq => ?_⟩
    have := q1.new r1 (same_upd hq) (new_tup r1.dom hq (reps_rng j.toNat 0))
    have e : rgV 0 j = rngV 0 j.toNat := by unfold rgV rngV; rw [Int.sub_zero]
    rw [e]
    exact this
  · have q1 : tR X.K E rD c Z σ H1 Q (if lim4 j = true then .ok (.tup (rngD 0 j.toNat)) ρ1 else .fail) := q1
    rw [if_neg hl] at q1
    exact q1.elim
theorem d_tupRng2 (he : PE X e (tD X.K E m)) (he2 : PE X e2 (tD X.K E m')) (hm : X.mg "tuple" = none) (hm2 : X.mg "range" = none) (hc : X.calm = true := by rfl) (hg : Gl X "tuple" := by rfl) (hg2 : Gl X "range" := by rfl) (h1 : starEach [e, e2] X.env = (false, eval e X.env) :: starEach [e2] X.env := by rfl) (h1' : starEach [e2] X.env = (false, eval e2 X.env) :: starEach [] X.env := by rfl)
    (h2 : (backTo pos2 (starEach [e2] X.env)).any (·.1) = false := by rfl) (h3 : starEach [.Call (.Name "range" p2) [e, e2] [] pos2] X.env = (false, eval (.Call (.Name "range" p2) [e, e2] [] pos2) X.env) :: starEach [] X.env := by rfl) :
    PE X (.Call (.Name "tuple" p) [.Call (.Name "range" p2) [e, e2] [] pos2] [] pos) (tD X.K E (mTupRng2 m m')) := by
  refine (pe_tupRg hc hg hm (prg_2 hg2 hm2 he he2 h1 h1' h2) h3).imp fun σ H Q h => ?_
  obtain ⟨c, Z, ρ, r, q⟩ := h
  refine ⟨c, Z, ρ, r, q.bind fun d ρ1 v H1 r1 e1 hd q1 => ⟨c, Z, ρ1, r1, q1.bind fun d2 ρ2 v2 H2 r2 e2 hd2 q2 => ?_⟩⟩
  replace hd := Rep.ext e2 _ _ hd
  cases d <;> first | (exact q2.elim; done) | skip
  rename_i i
  cases d2 <;> first | (exact q2.elim; done) | skip
  rename_i j
  cases (show v = _ from hd)
  cases (show v2 = _ from hd2)
  by_cases hl : (lim4 i && lim4 j) = true
  · have q2 : tR X.K E rD c Z σ H2 Q (if (lim4 i && lim4 j) = true then .ok (.tup (rngD i (j - i).toNat)) ρ2 else .fail) := q2
    rw [if_pos hl] at q2
    obtain ⟨g1, g2⟩ := Bool.and_eq_true_iff.mp hl
    obtain ⟨l1, l2⟩ := of_decide_eq_true g1
    obtain ⟨l3, l4⟩ := of_decide_eq_true g2
    exact ⟨i, j, rfl, rfl, ⟨by omega, by omega, by omega, by omega, by omega⟩, fun q hq => q2.new r2 (same_upd hq) (new_tup r2.dom hq (reps_rng (j - i).toNat i))⟩
  · have q2 : tR X.K E rD c Z σ H2 Q (if (lim4 i && lim4 j) = true then .ok (.tup (rngD i (j - i).toNat)) ρ2 else .fail) := q2
    rw [if_neg hl] at q2
    exact q2.elim
@[simp] theorem ev_mTupRng1 (m : M D) (ρ : Env) : mTupRng1 m ρ = bindR (m ρ) fun d ρ => match d with
  | .int j => if lim4 j = true then .ok (.tup (rngD 0 j.toNat)) ρ else .fail
  | _ => .fail := rfl
@[simp] theorem ev_mTupRng2 (m m' : M D) (ρ : Env) : mTupRng2 m m' ρ = bindR (m ρ) fun d ρ => bindR (m' ρ) fun d' ρ => match d, d' with
  | .int i, .int j => if (lim4 i && lim4 j) = true then .ok (.tup (rngD i (j - i).toNat)) ρ else .fail
  | _, _ => .fail := rfl
end DL
set_option Elab.async false
set_option linter.all false
set_option maxRecDepth 100000
set_option maxHeartbeats 4000000
/-! ### x *= e of numbers -/
namespace DL
open PySem PySem.Spec PyProof.Rows L2
variable [CTab] {X : Cx} {E : XK} {pos pos' : Pos} {e : Expr} {m : M D}
def ipC (C : Int → Int → Prop) (f : Int → Int → Int) : TIp := fun x y H Q => ∃ i j, x = .int i ∧ y = .int j ∧ C i j ∧ Q (.int (f i j)) H
theorem ip_mulC : PIp X .Mult (ipC CMul fun i j => i * j) := by
  intro pins s σ H x y v u Q I r1 r2 h
  obtain ⟨i, j, e1, e2, hc, q⟩ := h
  subst e1; subst e2
  obtain ⟨t, rfl⟩ := r1
  obtain ⟨t', rfl⟩ := r2
  exact imul_int ⟨.int _, H, I.tok _, ⟨_, rfl⟩, q⟩ hc.ok
theorem s_augM (i : Nat) {x : Str} (hN : X.N.Nodup) (he : PE X e (tD X.K E m)) (hi : X.N[i]? = some x := by rfl) (hx : Loc X.env.scope x := by first | exact Or.inl rfl | exact Or.inr rfl) (hf : X.fn x = true ∨ X.env.scope.names.lookup x = some .local := by first | exact .inl rfl | exact .inr rfl) :
    PS X (.AugAssign (.Name x pos') .Mult e pos) (tS X.K E (mAug i dMul m)) := by
  refine (ps_aug hN hi hx he ip_mulC hf).imp fun Dn σ H h => ?_
  obtain ⟨c, ρ, ⟨Z, r⟩, q⟩ := h
  unfold mAug at q
  split at q
  · rename_i dx hx'
    obtain ⟨v, h1, h2⟩ := r.val i dx hx'
    refine ⟨v, h1, c, Z, ρ, r, tSR.expr q fun b ρ1 y H1 r1 hb q3 => ?_⟩
    cases ef : dMul dx b with
    | none => rw [ef] at q3; exact q3.elim
    | some d =>
      rw [ef] at q3
      unfold dMul at ef
      split at ef
      · split at ef
        · rename_i j k hl
          cases ef
          cases (show v = _ from h2)
          cases (show y = _ from hb)
          refine ⟨j, k, rfl, rfl, ?_, q3 _ _ ⟨Z, r1.set (d := .int (j * k)) rfl⟩⟩
          rcases Bool.or_eq_true_iff.mp hl with q | q
          · exact .inl (of_decide_eq_true q)
          · exact .inr (of_decide_eq_true q)
        · cases ef
      · cases ef
  · exact q.elim
end DL
set_option Elab.async false
set_option linter.all false
set_option maxRecDepth 100000
set_option maxHeartbeats 4000000
/-! ### x.f, x an object of one's own (or handed in to be changed) -/
namespace DL
open PySem PySem.Spec PyProof.Rows L2
variable [CTab] {X : Cx} {E : XK} {pos : Pos}
def mOwnFld (i : Nat) (fs : List (Nat × Nat)) : M D := fun ρ => match holds ρ i with
  | some (.ob c l) => liftO ((fs.lookup c).bind fun k => l[k]?) ρ
  | _ => .fail
theorem d_ownFld {n : Nat} {f x : Str} {xp : Pos} (cf : CFacts X.K n) (i : Nat) (fs : List (Nat × Nat)) (hN : X.N[i]? = some x := by rfl) (hv : Vis X.env.scope x := by first | exact Or.inl rfl | exact Or.inr (Or.inl rfl) | exact Or.inr (Or.inr rfl)) (hd : (x == ("__debug__" : Str)) = false := by decide)
    (hcd : (x == ("__classdict__" : Str)) = false := by decide) (hf : (fs.all fun q => decide (q.1 < n) && decide ((cF q.1)[q.2]? = some f)) = true := by decide +kernel)
    (hb : attributeBase (.Name x xp) f X.env (eval (.Name x xp) X.env) = eval (.Name x xp) X.env := by rfl) : PE X (.Attribute (.Name x xp) f pos) (tD X.K E (mOwnFld i fs)) := by
  refine (pe_fld (pe_var hN hv hd hcd) hb).imp fun σ H Q h => ?_
  obtain ⟨c, Z, ρ, r, q⟩ := h
  unfold mOwnFld at q
  split at q
  · rename_i c' l ht
    obtain ⟨p, w, _, _, h1, _, o, h2, h3⟩ := holds_rel r ht
    cases hl : fs.lookup c' with
    | none => rw [hl] at q; exact q.elim
    | some k =>
      rw [hl] at q
      cases hw : l[k]? with
      | none => rw [show (some k).bind (fun k => l[k]?) = l[k]? from rfl, hw] at q; exact q.elim
      | some d =>
        rw [show (some k).bind (fun k => l[k]?) = l[k]? from rfl, hw] at q
        obtain ⟨g1, g2⟩ := Bool.and_eq_true_iff.mp (List.all_eq_true.mp hf _ (lookup_mem hl))
        have g1 := of_decide_eq_true g1
        have g2 := of_decide_eq_true g2
        obtain ⟨dx, vs, rfl, _, h4⟩ := h3
        obtain ⟨u, hu, ru⟩ := h4.get hw
        exact ⟨_, h1, p, _, dx, _, u, rfl, h2, (cf.cls c' g1).cl, cf.noat c' f g1 (List.mem_of_getElem? g2), lookup_zip (cf.nd c' g1) g2 hu, q.done r ru⟩
  · exact q.elim
@[simp] theorem ev_mOwnFld (i : Nat) (fs : List (Nat × Nat)) (ρ : Env) : mOwnFld i fs ρ = (match holds ρ i with
  | some (.ob c l) => liftO ((fs.lookup c).bind fun k => l[k]?) ρ
  | _ => .fail) := rfl
end DL
set_option Elab.async false
set_option linter.all false
set_option maxRecDepth 100000
set_option maxHeartbeats 4000000
/-! ### a, b, c = x, y, z -/
namespace DL
open PySem PySem.Spec PyProof.Rows L2
variable [CTab] {X : Cx} {E : XK} {pos : Pos}
def mPar3 (i j k : Nat) (ms : M (List D)) : M Fl := fun ρ => bindR (ms ρ) fun l ρ => match l with
  | [a, b, c] => .ok .nx (((ρ.set i (some (.val a))).set j (some (.val b))).set k (some (.val c)))
  | _ => .fail
theorem Reps.inv3 {K : PySem.W.Frag} {H : Hp} {Z : Addr → Prop} {a b c : D} {vs : List V} (h : Reps K H Z [a, b, c] vs) : ∃ u v w, vs = [u, v, w] ∧ Rep K H Z a u ∧ Rep K H Z b v ∧ Rep K H Z c w := by
  simp only [Reps] at h
  obtain ⟨u, _, rfl, h1, v, _, rfl, h2, w, _, rfl, h3, rfl⟩ := h
  exact ⟨u, v, w, rfl, h1, h2, h3⟩
theorem s_par3 (i j l : Nat) {x y z : Str} {a b c : Expr} {ms : M (List D)} {px py pz pt : Pos} {kt k2 pt2} (hc : X.calm = true) (hN : X.N.Nodup) (ha : PA X [a, b, c] (tAr X.K E ms)) (hi : X.N[i]? = some x := by rfl) (hj : X.N[j]? = some y := by rfl) (hl : X.N[l]? = some z := by rfl) (hij : i ≠ j := by decide) (hil : i ≠ l := by decide) (hjl : j ≠ l := by decide)
    (hx : X.env.scope.names.lookup x = some .local := by rfl) (hy : X.env.scope.names.lookup y = some .local := by rfl) (hz : X.env.scope.names.lookup z = some .local := by rfl)
    (hw : swappedStores [.Tuple [.Name x px, .Name y py, .Name z pz] kt pt] (.Tuple [a, b, c] k2 pt2) X.env = pure (some [x, y, z]) := by rfl)
    (hs : swapsWithSole [.Tuple [.Name x px, .Name y py, .Name z pz] kt pt] (.Tuple [a, b, c] k2 pt2) pos.line X.env = pure false := by rfl) :
    PS X (.Assign [.Tuple [.Name x px, .Name y py, .Name z pz] kt pt] (.Tuple [a, b, c] k2 pt2) pos) (tS X.K E (mPar3 i j l ms)) := by
  refine (ps_par3 hc hN hi hj hl hij hil hjl hx hy hz ha hw hs).imp fun Dn σ H h => ?_
  obtain ⟨c, ρ, ⟨Z, r⟩, q⟩ := h
  refine ⟨c, Z, ρ, r, tSR.expr q fun l ρ1 vs H1 r1 hl q1 => ?_⟩
  have hl : Reps X.K H1 Z l vs := hl
  split at q1
  · obtain ⟨v, u, w, rfl, h1, h2, h3⟩ := hl.inv3
    exact ⟨v, u, w, rfl, q1 _ _ ⟨Z, ((r1.set h1).set h2).set h3⟩⟩
  · exact q1.elim
@[simp] theorem ev_mPar3 (i j k : Nat) (ms : M (List D)) (ρ : Env) : mPar3 i j k ms ρ = (bindR (ms ρ) fun l ρ => match l with
  | [a, b, c] => .ok .nx (((ρ.set i (some (.val a))).set j (some (.val b))).set k (some (.val c)))
  | _ => .fail) := rfl
end DL
set_option Elab.async false
set_option linter.all false
set_option maxRecDepth 100000
set_option maxHeartbeats 4000000
/-! ### enumerate of a tuple -/
namespace DL
open PySem PySem.Spec PyProof.Rows L2
theorem meets_enum1 {v : Value} {o : Obj} {H : Heap → Prop} (B : Begins v o H) :
    Meets (Builtin.«enumerate.__new__» ⟨[.type "enumerate", v], []⟩) (fun _ R s => H s.heap ∧
      R (.ok (.ret (.ref (s.heap.push o).objs.size))) { s with heap := (s.heap.push o).push { cls := .type "enumerate", data := .fields #[.none, .bool false, .ref s.heap.objs.size, rawInt 0, .none, .none] } }) :=
  .of_wp fun prog w A R s h => by
    obtain ⟨hp, g, d, tk, os⟩ := s; obtain ⟨h1, h⟩ := h
    have hsub := sub_enumerate
    have q1 : ∀ {A' : Around} {E : Value → Shared → Prop} {Q : Value → Shared → Prop}, Q (.ref hp.objs.size) ⟨hp.push o, g, d, tk, os⟩ → wpAny (model prog w) A' (pyIter v) Q E ⟨hp, g, d, tk, os⟩ :=
      fun q => B.iter prog w _ _ ⟨hp, g, d, tk, os⟩ _ h1 q
    wp_walk using q1
    refine wpAny_stack_any fun st => wpAny_pure ?_
    split
    · rename_i c _ _ _ _ _
      cases (c == Value.type "enumerate")
      · wp_walk using q1
        exact ⟨_, rfl, h⟩
      · wp_walk using q1
        exact ⟨_, rfl, h⟩
    · wp_walk using q1
      exact ⟨_, rfl, h⟩
section
variable {prog : Program} {w : World} {A : Around} {E : Value → Shared → Prop} {s : Shared}
theorem enum1_begins {v : Value} {o : Obj} {H : Heap → Prop} {Q : Value → Shared → Prop} (B : Begins v o H) (h1 : H s.heap)
    (h : ∀ h', IsEnum h' (s.heap.objs.size + 1) s.heap.objs.size 0 .none → h'.get? s.heap.objs.size = some o → h'.objs.size = s.heap.objs.size + 2 →
      (∀ b o, s.heap.get? b = some o → h'.get? b = some o) → Q (.ref (s.heap.objs.size + 1)) { s with heap := h' }) :
    wpAny (model prog w) A (call (.type "enumerate") [v]) Q E s := by
  refine callType_new F.called_enumerate (by decide) (F.typeCall_enumerate_1 _) (F.newCall_enumerate_1 _) (fun obj => F.args_object_init_2 obj _) F.entry_enumerate_new
    (meets_enum1 B) ⟨h1, ?_⟩
  have hz : (s.heap.push o).objs.size = s.heap.objs.size + 1 := Heap.size_push ..
  show _ ∧ _
  rw [hz]
  have he : IsEnum ((s.heap.push o).push { cls := .type "enumerate", data := .fields #[.none, .bool false, .ref s.heap.objs.size, rawInt 0, .none, .none] }) (s.heap.objs.size + 1) s.heap.objs.size 0 .none := by
    have := Heap.get?_push_size (s.heap.push o) (o := { cls := .type "enumerate", data := .fields #[.none, .bool false, .ref s.heap.objs.size, rawInt 0, .none, .none] }) rfl
    rw [hz] at this; exact this
  refine ⟨⟨_, he, rfl⟩, h _ he (Heap.get?_push_of_some _ (Heap.get?_push_size _ B.free)) (by rw [Heap.size_push, hz]) fun b o x => Heap.get?_push_of_some _ (Heap.get?_push_of_some _ x)⟩
theorem enumT_end {e it l : Addr} {i : Nat} {items : Array Value} {old : Value} {c : Int} {Q : Option Value → Shared → Prop} (hh : A.handled = none)
    (he : IsEnum s.heap e it c old) (hit : s.heap.IsTupleIter it l i) (hl : s.heap.IsTuple l items) (hx : items[i]? = none)
    (hQ : ∀ h', Heap.ExtBut it s.heap h' → Q none { s with heap := h' }) : wpAny (model prog w) A (pyNext (.ref e)) Q E s := by
  have hT : s.TypeIs (.ref e) "enumerate" := ⟨_, he, rfl⟩
  unfold pyNext
  refine wpAny_bind (wpAny_attempt (wpAny_callSpecial?_slot (name := Str.ofString "__next__") hT F.slot_enumerate_next
    (wpAny_call_entry F.slot_enumerate_next hT F.entry_enumerate_next ?_ (F.args_enumerate_next_1 _))))
  show wpAny _ _ (field (.ref e) 2 >>= _) _ _ _
  refine wpAny_bind (wpAny_field he rfl (x := .ref it) rfl ?_)
  refine wpAny_bind (wpAny_nextOf_tuple_end hh hit hl hx fun h' x he' hx' => ?_)
  obtain ⟨o, ho, hc⟩ := hx'
  refine wpAny_bind (wpAny_isInstance (T := "StopIteration") (b := true) ⟨o, ho, hc⟩ isSubtype_stop ?_)
  exact wpAny_pure (hQ _ he')
end
/-- the tuple at a, each item in a new pair -/
def IteT (K : PySem.W.Frag) (a : Addr) : It :=
  ⟨fun i H => ∃ (xs : List V) (x : V), SqT K H a xs ∧ xs[i]? = some x, fun i H v H' => ∃ T x, v = .ref T ∧ H T = none ∧ H' = upd H T (.tup [.int (i : Nat), x]) ∧ ∀ xs, SqT K H a xs → xs[i]? = some x, fun i H => ∃ xs : List V, SqT K H a xs ∧ xs.length ≤ i⟩
theorem turn_enumT {P : Program} {w : World} {K : PySem.W.Frag} {elts : List Expr} {kk : Nat} {tpos : Pos} (a e it : Addr) :
    Turn P w K (.Tuple elts kk tpos) (IteT K a) [e, it] e (fun i h => (∃ old, IsEnum h e it ((i : Nat) : Int) old) ∧ h.IsTupleIter it a i ∧ e ≠ it ∧ a ≠ it ∧ a ≠ e) where
  mem := by simp
  obj := fun i h st b hb => by
    obtain ⟨⟨old, he⟩, ⟨o, ho, hc, hd⟩, _⟩ := st
    have e' : b = e ∨ b = it := by simpa using hb
    rcases e' with z | z
    · rw [z]; exact ⟨_, he, fun v q => nomatch q⟩
    · rw [z]; exact ⟨o, ho, fun v q => by rw [hd] at q; cases q⟩
  keep := fun i h h' st k => let ⟨⟨old, he⟩, hi, hne⟩ := st; ⟨⟨old, k e (by simp) _ he⟩, hi.at fun o q => k it (by simp) o q, hne⟩
  item := by
    intro X hP hw hK hc i pins s σ H E I hf st hg
    subst hP hw hK
    obtain ⟨⟨old, he⟩, hit, hne, hai, hae⟩ := st
    obtain ⟨xs, x, hq, hx⟩ := hg
    obtain ⟨its, rv, p, hz⟩ := I.tuple hq
    have p : s.heap.IsTuple a its.toArray := p
    obtain ⟨u, hu, ru⟩ := rv.get hx
    have hel : e < s.heap.objs.size := Heap.lt_size he
    have hil : it < s.heap.objs.size := by obtain ⟨_, q, _⟩ := hit; exact Heap.lt_size q
    have hlt : i < its.toArray.size := by
      have := (List.getElem?_eq_some_iff.mp hu).1
      simpa using this
    refine wpAny_pyNext_enum_itemD (Draws.tuple (A := Around.in1 _) (I.ok.hd hc) it a hai its.toArray) he ⟨hit, p⟩ hlt hne (by simp [hne, Ne.symm hae]) fun u' h' tk hu' ho hst' hT hsz hk => ?_
    have eu : u' = u := by
      have h9 : its.toArray[i]? = some u' := hu'
      rw [List.getElem?_toArray, hu] at h9
      exact (Option.some.inj h9).symm
    subst eu
    refine ⟨_, rfl, wpAny_letOwnedTupleGo_enum (s := { s with heap := h', toks := tk + 1 }) ho fun h'' he' sb => ?_⟩
    have hT2 : h''.get? s.heap.objs.size = some { cls := .type "tuple", data := .seq #[.int i tk, u'] } := (sb.2 _ (Nat.ne_of_gt hel)).trans hT
    have new : ObjOk X.prog X.w (upd H s.heap.objs.size (.tup [.int (i : Nat), x])) h'' s.heap.objs.size (.tup [.int (i : Nat), x]) :=
      ⟨by show 2 ≤ sizeLine; decide, [.int i tk, u'], .cons ⟨_, rfl⟩ (.cons ru .nil), ⟨_, hT2, rfl, _, rfl⟩⟩
    have I1 : Inv X pins σ (upd H s.heap.objs.size (.tup [.int (i : Nat), x])) { s with heap := h'', toks := tk + 1 } :=
      I.turnedNew (ch := [e, it]) (fun b ob hb q => (sb.2 b (fun z => hb (by simp [z]))).trans (hk b ob (fun z => hb (by simp [z])) (fun z => hb (by simp [z])) q)) hf (Nat.le_refl _) new
    refine ⟨.ref s.heap.objs.size, _, I1, rfl, ⟨_, x, rfl, I.hok.fresh (Nat.le_refl _), rfl, fun ys hy => by rw [I.tuple_inj hy hq]; exact hx⟩, ⟨⟨u', ?_⟩, hst'.1.at fun o q => (sb.2 it (Ne.symm hne)).trans q, hne, hai, hae⟩, fun b hb => ?_⟩
    · have e1 : ((i + 1 : Nat) : Int) = (i : Int) + 1 := by omega
      rw [e1]; exact he'
    · have hb' : b < s.heap.objs.size := by
        have e' : b = e ∨ b = it := by simpa using hb
        rcases e' with z | z
        · rw [z]; exact hel
        · rw [z]; exact hil
      rw [upd_ne (Nat.ne_of_lt hb')]
      exact (hf b hb).1
  done := by
    intro X hP hw hK hc i pins s σ H E I hf st hg
    subst hP hw hK
    obtain ⟨⟨old, he⟩, hit, hne, hai, hae⟩ := st
    obtain ⟨xs, hq, hx⟩ := hg
    obtain ⟨its, rv, p, hz⟩ := I.tuple hq
    have p : s.heap.IsTuple a its.toArray := p
    obtain ⟨f0, f1, f2, f3, f4, f5⟩ := hf it (by simp)
    have hl := rv.length
    exact enumT_end (I.ok.hd hc) he hit p (by simp; omega) fun h' eb => ⟨rfl, I.turned (t' := s.toks) (fun b o hb q => eb b o hb q) f0 f1 f3 f4 f5⟩
  self := fun A i s Q E st h => let ⟨⟨_, he⟩, _⟩ := st; wpAny_pyIter_enum he h
def iEnumT (K : PySem.W.Frag) (ta : TA) : TI := fun σ H R => ta σ H fun vs H1 => ∃ a xs, vs = [.ref a] ∧ SqT K H1 a xs ∧ R (IteT K a) H1
theorem pi_enumT {X : Cx} {e : Expr} {ta : TA} {p pos tpos : Pos} {elts : List Expr} {kk : Nat} (hg : Gl X "enumerate") (hm : X.mg "enumerate" = none) (ha : PA X [e] ta) (hs : starEach [e] X.env = [(false, eval e X.env)] := by rfl) :
    PI X (.Tuple elts kk tpos) (.Call (.Name "enumerate" p) [e] [] pos) (iEnumT X.K ta) := by
  refine ⟨fun pins s σ H R I h => ?_⟩
  refine Call_ (ld_blt I hg hm boot_enumerate (PyProof.Rows.callWith_type1 (thn (ha.run pos pins s σ H _ I h) fun us s1 ⟨vs, H1, I1, r1, q1⟩ => ?_) hs rfl))
  obtain ⟨a, xs, ex, hq, q⟩ := q1
  subst ex
  cases r1 with
  | cons r rr =>
    cases rr
    cases r
    obtain ⟨its, rv, p', hz⟩ := I1.tuple hq
    have p' : s1.heap.IsTuple a its.toArray := p'
    have ha : a < s1.heap.objs.size := by obtain ⟨o, ho, _⟩ := p'; exact Heap.lt_size ho
    refine enum1_begins (begins_tuple a its.toArray) p' fun h' he hit hsz hk => wpAny_pyIter_enum he ?_
    have I2 : Inv X pins σ H1 { s1 with heap := h' } := I1.kept (t' := s1.toks) hk
    refine ⟨s1.heap.objs.size + 1, [s1.heap.objs.size + 1, s1.heap.objs.size], _, _, H1, rfl, I2, turn_enumT a (s1.heap.objs.size + 1) s1.heap.objs.size, ⟨⟨.none, he⟩, ⟨_, hit, rfl, rfl⟩, Nat.succ_ne_self _, Nat.ne_of_lt ha, Nat.ne_of_lt (Nat.lt_succ_of_lt ha)⟩, fun b hb => ?_, q⟩
    have e' : b = s1.heap.objs.size + 1 ∨ b = s1.heap.objs.size := by simpa using hb
    have hle : s1.heap.objs.size ≤ b := by
      rcases e' with z | z
      · rw [z]; exact Nat.le_add_right _ _
      · rw [z]; exact Nat.le_refl _
    exact I1.fpOk hle (I1.hok.fresh hle)
section
variable [CTab] {X : Cx} {E : XK} {pos p tpos : Pos} {e : Expr} {m : M D} {K : PySem.W.Frag}
theorem tup_repT {l : List D} {v : V} {H : Hp} {Z : Addr → Prop} (r : Rep K H Z (.tup l) v) : ∃ p vs, v = .ref p ∧ SqT K H p vs ∧ Reps K H Z l vs := by
  simp only [Rep] at r
  obtain ⟨p, vs, e, h1, h2⟩ := r
  exact ⟨p, vs, e, h1.sq, h2⟩
theorem wk_enumT {a : Addr} {l : List D} : WkD K (IteT K a) (enumD 0 l) [(.tup l, .ref a)] := by
  have at_ : ∀ (H : Hp) (Z : Addr → Prop), (∀ q ∈ [(D.tup l, V.ref a)], Rep K H Z q.1 q.2) → ∃ vs, SqT K H a vs ∧ Reps K H Z l vs := fun H Z h => by
    obtain ⟨p, vs, e, h1, h2⟩ := tup_repT (h _ (List.mem_singleton.mpr rfl))
    cases e
    exact ⟨vs, h1, h2⟩
  refine ⟨fun H Z hz h i x hx => ?_, fun H Z h => ?_⟩
  · obtain ⟨vs, h1, h2⟩ := at_ H Z h
    obtain ⟨y, hy, rfl⟩ := enumD_get hx
    obtain ⟨v, hv, rv⟩ := h2.get hy
    refine ⟨⟨vs, v, h1, hv⟩, fun u H' hu => ?_⟩
    obtain ⟨T, x', rfl, hT, rfl, hx'⟩ := hu
    have e := hx' vs h1
    rw [hv] at e
    cases e
    exact ⟨same_upd hT, new_tup hz hT (Reps.cons (by show V.int _ = V.int _; rw [Nat.zero_add]) (Reps.one rv))⟩
  · obtain ⟨vs, h1, h2⟩ := at_ H Z h
    exact ⟨vs, h1, by rw [enumD_len, h2.len]; exact Nat.le_refl _⟩
/-- enumerate of a list or a tuple -/
def mEnumX (m : M D) : M (List D) := fun ρ => bindR (m ρ) fun d ρ => match d.seq with
  | some l => .ok (enumD 0 l) ρ
  | none => .fail
@[simp] theorem ev_mEnumX (m : M D) (ρ : Env) : mEnumX m ρ = (bindR (m ρ) fun d ρ => match d.seq with
  | some l => .ok (enumD 0 l) ρ
  | none => .fail) := rfl
def mEnumT (m : M D) : M (List D) := fun ρ => bindR (m ρ) fun d ρ => match d with
  | .tup l => .ok (enumD 0 l) ρ
  | _ => .fail
theorem i_enumT {elts : List Expr} {kk : Nat} (he : PE X e (tD X.K E m)) (hm : X.mg "enumerate" = none) (hg : Gl X "enumerate" := by rfl) (hs : starEach [e] X.env = [(false, eval e X.env)] := by rfl) (hs' : starEach [e] X.env = (false, eval e X.env) :: starEach [] X.env := by rfl) : PI X (.Tuple elts kk tpos) (.Call (.Name "enumerate" p) [e] [] pos) (iD X.K E (mEnumT m)) := by
  refine (pi_enumT hg hm (pa_cons he pa_nil hs') hs).imp fun σ H R ⟨c, Z, ρ, r, q⟩ => ⟨c, Z, ρ, r, iR.bind q fun d ρ1 v H1 r1 e1 h1 q => ?_⟩
  have h1 : Rep X.K H1 Z d v := h1
  split at q
  · rename_i l
    obtain ⟨a, vs, rfl, g1, g2⟩ := tup_repT h1
    exact ⟨a, vs, rfl, g1, q _ _ H1 r1 Ext.refl (fun q hq => by rw [List.mem_singleton.mp hq]; exact h1) wk_enumT⟩
  · exact q.elim
theorem i_enumX {elts : List Expr} {kk : Nat} (he : PE X e (tD X.K E m)) (hm : X.mg "enumerate" = none) (hg : Gl X "enumerate" := by rfl) (hs : starEach [e] X.env = [(false, eval e X.env)] := by rfl) (hs' : starEach [e] X.env = (false, eval e X.env) :: starEach [] X.env := by rfl) : PI X (.Tuple elts kk tpos) (.Call (.Name "enumerate" p) [e] [] pos) (iD X.K E (mEnumX m)) := by
  refine (pi_or (i_enum he hm hg hs hs') (i_enumT he hm hg hs hs')).imp fun σ H R h => ?_
  obtain ⟨c, Z, ρ, r, q⟩ := h
  unfold mEnumX at q
  cases em : m ρ with
  | fail => rw [em] at q; exact q.elim
  | exc x l ρ1 =>
    rw [em] at q
    refine .inl ⟨c, Z, ρ, r, ?_⟩
    unfold mEnum
    rw [em]
    exact q
  | ok d ρ1 =>
    rw [em, bindR_ok] at q
    by_cases ht : ∃ l, d = .tup l
    · obtain ⟨l, rfl⟩ := ht
      refine .inr ⟨c, Z, ρ, r, ?_⟩
      unfold mEnumT
      rw [em]
      exact q
    · refine .inl ⟨c, Z, ρ, r, ?_⟩
      unfold mEnum
      rw [em, bindR_ok]
      have e1 : d.seq = d.lis := by
        cases d <;> first | rfl | exact absurd ⟨_, rfl⟩ ht
      rw [← e1]
      exact q
end
end DL
set_option Elab.async false
set_option linter.all false
set_option maxRecDepth 100000
set_option maxHeartbeats 4000000
/-! ### dict(a list of pairs) -/
namespace DL
open PySem PySem.Spec PyProof.Rows L2
variable [CTab] {K : PySem.W.Frag}
def prOf : List D → Option (List (D × D))
  | [] => some []
  | .tup [x, y] :: r => (prOf r).map fun l => (x, y) :: l
  | _ => none
def fDictP : List D → Option D
  | [.lst l] => (prOf l).bind fun ps => (mergeD [] [] ps).map fun q => .dct q.1 q.2
  | _ => none
theorem prOf_rep {σ : St} {H : Hp} {Z : Addr → Prop} : ∀ {l : List D} {ps : List (D × D)} {vs : List V}, prOf l = some ps → Reps K H Z l vs → ∃ (as : List Addr) (us : List (V × V)), vs = as.map V.ref ∧ rPr K σ H Z ps us ∧ Paired (fun p u => SqT K H p [u.1, u.2]) as us
  | [], ps, vs, h, r => by
    cases h
    cases (show vs = [] from r)
    exact ⟨[], [], rfl, .nil, .nil⟩
  | d :: l, ps, vs, h, r => by
    unfold prOf at h
    split at h
    · rename_i e
      cases e
    · rename_i x y r' e
      cases e
      cases e2 : prOf l with
      | none => rw [e2] at h; cases h
      | some ps' =>
        rw [e2] at h
        cases h
        simp only [Reps] at r
        obtain ⟨v, rest, rfl, h1, h2⟩ := r
        obtain ⟨p, ws, rfl, h3, h4⟩ := tup_repT h1
        obtain ⟨u1, u2, rfl, h5, h6⟩ := h4.inv2
        obtain ⟨as, us, rfl, h7, h8⟩ := prOf_rep (σ := σ) e2 h2
        exact ⟨p :: as, (u1, u2) :: us, rfl, .cons ⟨h5, h6⟩ h7, .cons h3 h8⟩
    · cases h
theorem paired_map {α β γ : Type} {R : α → β → Prop} {R' : α → γ → Prop} {f : γ → β} (h : ∀ a c, R a (f c) → R' a c) : ∀ {as : List α} {cs : List γ}, Paired R as (cs.map f) → Paired R' as cs
  | [], [], _ => .nil
  | [], _ :: _, q => by cases q
  | _ :: _, [], q => by cases q
  | a :: as, c :: cs, q => by
    cases q with
    | cons h1 h2 => exact .cons (h _ _ h1) (paired_map h h2)
theorem ca_dictP : CaD K (fun xs H Q => ∃ (a : Addr) (ps : List Addr) (kvs : List (Key × V)), xs = [.ref a] ∧ SqL K H a (ps.map V.ref) ∧ Paired (fun p kv => SqT K H p [kV kv.1, kv.2]) ps kvs ∧
    ∀ p, H p = none → Q (.ref p) (upd H p (.dK (mergeK [] kvs)))) fDictP := by
  intro H Z l d xs Q hz r h k
  unfold fDictP at h
  split at h
  · rename_i l'
    obtain ⟨v, rfl, h1⟩ := r.inv1
    cases e : prOf l' with
    | none => rw [e] at h; cases h
    | some ps =>
      rw [e] at h
      cases em : mergeD [] [] ps with
      | none => rw [show (some ps).bind (fun ps => (mergeD [] [] ps).map fun q => D.dct q.1 q.2) = (mergeD [] [] ps).map fun q => D.dct q.1 q.2 from rfl, em] at h; cases h
      | some q =>
        obtain ⟨ks, ds⟩ := q
        rw [show (some ps).bind (fun ps => (mergeD [] [] ps).map fun q => D.dct q.1 q.2) = (mergeD [] [] ps).map fun q => D.dct q.1 q.2 from rfl, em] at h
        cases h
        simp only [Rep] at h1
        obtain ⟨p, vs, rfl, h2, h3⟩ := h1
        obtain ⟨as, us, rfl, h4, h5⟩ := prOf_rep (σ := []) e h3
        obtain ⟨kvs, vs', f1, f2, f3, f4, f5⟩ := mergeK_zip (σ := []) (vs := []) rfl Reps.nil h4 em
        subst f1
        refine ⟨p, as, kvs, rfl, h2.sq, paired_map (R := fun p u => SqT K H p [u.1, u.2]) (R' := fun p (kv : Key × V) => SqT K H p [kV kv.1, kv.2]) (f := fun kv : Key × V => (kV kv.1, kv.2)) (fun a c q => q) h5, fun a ha => ?_⟩
        have f3 : mergeK [] kvs = ks.zip vs' := f3
        rw [f3]
        refine k _ _ (same_upd ha) ?_
        show Rep K _ Z (.dct ks ds) (.ref a)
        simp only [Rep]
        exact ⟨a, vs', rfl, fun z => hz a z ha, .inl upd_same, f4, Reps.ext (Ext.same (same_upd ha)) _ _ f5⟩
  · cases h
end DL
set_option Elab.async false
set_option linter.all false
set_option maxRecDepth 100000
set_option maxHeartbeats 4000000
namespace DL
open PySem PySem.Spec PyProof.Rows L2
/-! ### an exception's own __init__ that says super().__init__(..) -/
/-- a method whose closure is its class's cell -/
structure FunC (K : PySem.W.Frag) (P : Program) (x qual : Str) (params : Arguments) (body : List Stmt) (scope : Scope) (D : Addr) (f : Addr) (fd : FuncData) : Prop where
  ex : ∃ (oc : Value) (od : Option Addr) (kV doc pm : Value) (an : Option Addr) (cda : Addr) (ct : Value) (osl : Array (Option Value)) (cc : Addr) (ccl : Value) (ccd : Option Addr) (ccs : Array (Option Value)) (kcl : Value) (kcd : Option Addr) (vs : Array Value) (kcs : Array (Option Value)) (file : Str) (tf : Tok),
    fd = PySem.W.ksFn x qual params body scope .none kV doc pm an (.ref cda) ct cc ∧ K.lookup f = some ⟨oc, od, .func fd, osl⟩ ∧ PySem.W.codeIn K (.ref cda) qual = true ∧ K.lookup cc = some ⟨ccl, ccd, .cell (some (.ref D)), ccs⟩ ∧
      K.lookup cda = some ⟨kcl, kcd, .fields vs, kcs⟩ ∧ vs[2]? = some (.str file tf) ∧ ((P.main.file : Str) == file) = true
  top : (P.main.scope.names.lookup ("super" : Str)).isSome = false
/-- what the written part says of such a class -/
structure ExcK (K : PySem.W.Frag) (C : Addr) : Prop where
  T : OexC K C
  su : PySem.W.ks_superIn K C C "__init__" = some (some (.builtin "ValueError.__init__"))
  sb : PySem.W.subIn K (.ref C) (.type "ValueError") = some true
  sm : PySem.W.mroIn K C (.ref C) = some true
  op : PySem.W.nsIn K cStatics "thirdparty.any" = some none
def excCx (P : Program) (w : World) (K : PySem.W.Frag) (mg : Str → Option Value) (base : Heap) (N : List Str) (qual : Str) (scope : Scope) (f : Addr) (cd : Value) (cc : Addr) (A : Around) (outer : List PySem.Env) (s : Shared) (H : Hp) : Cx where
  prog := P
  w := w
  K := K
  mg := mg
  base := base
  A := A.deeper (PySem.W.ksEnv qual scope s.heap.objs.size f cd cc)
  N := N
  s_0 := s
  H_0 := H
  env := PySem.W.ksEnv qual scope s.heap.objs.size f cd cc
  outer := outer
  stack := PySem.W.ksEnv qual scope s.heap.objs.size f cd cc :: outer
  ex := []
  calm := true
  fn := fun _ => false
  pn := []
  xe := fun _ _ => False
/-- names: the parameters first, all local; but for these the class's cell -/
structure ExcScope (N : List Str) (sc : Scope) : Prop where
  kind : sc.kind = .function
  co : sc.isCoroutine = false
  gen : sc.isGenerator = false
  nd : N.Nodup
  par : ∀ x ∈ N, sc.names.lookup x = some .local
  nocell : ∀ y ∈ sc.names, y.2 ≠ .cell
  free : ∀ y ∈ sc.names, y.2 = .free → y.1 = "__class__"
  cls : sc.names.lookup ("__class__" : Str) = some .free
  sup : sc.names.lookup ("super" : Str) = some .globalImplicit
theorem lookup_single {x : Str} {a c : Addr} (h : List.lookup x [(("__class__" : Str), a)] = some c) : x = "__class__" ∧ c = a := by
  by_cases e : x = "__class__"
  · subst e
    simp at h
    exact ⟨rfl, h.symm⟩
  · have e2 : (x == Str.ofString "__class__") = false := by simpa using e
    simp [List.lookup, e2] at h
section
variable {P : Program} {w : World} {K : PySem.W.Frag} {mg : Str → Option Value} {base : Heap} {N : List Str} {qual : Str} {scope : Scope} {f cc D : Addr} {cd : Value} {A : Around} {outer : List PySem.Env} {s : Shared} {H : Hp} {us : List Value} {vs : List V} {h₀ : Heap} {tk : Nat}
theorem lookup_uniq {x : Str} {v : Value} : ∀ {l : List (Str × Value)}, (x, v) ∈ l → (∀ v', (x, v') ∈ l → v' = v) → l.lookup x = some v
  | [], h, _ => by cases h
  | (y, u) :: r, h, hu => by
    by_cases e : x = y
    · subst e
      have e2 := hu u List.mem_cons_self
      subst e2
      simp [List.lookup]
    · have e2 : (x == y) = false := by simpa using e
      simp only [List.lookup, e2]
      refine lookup_uniq ?_ fun v' hv => hu v' (List.mem_cons_of_mem _ hv)
      rcases List.mem_cons.mp h with z | z
      · cases z
        exact (e rfl).elim
      · exact z
theorem zip_uniq : ∀ {N : List Str} {us : List Value} {i : Nat} {y : Str} {u v' : Value}, N.Nodup → N[i]? = some y → us[i]? = some u → (y, v') ∈ N.zip us → v' = u
  | [], _, _, _, _, _, _, h, _, _ => by simp at h
  | _ :: _, [], _, _, _, _, _, _, h, _ => by simp at h
  | n :: N, w :: us, 0, y, u, v', nd, h1, h2, hm => by
    simp at h1 h2
    subst h1 h2
    simp only [List.zip_cons_cons, List.mem_cons, Prod.mk.injEq] at hm
    rcases hm with ⟨_, z⟩ | z
    · exact z
    · exact absurd (List.of_mem_zip z).1 (List.nodup_cons.mp nd).1
  | n :: N, w :: us, i + 1, y, u, v', nd, h1, h2, hm => by
    simp only [List.zip_cons_cons, List.mem_cons, Prod.mk.injEq] at hm
    rcases hm with ⟨z, _⟩ | z
    · exact absurd (List.mem_of_getElem? (show N[i]? = some y by simpa using h1)) (by rw [z]; exact (List.nodup_cons.mp nd).1)
    · exact zip_uniq (List.nodup_cons.mp nd).2 (by simpa using h1) (by simpa using h2) z
theorem zip_mem : ∀ {N : List Str} {us : List Value} {i : Nat} {y : Str} {u : Value}, N[i]? = some y → us[i]? = some u → (y, u) ∈ N.zip us
  | [], _, _, _, _, h, _ => by simp at h
  | _ :: _, [], _, _, _, _, h => by simp at h
  | n :: N, w :: us, 0, y, u, h1, h2 => by
    simp at h1 h2
    subst h1 h2
    simp
  | n :: N, w :: us, i + 1, y, u, h1, h2 => by
    simp only [List.zip_cons_cons, List.mem_cons]
    exact .inr (zip_mem (i := i) (by simpa using h1) (by simpa using h2))
theorem zip_rev_get {N : List Str} {us : List Value} {i : Nat} {y : Str} {u : Value} (nd : N.Nodup) (h1 : N[i]? = some y) (h2 : us[i]? = some u) : (N.zip us).reverse.lookup y = some u :=
  lookup_uniq (List.mem_reverse.mpr (zip_mem h1 h2)) fun v' hv => zip_uniq nd h1 h2 (List.mem_reverse.mp hv)
theorem exc_start {cs : Obj} (S : ExcScope N scope) (hd : A.handled = none) (e0 : Env0 P w K mg base A outer s H) (hl : vs.length = N.length) (r : Vals vs us)
    (hc : K.lookup cc = some cs) (hcd : cs.data = .cell (some (.ref D))) (hns : h₀.Ns s.heap.objs.size fun x => (N.zip us).reverse.lookup x) (hk : ∀ b o, s.heap.get? b = some o → h₀.get? b = some o) :
    Inv (excCx P w K mg base N qual scope f cd cc A outer s H) [] (L2.start N vs) H { s with heap := h₀, toks := tk } := by
  have KX : K.In s.heap := e0.mod.kin.keeps fun b o e => (e0.bs b o e).1
  have noA : ∀ b : Addr, b ∉ (excCx P w K mg base N qual scope f cd cc A outer s H).ex := fun b z => absurd (show b ∈ ([] : List Addr) from z) (by simp)
  have one : ∀ {x c}, List.lookup x [(("__class__" : Str), cc)] = some c → x = "__class__" ∧ c = cc := lookup_single
  refine ⟨⟨e0.mod, S.kind, rfl, rfl, Nat.le_refl _, fun y z c h1 h2 => ?_, fun y hy => ?_, fun y c z _ => ?_, fun _ => hd, Around.frames_deeper e0.frames, .inr ⟨rfl, rfl⟩, fun b z => absurd z (noA b), e0.bs, e0.bsz, fun b _ _ => noA b, fun b z => absurd z (noA b), e0.funs, e0.frf⟩,
    rfl, e0.bare, Un.kept hk, ⟨_, hns, fun i y v h1 h2 h3 => ?_⟩, fun y c h => ?_, e0.hok.fresh (Nat.le_refl _), fun y c h => ?_, fun p hp => absurd (show p ∈ ([] : List (Addr × Obj)) from hp) (by simp), e0.hok.kept hk, ?_⟩
  · rw [(one h1).1, (one h2).1]
  · have hy : scope.names.lookup y = some .cell ∨ scope.names.lookup y = some .free := hy
    rcases hy with hy | hy
    · exact absurd rfl (S.nocell _ (PySem.mem_of_lookup hy))
    · have e := S.free _ (PySem.mem_of_lookup hy) rfl
      have e : y = "__class__" := e
      subst e
      exact ⟨cc, rfl⟩
  · have z : false = true := z
    cases z
  · have hi : i < vs.length := by
      unfold L2.start at h2
      by_cases hi : i < vs.length
      · exact hi
      · rw [List.getElem?_append_right (by simpa using hi)] at h2
        rw [List.getElem?_replicate] at h2
        split at h2 <;> cases h2
    have ha : vs[i]? = some v := by
      unfold L2.start at h2
      rw [List.getElem?_append_left (by simpa using hi), List.getElem?_map] at h2
      cases e : vs[i]? with
      | none => rw [e] at h2; cases h2
      | some a => rw [e] at h2; cases h2; rfl
    obtain ⟨u, hu, rv⟩ := r.get ha
    exact ⟨u, rv, .inl ⟨S.par y (List.mem_of_getElem? h1), zip_rev_get S.nd h1 hu⟩⟩
  · obtain ⟨_, e⟩ := one h
    subst e
    exact ⟨_, cs, hk _ _ (KX _ _ hc), hcd⟩
  · obtain ⟨_, e⟩ := one h
    subst e
    exact (e0.bs _ _ (e0.mod.kin _ _ hc)).2
  · unfold L2.start
    show _ = N.length
    rw [List.length_append, List.length_map, List.length_replicate]
    omega
end
end DL
set_option Elab.async false
set_option linter.all false
set_option maxRecDepth 100000
set_option maxHeartbeats 4000000
namespace DL
open PySem PySem.Spec PyProof.Rows L2
theorem startGet {N : List Str} {vs : List V} {i : Nat} {v : V} (h : vs[i]? = some v) : (L2.start N vs)[i]? = some (some v) := by
  unfold L2.start
  have hi := (List.getElem?_eq_some_iff.mp h).1
  rw [List.getElem?_append_left (by simpa using hi), List.getElem?_map, h]
  rfl
/-- BaseException.__init__ bound to a, called -/
theorem exc_bw {X : Cx} {pins : List (Addr × Obj)} {σ : St} {H : Hp} {A : Around} {E : Value → Shared → Prop} {a C u : Addr} {us : List Value} {s : Shared} {Q : Value → Shared → Prop} (T : OexC X.K C) (I : Inv X pins σ H s) (e : H a = some (exo a C none))
    (hu : s.heap.get? u = some (PySem.W.kxs_mw "ValueError.__init__" a)) (hl : us.length ≤ sizeLine) (h : ∀ s', Inv X pins σ H s' → Q .none s') :
    wpAny (model X.prog X.w) A (call (.ref u) us) Q E s := by
  obtain ⟨nm, q, N, bs, bm, sn, sub, ab, col, dd, k0, k1, k2, k3, k5, hC, hbm⟩ := T.cls
  obtain ⟨t1, ho⟩ := exo_at I.hok e
  have hC' := I.kIn _ _ hC
  obtain ⟨hh, g, d, tk, os⟩ := s
  refine wpAny_call (codeAny_of_tree ?_)
  show wpAny _ A.in1 (callAny (.ref u) ⟨us, []⟩) _ _ _
  simp only [callAny]
  refine wpAny_bind (wpAny_load hu ?_)
  simp only [PySem.W.kxs_mw, show (Value.type "method-wrapper" == Value.type "method" || Value.type "method-wrapper" == Value.type "builtin_function_or_method" || Value.type "method-wrapper" == Value.type "method-wrapper") = true by decide, if_true]
  refine PySem.W.KFB.if_so (by decide) ?_
  refine wpAny_bind (PySem.W.check_bound_init F.excBase_ValueError.toExcCallFacts hC' ho rfl ?_)
  refine wpAny_bind (wpAny_pure (wpAny_pure ?_))
  refine ⟨plainId_quiet F.excBase_ValueError.init.plain _, codeAny_builtin F.excBase_ValueError.initEntry ?_⟩
  refine PySem.W.exc_init_tree (cls := .ref C) (t0 := t1) (dv := none) (c2 := .none) (c3 := .none) (b4 := .bool false) ho hl fun h' k hx _ => ?_
  have J := I.write (t' := tk) (x := a) (e := a) (o := exo a C none) (by rw [e]; exact True.intro) (.inl rfl) k ⟨_, hx⟩ (exo_ok hx)
  have eu : upd H a (exo a C none) = H := by
    funext b
    by_cases hb : b = a
    · rw [hb, upd_same, e]
    · rw [upd_ne hb]
  rw [eu] at J
  exact h _ J
section
variable {P : Program} {w : World} {K : PySem.W.Frag} {mg : Str → Option Value} {base : Heap} {N : List Str} {x qual : Str} {params : Arguments} {body rest : List Stmt} {scope : Scope} {C f : Addr} {fd : FuncData} {e1 : Expr} {es : List Expr} {p0 p1 p2 p3 p4 : Pos} {ta : TA} {tu : TS} {sp : Sp} {ar : Arg} {ars : List Arg} {slf : Str} {pl : PySem.Env → Sem Bool}
theorem exc_init (B : FunC K P x qual params body scope C f fd) (EK : ExcK K C) (S : ExcScope N scope) (hpar : (params.posonlyargs ++ params.args).head? = some ar) (har : ar.arg = slf) (hN0 : N[0]? = some slf) (hms : mg ("super" : Str) = none)
    (hbody : body = .Expr (.Call (.Attribute (.Call (.Name "super" p0) [] [] p1) "__init__" p2) (e1 :: es) [] p3) p4 :: rest)
    (ha : ∀ (A : Around) (outer : List PySem.Env) (s : Shared) (H : Hp) (cd : Value) (cc : Addr), PA (excCx P w K mg base N qual scope f cd cc A outer s H) (e1 :: es) ta)
    (hu : ∀ (A : Around) (outer : List PySem.Env) (s : Shared) (H : Hp) (cd : Value) (cc : Addr), PSs (excCx P w K mg base N qual scope f cd cc A outer s H) rest tu)
    (len : ∀ vs H Q E, sp vs H Q E → vs.length = N.length)
    (hsp : ∀ vs H Q E, sp vs H Q E → ∃ (a : Addr), vs[0]? = some (.ref a) ∧ H a = some (exo a C none) ∧ ta (L2.start N vs) H fun ws H1 => ws.length ≤ 1000 ∧ H1 a = some (exo a C none) ∧ tu { nx := fun _ H' => Q .non H', rt := Q } (L2.start N vs) H1)
    (hst : ∀ env : PySem.Env, starEach (e1 :: es) env = (false, eval e1 env) :: starEach es env) (hpl : ∀ (env : PySem.Env) (pos : Pos), (backTo pos (starEach es env)).any (·.1) = false)
    (hev : ∀ (env : PySem.Env), eval (.Call (.Attribute (.Call (.Name "super" p0) [] [] p1) "__init__" p2) (e1 :: es) [] p3) env = (do
      let ov ← attributeBase (.Call (.Name "super" p0) [] [] p1) "__init__" env (eval (.Call (.Name "super" p0) [] [] p1) env)
      standAt p2.atName
      let (f, first) ← holding [ov] (getMethod ov "__init__" (pl env))
      callWith p3 f first (backTo p3 (starEach (e1 :: es) env)) []))
    (hsw : ∀ env : PySem.Env, swapsWith (.Call (.Attribute (.Call (.Name "super" p0) [] [] p1) "__init__" p2) (e1 :: es) [] p3) none p4.line env = pure false) :
    FnOk P w K mg base CX0 1 f fd N sp := by
  refine ⟨len, fun A outer s H args us vs Q E hr e0 hb r hq => ?_⟩
  have hl := len _ _ _ _ hq
  obtain ⟨a, hv0, hHa, hta⟩ := hsp _ _ _ _ hq
  obtain ⟨oc, od, kV, doc, pm, an, cda, ct, osl, cc, ccl, ccd, ccs, kcl, kcd, vs', kcs, file, tf, efd, lkf, hcd, lkc, lkd, hfv, hfile⟩ := B.ex
  subst efd
  have KX : K.In s.heap := e0.mod.kin.keeps fun b o e => (e0.bs b o e).1
  have lim : s.heap.NoLimit := e0.mod.nolimit.keeps fun b o e => (e0.bs b o e).1
  refine codeAny_call_function hr.depth (KX _ _ lkf) rfl S.co S.gen rfl (PySem.W.codeRec_of KX hcd) (hb _ _ _ _ ?_)
  refine wpAny_newFunctionEnv S.nocell (fun y hy => S.par _ (List.of_mem_zip hy).1) (fun h₀ hns hsb => ⟨lim.fresh _ hsb, PySem.ks_codeAny_funcAt ?_⟩) S.kind
  have hk : ∀ b o, s.heap.get? b = some o → h₀.get? b = some o := fun b o e => hsb.extBut b o (Nat.ne_of_lt (Heap.lt_size e)) (Heap.get?_push_of_some _ e)
  have J := exc_start (N := N) (qual := qual) (scope := scope) (f := f) (cc := cc) (cd := .ref cda) (D := C) (tk := s.toks + (N.zip us).length) S hr.hd e0 hl r lkc rfl hns hk
  have z : PySem.wpAt (model P w) (A.deeper (PySem.W.ksEnv qual scope s.heap.objs.size f (.ref cda) cc)) (.func body (PySem.W.ksEnv qual scope s.heap.objs.size f (.ref cda) cc)) (execs body (PySem.W.ksEnv qual scope s.heap.objs.size f (.ref cda) cc))
      (SP (excCx P w K mg base N qual scope f (.ref cda) cc A outer s H) [] { nx := fun _ H' => Q .non H', rt := Q }) (fun _ _ => False) { s with heap := h₀, toks := s.toks + (N.zip us).length } := by
    subst hbody
    refine PySem.ks_wpAt_execs_cons (PySem.ks_wpAt_Expr_any ?_ J.quiet (hsw _))
    refine PySem.ks_wpAt_MethodCall (pl := pl _) ?_ (hev _)
    have KXJ : K.In h₀ := J.kIn
    obtain ⟨cdD, hcdD⟩ : ∃ cdD, PySem.W.clsIn K C = some cdD := by
      have h1 := EK.su
      unfold PySem.W.ks_superIn at h1
      cases hc : PySem.W.clsIn K C with
      | none => rw [hc] at h1; cases h1
      | some cdD => exact ⟨cdD, rfl⟩
    obtain ⟨oD, hD1, hD2⟩ : ∃ oD, h₀.get? C = some oD ∧ oD.data = .cls cdD := by
      have hD := hcdD
      unfold PySem.W.clsIn at hD
      split at hD
      · rename_i c d cd' sl ho
        cases hD
        exact ⟨_, KXJ _ _ ho, rfl⟩
      · cases hD
    obtain ⟨t1, hoe⟩ := exo_at J.hok hHa
    have nAC : a ≠ C := fun z => by
      have y : h₀.get? C = some oD := hD1
      have y2 : h₀.get? a = _ := hoe
      rw [z, y] at y2
      have y3 := Option.some.inj y2
      rw [y3] at hD2
      cases hD2
    refine PySem.ks_wpAt_super_base (env := PySem.W.ksEnv qual scope s.heap.objs.size f (.ref cda) cc) S.sup S.cls rfl rfl (hk _ _ (KX _ _ lkf)) rfl hpar rfl (hk _ _ (KX _ _ lkd)) rfl hfv hfile B.top ?_
    refine PySem.W.ks_loadName_global S.kind S.sup ?_
    obtain ⟨mb, hb1, hb2⟩ := J.mod.blt
    refine Calls.loadGlobal_builtin (env := PySem.W.ksEnv qual scope s.heap.objs.size f (.ref cda) cc) (J.mod.glob.keeps J.bk) hms (hb1.keeps J.bk) ((hb2 _ (by decide)).trans PyProof.Rows.Boot.«super») ⟨rfl, ?_⟩
    refine wpAny_loadName_free (c := cc) S.kind S.cls rfl ⟨_, hk _ _ (KX _ _ lkc), rfl⟩ ?_
    rw [har]
    obtain ⟨m, hm1, hm2⟩ := J.loc
    obtain ⟨u0, hu0, hlook⟩ := hm2 0 slf (.ref a) hN0 (startGet hv0) (.inl (S.par _ (List.mem_of_getElem? hN0)))
    obtain rfl : u0 = Value.ref a := hu0
    have hms0 : m slf = some (.ref a) := by
      rcases hlook with ⟨_, z⟩ | ⟨z, _⟩
      · exact z
      · have el := S.par _ (List.mem_of_getElem? hN0)
        have z : scope.names.lookup slf = some .cell ∨ scope.names.lookup slf = some .free := z
        rw [el] at z
        rcases z with z | z <;> cases z
    refine wpAny_loadName_local S.kind (S.par _ (List.mem_of_getElem? hN0)) hm1 hms0 ?_
    refine PySem.ks_wpAny_isType_cls hD1 hD2 ⟨rfl, ?_⟩
    refine PySem.ks_wpAny_call_super hD1 hD2 hoe rfl (fun c e => by cases e) (PySem.W.looks_mroIn KXJ EK.sm) (fun h1 eso k1 => ?_)
    have J1 := J.kept (t' := s.toks + (N.zip us).length) k1
    have hoe1 := k1 _ _ hoe
    have KX1 : K.In h1 := J1.kIn
    have su := EK.su
    unfold PySem.W.ks_superIn at su
    rw [hcdD] at su
    have I1 : PySem.W.InstAt h1 a _ C none := ⟨hoe1, rfl, rfl, trivial⟩
    refine PySem.W.kxs_getMethod PySem.W.kxs_ValueError eso (PySem.W.looks_opaque KX1 EK.op) (l₀ := cdD.mro) (fun A Q E s k q => wpAny_bind ((PySem.W.looks_clsIn KX1 hcdD) A _ E s k (wpAny_pure q))) rfl KX1 su (I1.type.andThen (PySem.W.looks_subIn KX1 EK.sb)) nAC rfl ?_
    have k2 : ∀ b o, h1.get? b = some o → (h1.push (PySem.W.kxs_mw "ValueError.__init__" a)).get? b = some o := fun b o e => Heap.get?_push_of_some _ e
    have J2 := J1.kept (t' := s.toks + (N.zip us).length + 1) k2
    have hu2 : (h1.push (PySem.W.kxs_mw "ValueError.__init__" a)).get? h1.objs.size = some (PySem.W.kxs_mw "ValueError.__init__" a) := Heap.get?_push_size _ rfl
    have J3 : Inv (excCx P w K mg base N qual scope f (.ref cda) cc A outer s H) [(h1.objs.size, PySem.W.kxs_mw "ValueError.__init__" a)] (L2.start N vs) H { heap := h1.push (PySem.W.kxs_mw "ValueError.__init__" a), gens := s.gens, drawn := s.drawn, toks := s.toks + (N.zip us).length + 1, os := s.os } := by
      refine J2.pins_of fun p hp => ?_
      rcases List.mem_cons.mp hp with rfl | hp
      · refine ⟨hu2, J1.hok.fresh (Nat.le_refl _), fun z => ?_, fun z => ?_, fun v z => by cases z⟩
        · exact absurd J1.lt (by rw [← z]; exact Nat.lt_irrefl _)
        · exact J1.nofs (Nat.le_refl _) z
      · cases hp
    rw [hst]
    refine PySem.W.kxs_callWith (i := "ValueError.__init__") (x := a) (by show (false || (backTo p3 (starEach es _)).any (·.1)) = false; rw [hpl]; rfl) (Calls.evalArgs_plain ?_)
    have hpa := (ha A outer s H (.ref cda) cc).run p3 [(h1.objs.size, PySem.W.kxs_mw "ValueError.__init__" a)] _ _ _ _ J3 hta
    have hpa2 : wpAny (model P w) (A.deeper (PySem.W.ksEnv qual scope s.heap.objs.size f (.ref cda) cc)) (spliced (backTo p3 (starEach (e1 :: es) (PySem.W.ksEnv qual scope s.heap.objs.size f (.ref cda) cc)))) _ _ _ := hpa
    rw [hst] at hpa2
    refine wpAny_mono hpa2 (fun ws s3 hw => ?_) fun _ _ z => z
    obtain ⟨vs3, H3, J4, r3, hl3, hHa3, htu⟩ := hw
    obtain ⟨hu3, _⟩ := J4.pin (h1.objs.size, PySem.W.kxs_mw "ValueError.__init__" a) (List.mem_append_right _ (List.mem_singleton.mpr rfl))
    refine ⟨hu3, ?_⟩
    show wpAny _ _ (call (.ref h1.objs.size) ws) _ _ _
    have hlw : ws.length ≤ sizeLine := by
      rw [← Paired.length r3, sizeLine_eq]
      omega
    refine exc_bw EK.T J4 hHa3 hu3 hlw fun s4 J5 => ?_
    have J6 : Inv (excCx P w K mg base N qual scope f (.ref cda) cc A outer s H) [] (L2.start N vs) H3 s4 := J5.pins_of fun p hp => by cases hp
    exact PySem.wpAt_of_wpAny ((hu A outer s H (.ref cda) cc).run [] s4 _ H3 _ J6 htu)
  refine PySem.wpAt_mono z (fun fl s' hs => ?_) fun _ _ z => z.elim
  have fin : ∀ {σ' : St} {H' : Hp} {v : V} {u : Value}, Inv (excCx P w K mg base N qual scope f (.ref cda) cc A outer s H) [] σ' H' s' → RelV v u → Q v H' → CE outer P w H s Q u s' :=
    fun {σ' H' v u} J rv q => ⟨v, H', J.os, J.bare, J.base, J.hok, rv, q⟩
  cases fl with
  | ret u =>
    obtain ⟨v, σ', H', J, rv, q⟩ := hs
    exact fin J rv q
  | next =>
    obtain ⟨σ', H', J, q⟩ := hs
    exact fin (v := V.non) (u := Value.none) J rfl q
  | brk =>
    obtain ⟨_, _, _, q⟩ := hs
    exact False.elim q
  | cont =>
    obtain ⟨_, _, _, q⟩ := hs
    exact False.elim q
end
end DL
set_option Elab.async false
set_option linter.all false
set_option maxRecDepth 100000
set_option maxHeartbeats 4000000
namespace DL
open PySem PySem.Spec PyProof.Rows L2
/-- what __init__ of an exception with the fields fs does -/
def spX (C : Addr) (fs : List Str) : Sp := fun vs H Q _ => ∃ (a : Addr) (ws : List V), vs = .ref a :: ws ∧ ws.length = fs.length ∧ H a = some (exo a C none) ∧
  ∀ (d : Addr) (H' : Hp), H d = none → d ≠ a → (∀ b, b ≠ a → b ≠ d → H' b = H b) → H' a = some (exo a C (some d)) → H' d = some (exd d (fs.zip ws).reverse) → Q .non H'
section
variable {P : Program} {w : World} {K : PySem.W.Frag} {mg : Str → Option Value} {base : Heap} {x qual : Str} {params : Arguments} {scope : Scope} {C f : Addr} {fd : FuncData} {ar : Arg}
theorem excInit1 {pl : PySem.Env → Sem Bool} {slf a1 f1 : Str} {p0 p1 p2 p3 p4 q0 q1 q2 q3 q4 : Pos} (B : FunC K P x qual params [.Expr (.Call (.Attribute (.Call (.Name "super" p0) [] [] p1) "__init__" p2) [.Name a1 p3] [] p4) q0, .Assign [.Attribute (.Name slf q1) f1 q2] (.Name a1 q3) q4] scope C f fd)
    (EK : ExcK K C) (S : ExcScope [slf, a1] scope) (hpar : (params.posonlyargs ++ params.args).head? = some ar) (har : ar.arg = slf) (hms : mg ("super" : Str) = none) (n1 : PySem.W.findIn K (.ref C) f1 = some none)
    (hev : ∀ env : PySem.Env, eval (.Call (.Attribute (.Call (.Name "super" p0) [] [] p1) "__init__" p2) [.Name a1 p3] [] p4) env = (do
      let ov ← attributeBase (.Call (.Name "super" p0) [] [] p1) "__init__" env (eval (.Call (.Name "super" p0) [] [] p1) env)
      standAt p2.atName
      let (f, first) ← holding [ov] (getMethod ov "__init__" (pl env))
      callWith p4 f first (backTo p4 (starEach [.Name a1 p3] env)) []))
    (hd1 : (a1 == ("__debug__" : Str)) = false := by decide) (hd2 : (a1 == ("__classdict__" : Str)) = false := by decide) (hs1 : (slf == ("__debug__" : Str)) = false := by decide) (hs2 : (slf == ("__classdict__" : Str)) = false := by decide) :
    FnOk P w K mg base CX0 1 f fd [slf, a1] (spX C [f1]) := by
  have v0 : ∀ {y}, y ∈ [slf, a1] → ∀ (A : Around) (outer : List PySem.Env) (s : Shared) (H : Hp) (cd : Value) (cc : Addr), Vis (excCx P w K mg base [slf, a1] qual scope f cd cc A outer s H).env.scope y := fun hy _ _ _ _ _ _ => .inl (S.par _ hy)
  refine exc_init (N := [slf, a1]) (slf := slf) (e1 := .Name a1 p3) (es := []) (p0 := p0) (p1 := p1) (p2 := p2) (p3 := p4) (p4 := q0) (rest := [.Assign [.Attribute (.Name slf q1) f1 q2] (.Name a1 q3) q4]) (tu := tOst K f1 (tVar 0) (tVar 1)) B EK S hpar har rfl hms rfl
    (fun A outer s H cd cc => pa_cons (pe_var (i := 1) rfl (v0 (by simp) _ _ _ _ _ _) hd1 hd2) pa_nil) (fun A outer s H cd cc => pss_one (ps_ost (pe_var (i := 0) rfl (v0 (by simp) _ _ _ _ _ _) hs1 hs2) (pe_var (i := 1) rfl (v0 (by simp) _ _ _ _ _ _) hd1 hd2))) ?_ ?_ (fun _ => rfl) (fun _ _ => rfl) hev (fun _ => rfl)
  · intro vs H Q E h
    obtain ⟨a, ws, rfl, hl, _⟩ := h
    simp [hl]
  · intro vs H Q E h
    obtain ⟨a, ws, rfl, hl, ha, k⟩ := h
    match ws, hl with
    | [y], _ =>
      refine ⟨a, rfl, ha, y, rfl, by show 1 ≤ 1000; decide, ha, y, rfl, _, rfl, a, C, rfl, EK.T, n1, .inl ⟨ha, fun dx hn hne => ?_⟩⟩
      refine k dx _ hn hne (fun b h1 h2 => by rw [upd_ne h1, upd_ne h2]) upd_same ?_
      rw [upd_ne hne, upd_same]
      rfl
theorem excInit2 {pl : PySem.Env → Sem Bool} {slf a1 a2 f1 f2 : Str} {p0 p1 p2 p3 p4 p5 q0 q1 q2 q3 q4 r1 r2 r3 r4 : Pos} (B : FunC K P x qual params [.Expr (.Call (.Attribute (.Call (.Name "super" p0) [] [] p1) "__init__" p2) [.Name a1 p3, .Name a2 p5] [] p4) q0, .Assign [.Attribute (.Name slf q1) f1 q2] (.Name a1 q3) q4, .Assign [.Attribute (.Name slf r1) f2 r2] (.Name a2 r3) r4] scope C f fd)
    (EK : ExcK K C) (S : ExcScope [slf, a1, a2] scope) (hpar : (params.posonlyargs ++ params.args).head? = some ar) (har : ar.arg = slf) (hms : mg ("super" : Str) = none) (n1 : PySem.W.findIn K (.ref C) f1 = some none) (n2 : PySem.W.findIn K (.ref C) f2 = some none)
    (hev : ∀ env : PySem.Env, eval (.Call (.Attribute (.Call (.Name "super" p0) [] [] p1) "__init__" p2) [.Name a1 p3, .Name a2 p5] [] p4) env = (do
      let ov ← attributeBase (.Call (.Name "super" p0) [] [] p1) "__init__" env (eval (.Call (.Name "super" p0) [] [] p1) env)
      standAt p2.atName
      let (f, first) ← holding [ov] (getMethod ov "__init__" (pl env))
      callWith p4 f first (backTo p4 (starEach [.Name a1 p3, .Name a2 p5] env)) []))
    (hd1 : (a1 == ("__debug__" : Str)) = false := by decide) (hd2 : (a1 == ("__classdict__" : Str)) = false := by decide) (he1 : (a2 == ("__debug__" : Str)) = false := by decide) (he2 : (a2 == ("__classdict__" : Str)) = false := by decide) (hs1 : (slf == ("__debug__" : Str)) = false := by decide) (hs2 : (slf == ("__classdict__" : Str)) = false := by decide) :
    FnOk P w K mg base CX0 1 f fd [slf, a1, a2] (spX C [f1, f2]) := by
  have v0 : ∀ {y}, y ∈ [slf, a1, a2] → ∀ (A : Around) (outer : List PySem.Env) (s : Shared) (H : Hp) (cd : Value) (cc : Addr), Vis (excCx P w K mg base [slf, a1, a2] qual scope f cd cc A outer s H).env.scope y := fun hy _ _ _ _ _ _ => .inl (S.par _ hy)
  refine exc_init (N := [slf, a1, a2]) (slf := slf) (e1 := .Name a1 p3) (es := [.Name a2 p5]) (p0 := p0) (p1 := p1) (p2 := p2) (p3 := p4) (p4 := q0) (rest := [.Assign [.Attribute (.Name slf q1) f1 q2] (.Name a1 q3) q4, .Assign [.Attribute (.Name slf r1) f2 r2] (.Name a2 r3) r4]) (tu := tSeq (tOst K f1 (tVar 0) (tVar 1)) (tOst K f2 (tVar 0) (tVar 2))) B EK S hpar har rfl hms rfl
    (fun A outer s H cd cc => pa_cons (pe_var (i := 1) rfl (v0 (by simp) _ _ _ _ _ _) hd1 hd2) (pa_cons (pe_var (i := 2) rfl (v0 (by simp) _ _ _ _ _ _) he1 he2) pa_nil))
    (fun A outer s H cd cc => pss_cons (ps_ost (pe_var (i := 0) rfl (v0 (by simp) _ _ _ _ _ _) hs1 hs2) (pe_var (i := 1) rfl (v0 (by simp) _ _ _ _ _ _) hd1 hd2)) (pss_one (ps_ost (pe_var (i := 0) rfl (v0 (by simp) _ _ _ _ _ _) hs1 hs2) (pe_var (i := 2) rfl (v0 (by simp) _ _ _ _ _ _) he1 he2)))) ?_ ?_ (fun _ => rfl) (fun _ _ => rfl) hev (fun _ => rfl)
  · intro vs H Q E h
    obtain ⟨a, ws, rfl, hl, _⟩ := h
    simp [hl]
  · intro vs H Q E h
    obtain ⟨a, ws, rfl, hl, ha, k⟩ := h
    match ws, hl with
    | [y, z], _ =>
      refine ⟨a, rfl, ha, y, rfl, z, rfl, by show 2 ≤ 1000; decide, ha, y, rfl, _, rfl, a, C, rfl, EK.T, n1, .inl ⟨ha, fun dx hn hne => ?_⟩⟩
      refine ⟨z, rfl, _, rfl, a, C, rfl, EK.T, n2, .inr ⟨dx, [(f1, y)], upd_same, by rw [upd_ne hne, upd_same], by show 1 ≤ 900; decide, ?_⟩⟩
      refine k dx _ hn hne (fun b h1 h2 => by rw [upd_ne h2, upd_ne h1, upd_ne h2]) (by rw [upd_ne (Ne.symm hne), upd_same]) ?_
      rw [upd_same]
      rfl
end
variable [CTab]
/-- an exception class that is made with n values, all kept in its fields -/
structure Raiser (P : Program) (w : World) (K : PySem.W.Frag) (mg : Str → Option Value) (base : Heap) (c n : Nat) : Prop where
  ex : ∃ (fI : Addr) (fd : FuncData) (N : List Str), OexC K (He.ga K (cN c)) ∧ PySem.W.findIn K (.ref (He.ga K (cN c))) "__init__" = some (some (.ref fI)) ∧ PySem.W.typeIn K (.ref fI) = some (.type "function") ∧
    FnOk P w K mg base CX0 1 fI fd N (spX (He.ga K (cN c)) (cF c).reverse) ∧ Binds K fd N [] ∧ mg (cN c) = some (.ref (He.ga K (cN c))) ∧ (cF c).length = n
def mRaise (c : Nat) (ms : M (List D)) : M Fl := fun ρ => bindR (ms ρ) fun l ρ => .exc c l.reverse ρ
class LsLen (n : Nat) (ms : M (List D)) : Prop where
  len : ∀ ρ l ρ', ms ρ = .ok l ρ' → l.length = n
theorem zip_reverse {α β : Type} : ∀ {l : List α} {m : List β}, l.length = m.length → (l.zip m).reverse = l.reverse.zip m.reverse
  | [], [], _ => rfl
  | a :: l, b :: m, h => by
    simp only [List.zip_cons_cons, List.reverse_cons]
    rw [zip_reverse (by simpa using h), List.zip_append (by simpa using h)]
    rfl
theorem s_raise {X : Cx} {E : XK} {c n : Nat} {x : Str} {e : Expr} {es : List Expr} {ms : M (List D)} {p pos rp : Pos} (R : Raiser X.prog X.w X.K X.mg X.base c n) (hx : x = cN c) (hc : X.calm = true) (tk : Takes X fun cls d _ H => E cls d H) (hr : Room 2 X.A) (ha : PA X (e :: es) (tAr X.K E ms)) (hl : ∀ ρ l ρ', ms ρ = .ok l ρ' → l.length = n) (hg : Gl X x := by rfl) (hn9 : n ≤ 1000 := by decide)
    (hdb : (x == ("__debug__" : Str)) = false := by decide) (he : starEach (e :: es) X.env = (false, eval e X.env) :: starEach es X.env := by rfl) (hpl : (backTo pos (starEach es X.env)).any (·.1) = false := by rfl) :
    PS X (.Raise (some (.Call (.Name x p) (e :: es) [] pos)) none rp) (tS X.K E (mRaise c ms)) := by
  obtain ⟨fI, fd, N, T, iC, tI, F, hb, hm, hn⟩ := R.ex
  subst hx
  refine (ps_raise hc tk (pmk_oex T iC tI F hr hb .nil pass0 hg hm ha hdb he hpl)).imp fun Dn σ H h => ?_
  obtain ⟨cz, ρ, ⟨Z, r⟩, q⟩ := h
  refine ⟨cz, Z, ρ, r, ?_⟩
  have q' : tSR X.K E cz Dn (bindR (ms ρ) fun l ρ => .exc c l.reverse ρ) := q
  cases em : ms ρ with
  | fail => rw [em] at q'; exact q'
  | exc y l ρ1 =>
    rw [em] at q'
    exact fun ed vs H' h1 h2 h3 h4 h5 => q' σ ed vs H' ⟨Z, h1⟩ h3 h4 (Reps.zed h1.z0 _ _ h5)
  | ok l ρ1 =>
    rw [em] at q'
    intro vs H1 r1 e1 h1
    have hlen := hl _ _ _ em
    have hvl : vs.length = n := by rw [← h1.len]; exact hlen
    refine ⟨by omega, fun a hna => ⟨a, vs ++ [], rfl, by simp [hvl, hn], upd_same, fun d H' hd hda hk h'a h'd => ⟨rfl, d, _, h'a, h'd, ?_, ?_⟩⟩⟩
    · rw [upd_ne hda] at hd
      exact hd
    · have hd1 : H1 d = none := by
        rw [upd_ne hda] at hd
        exact hd
      have sm : Same H1 (upd (del H' a) d (.xd (((cF c).reverse.zip (vs ++ [])).reverse))) := fun b o e => by
        have h1 : b ≠ a := ne_of_none e hna
        have h2 : b ≠ d := ne_of_none e hd1
        rw [upd_ne h2, del_ne h1, hk b h1 h2, upd_ne h1]
        exact e
      have r2 := r1.same sm
      have ez : (((cF c).reverse.zip (vs ++ [])).reverse) = (cF c).zip vs.reverse := by
        rw [List.append_nil, zip_reverse (by rw [List.length_reverse, hn, hvl]), List.reverse_reverse]
      refine q' σ d vs.reverse _ ⟨Z, r2⟩ ?_ (by rw [List.length_reverse, hvl, hn]; exact Nat.le_refl _) (Reps.zed r2.z0 _ _ (Reps.ext (Ext.same sm) _ _ h1.rev))
      rw [upd_same, ez]
end DL
set_option Elab.async false
set_option linter.all false
set_option maxRecDepth 100000
set_option maxHeartbeats 4000000
namespace DL
open PySem PySem.Spec PyProof.Rows L2
variable [CTab]
/-! ### defs that may raise -/
theorem lsl_nil {ρ ρ' : Env} {l : List D} (h : mNil ρ = .ok l ρ') : l.length = 0 := by
  cases h
  rfl
theorem lsl_cons {n : Nat} {a : M D} {ms : M (List D)} (hm : ∀ ρ l ρ', ms ρ = .ok l ρ' → l.length = n) : ∀ ρ l ρ', mCons a ms ρ = .ok l ρ' → l.length = n + 1 := by
  intro ρ l ρ' h
  unfold mCons at h
  cases ea : a ρ with
  | fail => rw [ea] at h; cases h
  | exc x l ρ1 => rw [ea] at h; cases h
  | ok d ρ1 =>
    rw [ea] at h
    cases em : ms ρ1 with
    | fail => simp only [bindR_ok, em] at h; cases h
    | exc x l ρ1 => simp only [bindR_ok, em] at h; cases h
    | ok ds ρ2 =>
      simp only [bindR_ok, em] at h
      cases h
      simp [hm _ _ _ em]
section
variable {P : Program} {w : World} {K : PySem.W.Frag} {mg : Str → Option Value} {base : Heap} {N : List Str} {qual : Str} {scope : Scope} {f : Addr} {cd : Value} {A : Around} {outer : List PySem.Env} {s : Shared} {H : Hp} {E : XK} {k : Nat} {fd : FuncData} {ps : List Str} {n : Nat} {m : M Fl}
theorem tkX : Takes (cxOf (L2.CX P w) P w K mg base N qual scope f cd A outer s H E) fun cls d _ H => E cls d H := takes_of rfl rfl rfl rfl
theorem pX : Passes (L2.CX P w) (cxOf (L2.CX P w) P w K mg base N qual scope f cd A outer s H E) E := passes_call tkX fun _ _ _ _ h => h
/-- what raises nothing gives the same -/
theorem runF_ok {ws : List W} {d : D} {ts : List Ct} (h : runF n false m ws = .ok d ts) : runF n true m ws = .ok d ts := by
  unfold runF at h ⊢
  cases e : m (startE n ws) with
  | fail => rw [e] at h; cases h
  | exc c l ρ => rw [e] at h; simp at h
  | ok fl ρ => rw [e] at h; cases fl <;> first | exact h | cases h
theorem fn_nox {ln : Nat} (F : FnOk P w K mg base (L2.CX P w) k f fd ps (spF K n (runF ln true m))) : FnOk P w K mg base CX0 k f fd ps (spF K n (runF ln false m)) := by
  have imp : ∀ {vs : List V} {H : Hp} {Q : VK} {E : XK}, spF K n (runF ln false m) vs H Q E → spF K n (runF ln true m) vs H Q E0 := fun {vs H Q E} h => by
    obtain ⟨Z, ws, h1, h2, h3, h4, h5⟩ := h
    refine ⟨Z, ws, h1, h2, h3, h4, ?_⟩
    cases e : runF ln false m ws with
    | fail => rw [e] at h5; exact h5.elim
    | exc c l =>
      unfold runF at e
      cases e2 : m (startE ln ws) with
      | fail => rw [e2] at e; cases e
      | exc c l ρ => rw [e2] at e; simp at e
      | ok fl ρ =>
        rw [e2] at e
        have fin : ∀ d, finE d ρ ws ≠ .exc c l := fun d z => by
          unfold finE at z
          split at z <;> cases z
        cases fl with
        | nx => exact (fin _ e).elim
        | rt d => exact (fin _ e).elim
        | bk => cases e
        | ct => cases e
    | ok d ts =>
      rw [e] at h5
      rw [runF_ok e]
      exact h5
  refine ⟨fun vs H Q E h => F.len vs H Q E0 (imp h), fun A outer s H args us vs Q E hr e0 hb r h => codeAny_mono (F.run A outer s H args us vs Q E0 hr e0 hb r (imp h)) fun res s' hq => ?_⟩
  cases res with
  | error e =>
    obtain ⟨_, _, _, _, _, _, _, _, _, _, _, _, z⟩ := hq
    exact z.elim
  | ok fl => cases fl <;> exact hq
end
end DL
set_option Elab.async false
set_option linter.all false
set_option maxRecDepth 100000
set_option maxHeartbeats 4000000
namespace DL
open PySem PySem.Spec PyProof.Rows L2
/-! ### a lambda without parameters: made, known from then on, called where it was made -/
def LamO (qual : Str) (cells : List (Str × Addr)) (params : Arguments) (body : Expr) (scope : Scope) (f c' : Addr) : HO :=
  .ext fun h => ∃ pm ctv : Value, h.get? f = some (PySem.W.kla_obj "<lambda>" (qual ++ "<lambda>") params body scope (cloFrom cells scope.names []) pm c' ctv)
theorem lamO_ok {P : Program} {w : World} {H : Hp} {h : Heap} {qual : Str} {cells : List (Str × Addr)} {params : Arguments} {body : Expr} {scope : Scope} {f c' : Addr} {pm ctv : Value}
    (e : h.get? f = some (PySem.W.kla_obj "<lambda>" (qual ++ "<lambda>") params body scope (cloFrom cells scope.names []) pm c' ctv)) : ObjOk P w H h f (LamO qual cells params body scope f c') :=
  ⟨⟨pm, ctv, e⟩, ⟨_, e⟩, fun h1 h2 z k => by
    obtain ⟨p, q, z⟩ := z
    exact ⟨p, q, k _ z⟩⟩
theorem lamO_at {P : Program} {w : World} {H : Hp} {h : Heap} {qual : Str} {cells : List (Str × Addr)} {params : Arguments} {body : Expr} {scope : Scope} {f c' : Addr} (hok : HOk P w H h) (e : H f = some (LamO qual cells params body scope f c')) :
    ∃ pm ctv : Value, h.get? f = some (PySem.W.kla_obj "<lambda>" (qual ++ "<lambda>") params body scope (cloFrom cells scope.names []) pm c' ctv) := by
  have x : ObjOk P w H h f (.ext fun h => ∃ pm ctv : Value, h.get? f = some (PySem.W.kla_obj "<lambda>" (qual ++ "<lambda>") params body scope (cloFrom cells scope.names []) pm c' ctv)) := hok f _ e
  exact x.1
/-- the table behind a lambda made at pos -/
def tabPut (ps : Array Value) (pos : Pos) (c' : Addr) : Array Value := ps ++ #[rawInt pos.line, rawInt pos.col, .ref c']
def tLamN (X : Cx) (P : Addr) (params : Arguments) (body : Expr) (scope : Scope) (pos : Pos) : TE := fun _ H Q => ∃ ps, H P = some (.tbl ps) ∧ TriplesOk ps.toList ∧ codeAmong pos ps.toList = none ∧
  ∀ f c', H f = none → H c' = none → f ≠ c' → Q (.ref f) (upd (upd (upd H P (.tbl (tabPut ps pos c'))) c' (LamX.CodeO c' (X.env.qual ++ "<lambda>"))) f (LamO X.env.qual X.env.cells params body scope f c'))
section
variable {X : Cx} {c P : Addr} {params : Arguments} {body : Expr} {scope : Scope} {pos : Pos}
theorem pe_lamN (TB : LamX.TabB X.base X.mg c P) (hcode : X.env.code = .ref c) (L : LamX.LamS X.env.scope scope) (hdef : defaultsOf params X.env = ([], []) := by rfl) : PE X (.Lambda params body scope pos) (tLamN X P params body scope pos) := by
  refine ⟨fun pins s σ H Q I hq => ?_⟩
  obtain ⟨ps, hP, ht, ha, h⟩ := hq
  have hfree := L.has I.ok
  refine PySem.W.kla_eval hdef ?_
  refine PySem.W.kla_makeFunction (mg := X.mg) (c := c) (P := P) (ps := ps) (closure_ok hfree) I.ok.glob (I.mod.glob.keeps I.bk) hcode (TB.code.keeps I.bk) (I.hok P _ hP) ht ha TB.gP (TB.bm.keeps I.bk) fun c' ctv h' tk hx hge hlt hrec htb => ?_
  obtain ⟨c2, oc, vs, t, e2, hoc, hd, hv⟩ := hrec
  cases e2
  have I1 := LamX.inv_table (q := X.env.qual ++ "<lambda>") (t' := tk) (more := #[rawInt pos.line, rawInt pos.col, .ref c']) (h' := h') I hP hx htb hge ⟨oc, vs, t, hoc, hd, hv⟩
  have hsz : s.heap.objs.size ≤ h'.objs.size := Nat.le_trans hge (Nat.le_of_lt hlt)
  have nC : H c' = none := I.hok.fresh hge
  have nF : H h'.objs.size = none := I.hok.fresh hsz
  have I2 := I1.laid (t' := tk) (a := h'.objs.size) (o := LamO X.env.qual X.env.cells params body scope h'.objs.size c') (h' := h'.push (PySem.W.kla_obj "<lambda>" (X.env.qual ++ "<lambda>") params body scope (cloFrom X.env.cells scope.names []) ((X.mg "__name__").getD .none) c' ctv))
    (fun b o e => Heap.get?_push_of_some _ e) (Nat.le_refl _) (lamO_ok (Heap.get?_push_size _ rfl))
  exact ⟨.ref h'.objs.size, _, I2, rfl, h _ _ nF nC (Nat.ne_of_gt hlt)⟩
/-- a(), where slot i holds the lambda at f -/
theorem pe_lamCall {Y : Cx} {W : WX} {E : XK} {i k : Nat} {a : Str} {f c' : Addr} {tb : TE} {p1 p2 : Pos} (L : LamX.LamS Y.env.scope scope)
    (hbind : ∀ pm cv ctv : Value, bindArgs (PySem.W.kla_fn "<lambda>" (Y.env.qual ++ "<lambda>") params body scope (cloFrom Y.env.cells scope.names []) pm cv ctv) ⟨[], []⟩ = pure [])
    (tk : Takes Y W) (hr : Room (k + 1) Y.A) (hh : Y.A.handled = none)
    (hbody : ∀ (A : Around) (outer : List PySem.Env) (s : Shared) (H : Hp), Room k (A.deeper (LamX.lamEnv Y scope s.heap.objs.size f c')) → PE (LamX.lamCx Y A outer s H E scope f c') body tb)
    (hN : Y.N[i]? = some a) (hv : Vis Y.env.scope a) (hd : (a == ("__debug__" : Str)) = false := by decide) (hcd : (a == ("__classdict__" : Str)) = false := by decide) :
    PE Y (.Call (.Name a p1) [] [] p2) (fun σ H Q => (∀ cls d H', E cls d H' → W cls d σ H') ∧ σ[i]? = some (some (.ref f)) ∧ H f = some (LamO Y.env.qual Y.env.cells params body scope f c') ∧ H c' = some (LamX.CodeO c' (Y.env.qual ++ "<lambda>")) ∧ tb σ H Q) := by
  refine ⟨fun pins s σ H Q I h => ?_⟩
  obtain ⟨hW, hs, hf, hc, ht⟩ := h
  refine wpAny_Call_Name_kw (thn ((pe_var (pos := p1) (i := i) hN hv hd hcd).run pins s σ H (fun v H1 => v = .ref f ∧ H1 = H) I ⟨.ref f, hs, rfl, rfl⟩) fun u s1 ⟨v, H1, I1, r1, q1⟩ => ?_)
  obtain ⟨rfl, rfl⟩ := q1
  obtain rfl : u = Value.ref f := r1
  obtain ⟨pm, ctv, ho⟩ := lamO_at I1.hok hf
  refine PySem.W.callWith_F0 ⟨_, _, _, _, ho⟩ ?_
  obtain ⟨⟨oc, vs, t, hoc, hdc, hvc⟩, _, _⟩ := I1.hok c' _ hc
  have rc : codeAny (model Y.prog Y.w) Y.A (.call (.ref f) ⟨[], []⟩) (CR (L2.CX Y.prog Y.w) Y.stack Y.prog Y.w H1 s1 Q E) s1 := by
    refine PySem.W.kla_callFunE hr.depth ho rfl L.co L.gen rfl ⟨c', oc, vs, t, rfl, hoc, hdc, hvc⟩ ?_
    rw [hbind]
    refine wpAny_pure (wpAny_newFunctionEnv (fun y hy => (L.own y hy).2) (fun y hy => absurd hy (by simp)) (fun h₁ hns hsb => ⟨I1.nolimit.fresh _ hsb, ?_⟩) L.kind)
    show codeAny _ _ (.expr body (LamX.lamEnv Y scope s1.heap.objs.size f c')) _ _
    have kp : ∀ b o, s1.heap.get? b = some o → h₁.get? b = some o := fun b o e => hsb.extBut b o (Nat.ne_of_lt (Heap.lt_size e)) (Heap.get?_push_of_some _ e)
    have J := LamX.lam_start2 (A := Y.A) (outer := Y.stack) (E := E) (scope := scope) (f := f) (c' := c') (tk := s1.toks + ([] : List (Str × Value)).length) I1 L I1.env0 hh Un.refl hns kp
    refine PySem.W.kla_codeExpr (wpAny_mono ((hbody _ _ s1 H1 (hr.deeper _)).run [] _ _ H1 Q J ht) (fun v s' hq => ?_) fun e s' hq => hq)
    obtain ⟨w', H', J', rv, q⟩ := hq
    exact ⟨w', H', J'.os, J'.bare, J'.base, J'.hok, rv, q⟩
  refine wpAny_call (codeAny_mono rc fun r s' hq => ?_)
  cases r with
  | error e => exact tk _ _ (XE.of_call (W := fun cls d σ' H' => σ' = σ ∧ W cls d σ' H') I1 (fun cls d H' he => ⟨rfl, hW _ _ _ he⟩) hq |> fun ⟨a, B, sI, pn, σ', H', cls, d, x1, x2, x3, x4, x5, x6, x7, x8, x9⟩ => ⟨a, B, sI, pn, σ', H', cls, d, x1, x2, x3, x4, x5, x6, x7, x8, x9.2⟩)
  | ok fl =>
    cases fl with
    | ret u => exact I1.after hq
    | next => exact False.elim hq
    | brk => exact False.elim hq
    | cont => exact False.elim hq
end
end DL
set_option Elab.async false
set_option linter.all false
set_option maxRecDepth 100000
set_option maxHeartbeats 4000000
namespace DL
open PySem PySem.Spec PyProof.Rows L2
variable [CTab]
/-! ### lambdas in a row, each expected to raise -/
def zP (P0 : Addr) : Addr → Prop := fun a => a = P0
def tailC (P0 : Addr) (H0 : Hp) : Cz := ⟨fun _ => none, H0, zP P0, [], []⟩
/-- only data in the slots; the table at P0 -/
structure TRel (K : PySem.W.Frag) (P0 : Addr) (ρ : Env) (σ : St) (H : Hp) : Prop where
  len : ρ.length = σ.length
  at_ : H P0 ≠ none
  all : ∀ (i : Nat) (x : W), ρ[i]? = some (some x) → ∃ d v, x = .val d ∧ σ[i]? = some (some v) ∧ Rep K H (zP P0) d v
section
variable {K : PySem.W.Frag} {P0 : Addr} {ρ ρ' : Env} {σ : St} {H H' H0 : Hp}
theorem TRel.no (r : TRel K P0 ρ σ H) (i : Nat) : ¬ isOwn ρ i := fun ⟨t, h⟩ => by
  rcases h with h | h
  · obtain ⟨d, v, e, _⟩ := r.all i _ h
    cases e
  · obtain ⟨d, v, e, _⟩ := r.all i _ h
    cases e
theorem TRel.rel (r : TRel K P0 ρ σ H) : Rel K (tailC P0 H) (zP P0) ρ σ H where
  frame := fun a o _ e => e
  keep := fun a e => e
  base := fun a z => ⟨z, by cases z; exact r.at_⟩
  len := r.len
  dom := fun a z => by cases z; exact r.at_
  val := fun i d e => by
    obtain ⟨d', v, e1, h1, h2⟩ := r.all i _ e
    cases e1
    exact ⟨v, h1, h2⟩
  own := fun i t e => (r.no i ⟨t, .inl e⟩).elim
  inn := fun i t e => (r.no i ⟨t, .inr e⟩).elim
  inj := fun i j p hi => (r.no i hi).elim
  xs := fun q hq => by cases hq
  hd := fun q hq => by cases hq
theorem TRel.ext (r : TRel K P0 ρ σ H) (e : Ext (zP P0) H H') (h : H' P0 ≠ none) : TRel K P0 ρ σ H' :=
  ⟨r.len, h, fun i x hx => by
    obtain ⟨d, v, e1, h1, h2⟩ := r.all i x hx
    exact ⟨d, v, e1, h1, h2.ext e⟩⟩
theorem TRel.of (r : Rel K (tailC P0 H0) (zP P0) ρ σ H) (no : ∀ (i : Nat) (x : W), ρ[i]? = some (some x) → ∃ d, x = .val d) : TRel K P0 ρ σ H :=
  ⟨r.len, r.dom P0 rfl, fun i x hx => by
    obtain ⟨d, rfl⟩ := no i x hx
    obtain ⟨v, h1, h2⟩ := r.val i d hx
    exact ⟨d, v, rfl, h1, h2⟩⟩
theorem frame_all (r : Rel K (tailC P0 H0) (zP P0) ρ σ H) : ∀ a o, H0 a = some o → H a = some o := fun a o e => r.frame a o (fun i h => by cases h) e
theorem frame_ext (r : Rel K (tailC P0 H0) (zP P0) ρ σ H) : Ext (zP P0) H0 H := fun a o _ e => frame_all r a o e
/-- a slot that tells nothing takes what it will -/
theorem TRel.junk (r : TRel K P0 ρ σ H) {i : Nat} {o : Option V} (h : ρ[i]? = some none ∨ ρ[i]? = none) : TRel K P0 ρ (σ.set i o) H :=
  ⟨by rw [List.length_set]; exact r.len, r.at_, fun j x hx => by
    obtain ⟨d, v, e, h1, h2⟩ := r.all j x hx
    refine ⟨d, v, e, ?_, h2⟩
    have hj : i ≠ j := fun e => by
      subst e
      rcases h with h | h <;> rw [h] at hx <;> cases hx
    rw [List.getElem?_set_ne hj]
    exact h1⟩
theorem ext_tab {ps : Array Value} : Ext (zP P0) H (upd H P0 (.tbl ps)) := fun a o n e => by
  rw [upd_ne n]
  exact e
theorem Ext.new {Z : Addr → Prop} {a : Addr} {o : HO} (e : Ext Z H H') (h : H' a = none) : Ext Z H (upd H' a o) := e.trans (Ext.same (same_upd h))
end
/-- one pair: a lambda, the mirror of its body; what is expected of it -/
structure LamP where
  params : Arguments
  body : Expr
  scope : Scope
  lpos : Pos
  wes : List Expr
  wk : Nat
  wpos : Pos
  k : Nat
  tpos : Pos
def LamP.wx (l : LamP) : Expr := .Tuple l.wes l.wk l.wpos
def LamP.expr (l : LamP) : Expr := .Tuple [.Lambda l.params l.body l.scope l.lpos, l.wx] l.k l.tpos
def samePos (p q : Pos) : Bool := p.line == q.line && p.col == q.col
theorem among_other {p q : Pos} {c : Addr} (hpq : samePos p q = false) : ∀ (l : List Value), TriplesOk l → codeAmong q l = none → codeAmong q (l ++ [rawInt p.line, rawInt p.col, .ref c]) = none := by
  intro l
  fun_induction TriplesOk l with
  | case1 =>
    intro _ _
    show (if ((p.line : Int) == q.line && (p.col : Int) == q.col) = true then some (Value.ref c) else codeAmong q []) = none
    have e : ((p.line : Int) == q.line && (p.col : Int) == q.col) = false := by
      unfold samePos at hpq
      simp only [Bool.and_eq_false_iff, beq_eq_false_iff_ne, ne_eq] at hpq ⊢
      omega
    rw [e]
    rfl
  | case2 a t b u x r ih =>
    intro h1 h2
    simp only [codeAmong, List.cons_append] at h2 ⊢
    split at h2
    · cases h2
    · rename_i hn
      rw [if_neg hn]
      exact ih h1 h2
  | case3 l _ _ => exact fun h => h.elim
end DL
set_option Elab.async false
set_option linter.all false
set_option maxRecDepth 100000
set_option maxHeartbeats 4000000
namespace DL
open PySem PySem.Spec PyProof.Rows L2
variable [CTab]
/-- the pair stands at v -/
def LamAt (K : PySem.W.Frag) (P0 : Addr) (qual : Str) (cells : List (Str × Addr)) (H : Hp) (q : LamP × D) (v : V) : Prop :=
  ∃ t f c' u, v = .ref t ∧ t ≠ P0 ∧ H t = some (.tup [.ref f, u]) ∧ f ≠ P0 ∧ H f = some (LamO qual cells q.1.params q.1.body q.1.scope f c') ∧ c' ≠ P0 ∧ H c' = some (LamX.CodeO c' (qual ++ "<lambda>")) ∧ Rep K H (zP P0) q.2 u
theorem LamAt.ext {K : PySem.W.Frag} {P0 : Addr} {qual : Str} {cells : List (Str × Addr)} {H H' : Hp} {q : LamP × D} {v : V} (h : LamAt K P0 qual cells H q v) (e : Ext (zP P0) H H') : LamAt K P0 qual cells H' q v := by
  obtain ⟨t, f, c', u, h1, h2, h3, h4, h5, h6, h7, h8⟩ := h
  exact ⟨t, f, c', u, h1, h2, e _ _ h2 h3, h4, e _ _ h4 h5, h6, e _ _ h6 h7, h8.ext e⟩
inductive LamsAt (K : PySem.W.Frag) (P0 : Addr) (qual : Str) (cells : List (Str × Addr)) (H : Hp) : List (LamP × D) → List V → Prop where
  | nil : LamsAt K P0 qual cells H [] []
  | cons {q : LamP × D} {v : V} {l : List (LamP × D)} {vs : List V} : LamAt K P0 qual cells H q v → LamsAt K P0 qual cells H l vs → LamsAt K P0 qual cells H (q :: l) (v :: vs)
theorem LamsAt.ext {K : PySem.W.Frag} {P0 : Addr} {qual : Str} {cells : List (Str × Addr)} {H H' : Hp} {l : List (LamP × D)} {vs : List V} (h : LamsAt K P0 qual cells H l vs) (e : Ext (zP P0) H H') : LamsAt K P0 qual cells H' l vs := by
  induction h with
  | nil => exact .nil
  | cons a _ ih => exact .cons (a.ext e) ih
theorem LamsAt.len {K : PySem.W.Frag} {P0 : Addr} {qual : Str} {cells : List (Str × Addr)} {H : Hp} {l : List (LamP × D)} {vs : List V} (h : LamsAt K P0 qual cells H l vs) : l.length = vs.length := by
  induction h with
  | nil => rfl
  | cons _ _ ih => simp [ih]
theorem LamsAt.get {K : PySem.W.Frag} {P0 : Addr} {qual : Str} {cells : List (Str × Addr)} {H : Hp} {l : List (LamP × D)} {vs : List V} (h : LamsAt K P0 qual cells H l vs) : ∀ {i : Nat} {v : V}, vs[i]? = some v → ∃ q, l[i]? = some q ∧ LamAt K P0 qual cells H q v := by
  induction h with
  | nil =>
    intro i v e
    simp at e
  | @cons q v0 l vs a _ ih =>
    intro i v e
    cases i with
    | zero =>
      simp at e
      subst e
      exact ⟨q, rfl, a⟩
    | succ i =>
      obtain ⟨q', h1, h2⟩ := ih (by simpa using e)
      exact ⟨q', by simpa using h1, h2⟩
/-- the positions: new to the table, all unlike -/
def FreshP (ps : Array Value) (l : List LamP) : Prop := (∀ q ∈ l, codeAmong q.lpos ps.toList = none) ∧ l.Pairwise fun a b => samePos a.lpos b.lpos = false
def tLams (K : PySem.W.Frag) (P0 : Addr) (qual : Str) (cells : List (Str × Addr)) (its : List LamP) (ds : List D) : TA := fun σ H Q => ∃ ρ ps, TRel K P0 ρ σ H ∧ H P0 = some (.tbl ps) ∧ TriplesOk ps.toList ∧ FreshP ps its ∧
  ∀ vs H' ps', Ext (zP P0) H H' → H' P0 = some (.tbl ps') → TRel K P0 ρ σ H' → LamsAt K P0 qual cells H' (its.zip ds) vs → its.length = vs.length → Q vs H'
section
variable {X : Cx} {c P0 : Addr}
theorem pa_lams (TB : LamX.TabB X.base X.mg c P0) (hcode : X.env.code = .ref c) : ∀ (its : List LamP) (ds : List D), its.length = ds.length → (∀ q ∈ its, LamX.LamS X.env.scope q.scope ∧ defaultsOf q.params X.env = ([], [])) →
    (∀ q ∈ its.zip ds, PE X q.1.wx (tD X.K E0 (mC q.2))) → PA X (its.map LamP.expr) (tLams X.K P0 X.env.qual X.env.cells its ds)
  | [], ds, hl, _, _ => by
    refine pa_nil.imp fun σ H Q h => ?_
    obtain ⟨ρ, ps, r, hP, _, _, k⟩ := h
    cases ds with
    | nil => exact k [] H ps (fun _ _ _ e => e) hP r .nil rfl
    | cons d ds => cases hl
  | q :: its, [], hl, _, _ => by cases hl
  | q :: its, d :: ds, hl, hL, hw => by
    obtain ⟨L, hdef⟩ := hL q List.mem_cons_self
    have ih := pa_lams TB hcode its ds (by simpa using hl) (fun p hp => hL p (List.mem_cons_of_mem _ hp)) (fun p hp => hw p (List.mem_cons_of_mem _ hp))
    have hq : PE X q.wx (tD X.K E0 (mC d)) := hw (q, d) List.mem_cons_self
    have hp := pe_tup (x1 := q.k) (pos := q.tpos) (pa_cons (pe_lamN (params := q.params) (body := q.body) (pos := q.lpos) TB hcode L hdef) (pa_cons hq pa_nil))
    refine (pa_cons (e := q.expr) hp ih rfl).imp fun σ H Q h => ?_
    obtain ⟨ρ, ps, r, hP, ht, hf, k⟩ := h
    refine ⟨ps, hP, ht, hf.1 q List.mem_cons_self, fun f c' hnf hnc hne => ?_⟩
    have fP : f ≠ P0 := fun e => by rw [e, hP] at hnf; cases hnf
    have cP : c' ≠ P0 := fun e => by rw [e, hP] at hnc; cases hnc
    have e1 : Ext (zP P0) H (upd H P0 (.tbl (tabPut ps q.lpos c'))) := ext_tab
    have n1 : upd H P0 (.tbl (tabPut ps q.lpos c')) c' = none := by rw [upd_ne cP]; exact hnc
    have e2 := e1.new (o := LamX.CodeO c' (X.env.qual ++ "<lambda>")) n1
    have n2 : upd (upd H P0 (.tbl (tabPut ps q.lpos c'))) c' (LamX.CodeO c' (X.env.qual ++ "<lambda>")) f = none := by rw [upd_ne hne, upd_ne fP]; exact hnf
    have e3 := e2.new (o := LamO X.env.qual X.env.cells q.params q.body q.scope f c') n2
    have hP3 : upd (upd (upd H P0 (.tbl (tabPut ps q.lpos c'))) c' (LamX.CodeO c' (X.env.qual ++ "<lambda>"))) f (LamO X.env.qual X.env.cells q.params q.body q.scope f c') P0 = some (.tbl (tabPut ps q.lpos c')) := by
      rw [upd_ne (Ne.symm fP), upd_ne (Ne.symm cP), upd_same]
    have r3 := r.ext e3 (by rw [hP3]; simp)
    refine ⟨tailC P0 _, zP P0, ρ, r3.rel, fun u H4 r4 e4 hu => ?_⟩
    have hP4 : H4 P0 = some (.tbl (tabPut ps q.lpos c')) := frame_all r4 _ _ hP3
    refine ⟨by show 2 ≤ sizeLine; rw [sizeLine_eq]; decide, fun t hnt => ?_⟩
    have tP : t ≠ P0 := fun e => by rw [e, hP4] at hnt; cases hnt
    have e5 : Ext (zP P0) H4 (upd H4 t (.tup [.ref f, u])) := Ext.same (same_upd hnt)
    have e04 : Ext (zP P0) H H4 := e3.trans (frame_ext r4)
    have hP5 : upd H4 t (.tup [.ref f, u]) P0 = some (.tbl (tabPut ps q.lpos c')) := by rw [upd_ne (Ne.symm tP)]; exact hP4
    have r5 := r.ext (e04.trans e5) (by rw [hP5]; simp)
    refine ⟨ρ, _, r5, hP5, by unfold tabPut; rw [Array.toList_append]; exact PySem.TriplesOk_snoc _ _ _ _ ht, ⟨fun p hp => ?_, (List.pairwise_cons.mp hf.2).2⟩, fun vs H' ps' e6 hP6 r6 l6 hl6 => ?_⟩
    · unfold tabPut
      rw [Array.toList_append]
      exact among_other ((List.pairwise_cons.mp hf.2).1 p hp) _ ht (hf.1 p (List.mem_cons_of_mem _ hp))
    · refine k _ _ ps' ((e04.trans e5).trans e6) hP6 r6 (.cons ?_ l6) (by simp [hl6])
      have a1 : LamAt X.K P0 X.env.qual X.env.cells (upd H4 t (.tup [.ref f, u])) (q, d) (.ref t) :=
        ⟨t, f, c', u, rfl, tP, upd_same, fP, e5 _ _ fP (frame_all r4 _ _ upd_same), cP, e5 _ _ cP (frame_all r4 _ _ (by rw [upd_ne (Ne.symm hne), upd_same])), hu.ext e5⟩
      exact a1.ext e6
end
end DL
set_option Elab.async false
set_option linter.all false
set_option maxRecDepth 100000
set_option maxHeartbeats 4000000
namespace DL
open PySem PySem.Spec PyProof.Rows L2
variable [CTab]
/-- an exception class with two fields that is caught by its own name -/
structure Catch (K : PySem.W.Frag) (mg : Str → Option Value) (cb : Nat) (f1 f2 : Str) : Prop where
  mg : mg (cN cb) = some (.ref (He.ga K (cN cb)))
  ex : PySem.W.exmOne K (.ref (He.ga K (cN cb))) (.ref (He.ga K (cN cb))) = some true
  xf : XfC K (He.ga K (cN cb))
  n1 : PySem.W.findIn K (.ref (He.ga K (cN cb))) f1 = some none
  n2 : PySem.W.findIn K (.ref (He.ga K (cN cb))) f2 = some none
  fs : cF cb = [f2, f1]
  ne : f1 ≠ f2
abbrev LamM : Type := LamP × (D × M D)
/-- what each lambda has to raise -/
def RaisesAs (cb : Nat) (ρ : Env) (q : LamM) : Prop := ∃ a b, q.2.2 ρ = .exc cb [b, a] ρ ∧ dNe (.tup [a, b]) q.2.1 = some (.bl false)
def tFaults (K : PySem.W.Frag) (P0 : Addr) (cb : Nat) (i1 i2 i3 : Nat) (L : List LamM) : TS := fun Dn σ H => ∃ ρ ps, TRel K P0 ρ σ H ∧ H P0 = some (.tbl ps) ∧ TriplesOk ps.toList ∧ FreshP ps (L.map (·.1)) ∧
  (ρ[i1]? = some none ∧ ρ[i2]? = some none ∧ ρ[i3]? = some none ∧ i1 ≠ i2 ∧ i3 ≠ i1 ∧ i3 ≠ i2) ∧ (∀ q ∈ L, RaisesAs cb ρ q) ∧ ∀ σ' H' ps', H' P0 = some (.tbl ps') → TRel K P0 ρ σ' H' → Dn.nx σ' H'
def tTryF (X : Cx) (i1 : Nat) (L : List LamM) (W : WX) : TS := fun Dn σ H => ∃ q ∈ L, ∃ (f c' : Addr) (E : XK), (∀ cls d H', E cls d H' → W cls d σ H') ∧ σ[i1]? = some (some (.ref f)) ∧ H f = some (LamO X.env.qual X.env.cells q.1.params q.1.body q.1.scope f c') ∧
  H c' = some (LamX.CodeO c' (X.env.qual ++ "<lambda>")) ∧ tD X.K E q.2.2 σ H fun _ H1 => Dn.rt (.bl false) H1
section
variable {X : Cx} {c P0 : Addr} {cb i1 i2 i3 k j1 j2 k0 k1 k2 : Nat} {dn wn fn xn f1 f2 : Str} {L : List LamM} {p1 p2 p3 p4 p5 p6 p7 p8 p9 p10 p11 p12 p13 p14 p15 p16 p17 p18 p19 p20 p21 p22 p23 : Pos}
theorem body_try {pn : List (Addr × Obj)} {xe : Value → Shared → Prop} {W : WX} (hc : X.calm = true) (tk : Takes (X.tr pn xe) W) (hr : Room (k + 1) X.A) (hL : ∀ q ∈ L, LamX.LamS X.env.scope q.1.scope)
    (hbind : ∀ q ∈ L, ∀ pm cv ctv : Value, bindArgs (PySem.W.kla_fn "<lambda>" (X.env.qual ++ "<lambda>") q.1.params q.1.body q.1.scope (cloFrom X.env.cells q.1.scope.names []) pm cv ctv) ⟨[], []⟩ = pure [])
    (hbody : ∀ q ∈ L, ∀ (A : Around) (outer : List PySem.Env) (s : Shared) (H : Hp) (E : XK) (f c' : Addr), Room k (A.deeper (LamX.lamEnv X q.1.scope s.heap.objs.size f c')) → PE (LamX.lamCx X A outer s H E q.1.scope f c') q.1.body (tD X.K E q.2.2))
    (hN : X.N[i1]? = some dn) (hv : Vis X.env.scope dn) (hd : (dn == ("__debug__" : Str)) = false) (hcd : (dn == ("__classdict__" : Str)) = false) :
    PSs (X.tr pn xe) [.Expr (.Call (.Name dn p5) [] [] p6) p7, .Return (some (.Constant (.bool false) j1 p8)) p9] (tTryF X i1 L W) := by
  refine ⟨fun pins s σ H Dn I h => ?_⟩
  obtain ⟨q, hq, f, c', E, hW, hs, hf, hcc, ht⟩ := h
  exact (pss_cons (ps_expr (pe_lamCall (Y := X.tr pn xe) (E := E) (k := k) (i := i1) (hL q hq) (hbind q hq) tk hr (I.ok.hd hc) (fun A outer s H hr => hbody q hq A outer s H E f c' hr) hN hv hd hcd)) (pss_one (ps_ret pe_bl))).run pins s σ H Dn I ⟨hW, hs, hf, hcc, ht⟩
end
end DL
set_option Elab.async false
set_option linter.all false
set_option maxRecDepth 100000
set_option maxHeartbeats 4000000
namespace DL
open PySem PySem.Spec PyProof.Rows L2
variable [CTab]
def faultsIter (L : List LamM) (k1 : Nat) (p4 : Pos) : Expr := .Tuple ((L.map (·.1)).map LamP.expr) k1 p4
def tSuite (K : PySem.W.Frag) (C : Addr) (f1 f2 : Str) (i2 i3 : Nat) (a : Addr) (cls : Value) (d : Option Addr) : TS :=
  tIfS (tTest (tOp (fun x y H Q => rNe x y H Q ∨ rNeD K x y H Q) (tTup (tCons (tXf a cls d C f1 (tVar i3)) (tCons (tXf a cls d C f2 (tVar i3)) tNil))) (tVar i2))) (tRet (tC (.bl false))) tNext
theorem lk2 {f1 f2 : Str} (ne : f1 ≠ f2) (x y : V) : ([f2, f1].zip [y, x]).lookup f1 = some x ∧ ([f2, f1].zip [y, x]).lookup f2 = some y := by
  have e : (f1 == f2) = false := by simpa using ne
  constructor
  · simp [List.lookup, e]
  · simp [List.lookup]
section
variable {X : Cx} {c P0 : Addr} {cb i1 i2 i3 k j1 j2 k0 k1 k2 : Nat} {dn wn fn xn f1 f2 : Str} {L : List LamM} {p1 p2 p3 p4 p5 p6 p7 p8 p9 p10 p11 p12 p13 p14 p15 p16 p17 p18 p19 p20 p21 p22 p23 : Pos}
/-- the suite: the fields are as expected -/
theorem suite_ok {K : PySem.W.Frag} {mg : Str → Option Value} {ρ : Env} {σ : St} {H : Hp} {Dn : Ends} {a ed : Addr} {us : List V} {x y d : D} {u : V} (B : Catch K mg cb f1 f2) (r : TRel K P0 ρ σ H) (h3 : σ[i3]? = some (some (.ref a))) (h2 : σ[i2]? = some (some u)) (hd : Rep K H (zP P0) d u)
    (hed : H ed = some (.xd ((cF cb).zip us))) (hl : us.length ≤ (cF cb).length) (hu : Reps K H (zP P0) [y, x] us) (hne : dNe (.tup [x, y]) d = some (.bl false)) (hn : ∀ H', Same H H' → Dn.nx σ H') :
    tSuite K (He.ga K (cN cb)) f1 f2 i2 i3 a (.ref (He.ga K (cN cb))) (some ed) Dn σ H := by
  obtain ⟨v2, r2, e2, h5, h6⟩ := hu.inv
  obtain ⟨v1, r1, e1, h7, h8⟩ := h6.inv
  have e0 : r1 = [] := h8
  subst e0 e1 e2
  obtain ⟨k1, k2⟩ := lk2 B.ne v1 v2
  rw [B.fs] at hed
  refine ⟨.ref a, h3, rfl, rfl, ed, _, v1, rfl, hed, k1, .ref a, h3, rfl, rfl, ed, _, v2, rfl, hed, k2, by show 2 ≤ sizeLine; rw [sizeLine_eq]; decide, fun p hp => ⟨u, h2, ?_⟩⟩
  have sm : Same H (upd H p (.tup [v1, v2])) := same_upd hp
  have nP : p ≠ P0 := fun e => r.at_ (by rw [← e]; exact hp)
  have rt : Rep K (upd H p (.tup [v1, v2])) (zP P0) (.tup [x, y]) (.ref p) := by
    simp only [Rep]
    exact ⟨p, [v1, v2], rfl, .inl ⟨nP, .inl upd_same⟩, Reps.cons (h7.ext (Ext.same sm)) (Reps.cons (h5.ext (Ext.same sm)) Reps.nil)⟩
  refine ne_opD _ (zP P0) _ _ _ _ _ _ (fun q hq => ?_) rt (hd.ext (Ext.same sm)) hne fun v H' s' hv => ⟨false, hv, ?_⟩
  · cases hq
    rw [upd_ne (Ne.symm nP)]
    exact r.at_
  · exact hn H' (sm.trans s')
theorem ps_faults (hs : X.stack = X.env :: X.outer) (hf : X.env.frame = some X.env.locals) (hc : X.calm = true) (hp : PassesOwn (model X.prog X.w) X.A X.env X.xe) (tk : Takes X fun _ _ _ _ => False) (TB : LamX.TabB X.base X.mg c P0) (hcode : X.env.code = .ref c) (B : Catch X.K X.mg cb f1 f2) (hxn : xn = cN cb) (hr : Room (k + 1) X.A)
    (hND : X.N.Nodup) (hN1 : X.N[i1]? = some dn) (hN2 : X.N[i2]? = some wn) (hN3 : X.N[i3]? = some fn) (l1 : X.env.scope.names.lookup dn = some .local) (l2 : X.env.scope.names.lookup wn = some .local) (l3 : X.env.scope.names.lookup fn = some .local) (hg : Gl X xn)
    (hL : ∀ q ∈ L, LamX.LamS X.env.scope q.1.scope ∧ defaultsOf q.1.params X.env = ([], []))
    (hbind : ∀ q ∈ L, ∀ pm cv ctv : Value, bindArgs (PySem.W.kla_fn "<lambda>" (X.env.qual ++ "<lambda>") q.1.params q.1.body q.1.scope (cloFrom X.env.cells q.1.scope.names []) pm cv ctv) ⟨[], []⟩ = pure [])
    (hw : ∀ q ∈ L, PE X q.1.wx (tD X.K E0 (mC q.2.1)))
    (hbody : ∀ q ∈ L, ∀ (A : Around) (outer : List PySem.Env) (s : Shared) (H : Hp) (E : XK) (f c' : Addr), Room k (A.deeper (LamX.lamEnv X q.1.scope s.heap.objs.size f c')) → PE (LamX.lamCx X A outer s H E q.1.scope f c') q.1.body (tD X.K E q.2.2))
    (ndb : ∀ y ∈ [dn, wn, fn, xn], (y == ("__debug__" : Str)) = false ∧ (y == ("__classdict__" : Str)) = false)
    (hfs : ∀ x, foldedSetIterable (faultsIter L k1 p4) X.env x = pure x) (hll : L.length ≤ sizeLine) :
    PS X (.For (.Tuple [.Name dn p1, .Name wn p2] k0 p3) (faultsIter L k1 p4) [.Try [.Expr (.Call (.Name dn p5) [] [] p6) p7, .Return (some (.Constant (.bool false) j1 p8)) p9] [.ExceptHandler (some (.Name xn p10)) (some fn)
      [.If (.Compare (.Tuple [.Attribute (.Name fn p11) f1 p12, .Attribute (.Name fn p13) f2 p14] k2 p15) [.NotEq] [.Name wn p16] p17) [.Return (some (.Constant (.bool false) j2 p18)) p19] [] p20] p21] [] [] p22] [] p23) (tFaults X.K P0 cb i1 i2 i3 L) := by
  subst hxn
  have v1 : Vis X.env.scope dn := .inl l1
  have v2 : Vis X.env.scope wn := .inl l2
  have v3 : Vis X.env.scope fn := .inl l3
  have hit := pe_tup (x1 := k1) (pos := p4) (pa_lams (X := X) TB hcode (L.map (·.1)) (L.map (·.2.1)) (by simp) (fun q hq => by obtain ⟨m, hm, rfl⟩ := List.mem_map.mp hq; exact hL m hm) (fun q hq => by
    rw [List.zip_map'] at hq
    obtain ⟨m, hm, rfl⟩ := List.mem_map.mp hq
    exact hw m hm))
  have hset := fun (a : Addr) (oe : Obj) (cls : Value) (d : Option Addr) (pn : List (Addr × Obj)) (hz : Zc cls d oe) (hx : ∃ vs, oe.data = .fields vs) =>
    pss_one (ps_if (pos := p20) (pt_cmpR (X := X.suite a ((a, oe) :: pn)) (pos := p17) (op_ne.or (op_neD (show X.A.units + 64 < cLine from hr.units)))
      (pe_tup (x1 := k2) (pos := p15) (pa_cons (pe_xf (pos := p12) B.xf B.n1 hz hx (pe_var (pos := p11) (i := i3) hN3 v3 (ndb fn (by simp)).1 (ndb fn (by simp)).2)) (pa_cons (pe_xf (pos := p14) B.xf B.n2 hz hx (pe_var (pos := p13) (i := i3) hN3 v3 (ndb fn (by simp)).1 (ndb fn (by simp)).2)) pa_nil)))
      (pe_var (pos := p16) (i := i2) hN2 v2 (ndb wn (by simp)).1 (ndb wn (by simp)).2) (nomark _)) (pss_one (ps_ret (pos := p19) (pe_bl (b := false) (j := j2) (pos := p18)))) pss_nil)
  have htry := ps_try_as (X := X) (i := i3) (n := fn) (x := cN cb) (c := .ref (He.ga X.K (cN cb))) (np := p10) (pos := p22) (pos' := p21) (Wout := fun _ _ _ _ => False) (ts := fun a cls d => tSuite X.K (He.ga X.K (cN cb)) f1 f2 i2 i3 a cls d) (tb := tTryF X i1 L) hs hf hND hN3 l3 ⟨hg, (ndb _ (by simp)).1, .inl B.mg⟩ tk
    (fun W pn xe tk' _ => body_try (p5 := p5) (p6 := p6) (p7 := p7) (p8 := p8) (p9 := p9) (j1 := j1) hc tk' hr (fun q hq => (hL q hq).1) hbind hbody hN1 v1 (ndb dn (by simp)).1 (ndb dn (by simp)).2) hset
  refine (ps_for (pos := p23) hp hc (pi_tup hit) (pg_tup (k := k0) (pos := p3) (n := 2) hc (pgs_cons (pg_name (pos := p1) hND hN1 (.inl l1) (.inr l1)) (pgs_cons (pg_name (pos := p2) hND hN2 (.inl l2) (.inr l2)) pgs_nil))) (pss_one htry) hfs).imp fun Dn σ H h => ?_
  obtain ⟨ρ, ps, r, hP, ht, hfr, ⟨z1, z2, z3, z4, z5, z6⟩, hx, kn⟩ := h
  refine ⟨ρ, ps, r, hP, ht, hfr, fun vs H1 ps1 e1 hP1 r1 l1' hl1 => ⟨by rw [← hl1]; simpa using hll, fun T hT => ⟨T, rfl, ⟨vs, .of upd_same⟩, ?_⟩⟩⟩
  have TP : T ≠ P0 := fun e => by rw [e, hP1] at hT; cases hT
  have sT : Same H1 (upd H1 T (.tup vs)) := same_upd hT
  have hP2 : upd H1 T (.tup vs) P0 = some (.tbl ps1) := sT _ _ hP1
  have LA := l1'.ext (Ext.same (Z := zP P0) sT)
  refine for_tup (K := X.K) (a := T) (xs := vs) (g := gTup X.K 2 (gCons (gName i1) (gCons (gName i2) gNil))) (tb := fun D σ H => tTryF X i1 L (wAs X.K (.ref (He.ga X.K (cN cb))) i3 (fun a cls d => tSuite X.K (He.ga X.K (cN cb)) f1 f2 i2 i3 a cls d) (fun _ _ _ _ => False) D) D σ H) (fun i σ' H' => TRel X.K P0 ρ σ' H' ∧ ∀ b o, upd H1 T (.tup vs) b = some o → H' b = some o) ⟨r1.ext (Ext.same sT) (by rw [hP2]; simp), fun _ _ e => e⟩ (fun i σ' H' _ q => .of (q.2 _ _ upd_same)) (fun i x σ' H' hxi q => ?_) fun σ' H' q => kn σ' H' ps1 (q.2 _ _ hP2) q.1
  obtain ⟨q1, q2⟩ := q
  have q2' : Ext (zP P0) (upd H1 T (.tup vs)) H' := fun b o _ e => q2 b o e
  obtain ⟨it, hit', t, f, c', u, rfl, t1, t2, t3, t4, t5, t6, t7⟩ := (LA.ext q2').get hxi
  obtain ⟨lm, hlm, rfl⟩ : ∃ lm ∈ L, it = (lm.1, lm.2.1) := by
    rw [List.zip_map'] at hit'
    obtain ⟨m, hm, e⟩ := List.mem_map.mp (List.mem_of_getElem? hit')
    exact ⟨m, hm, e.symm⟩
  refine ⟨t, [.ref f, u], rfl, .of t2, rfl, .ref f, [u], rfl, u, [], rfl, rfl, ?_⟩
  have lσ : ρ.length = σ'.length := q1.len
  have b1 : i1 < σ'.length := by rw [← lσ]; exact (List.getElem?_eq_some_iff.mp z1).1
  have b2 : i2 < σ'.length := by rw [← lσ]; exact (List.getElem?_eq_some_iff.mp z2).1
  have b3 : i3 < σ'.length := by rw [← lσ]; exact (List.getElem?_eq_some_iff.mp z3).1
  have q4 := (q1.junk (i := i1) (o := some (.ref f)) (.inl z1)).junk (i := i2) (o := some u) (.inl z2)
  obtain ⟨xa, xb, hm, hne⟩ := hx lm hlm
  have s1 : ((σ'.set i1 (some (V.ref f))).set i2 (some u))[i1]? = some (some (.ref f)) := by rw [List.getElem?_set_ne (Ne.symm z4), List.getElem?_set_self b1]
  have s2 : ((σ'.set i1 (some (V.ref f))).set i2 (some u))[i2]? = some (some u) := by rw [List.getElem?_set_self (by simpa using b2)]
  refine ⟨lm, hlm, f, c', fun cls d Hx => ∃ (ed : Addr) (us : List V), cls = .ref (He.ga X.K (cN cb)) ∧ d = some ed ∧ TRel X.K P0 ρ ((σ'.set i1 (some (V.ref f))).set i2 (some u)) Hx ∧ (∀ b o, H' b = some o → Hx b = some o) ∧ Hx ed = some (.xd ((cF cb).zip us)) ∧ us.length ≤ (cF cb).length ∧ Reps X.K Hx (zP P0) [xb, xa] us, ?_, s1, t4, t6, ?_⟩
  · rintro cls d Hx ⟨ed, us, rfl, rfl, g1, g2, g3, g4, g5⟩
    refine ⟨true, B.ex, fun _ a hna => ?_, fun z => by cases z⟩
    have g6 := g1.junk (i := i3) (o := some (.ref a)) (.inl z3)
    refine suite_ok B g6 (by rw [List.getElem?_set_self (by simpa using b3)]) (by rw [List.getElem?_set_ne z6]; exact s2) (t7.ext fun b o n e => g2 b o e) g3 g4 g5 hne fun H'' s'' => ⟨?_, fun b o e => s'' _ _ (g2 _ _ (q2 b o e))⟩
    exact (g6.junk (i := i3) (o := none) (.inl z3)).ext (Ext.same s'') (fun z => by cases q : Hx P0 with | none => exact g6.at_ q | some o => rw [s'' _ _ q] at z; cases z)
  · refine ⟨tailC P0 H', zP P0, ρ, q4.rel, ?_⟩
    rw [hm]
    intro ed us Hx g1 g2 g3 g4 g5
    exact ⟨ed, us, rfl, rfl, .of g1 (fun i x hx => by obtain ⟨d, v, e, _⟩ := q4.all i x hx; exact ⟨d, e⟩), frame_all g1, g3, g4, g5⟩
end
end DL
set_option Elab.async false
set_option linter.all false
set_option maxRecDepth 100000
set_option maxHeartbeats 4000000
namespace DL
open PySem PySem.Spec PyProof.Rows L2
/-! ### the end where the law makes lambdas -/
theorem walk_ofTE {l : PySem.W.OpenLaw} {n k : Nat} {q : Program} {loose : List Str} {XP : (Str → Option Value) → Heap → Prop} {YP : World → Heap → Prop} {d : DefRec} {x : Str}
    (hn : l.most = some n) (hn2 : n ≤ sizeLine) (hdf : d.params.defaults = []) (hr : Room k callerA)
    (F : ∀ (w : World) (mg : Str → Option Value) (fa : Addr) (h : Heap), YP w h → h.Ns mainGlobals mg → mg d.name = some (.ref fa) → ∃ K : PySem.W.Frag, K.In h ∧ LamX.LawAtS l w K CX0 k n x mg fa h) :
    PySem.W.WalkO q loose XP YP l.row.toRowW d [] (fun f vs => PySem.call f vs) := by
  refine Att.attach_callB hn hdf fun w s₀ s₁ mg mb fa o pm cd doc a vs ns G Y ho hd hcd hmg hobj hints hlen hbits hg => ?_
  obtain ⟨K, KX, fd, cs, sp, hT, nT, C, hb, hsp, hF⟩ := F w mg fa _ Y G.T.g hmg
  exact LamX.law_callTs KX G.T.g G.T.b G.T.builtins G.T.nolimit hg hT nT C G.T.bmain hobj hints (Nat.le_trans hlen hn2) hr hF hb (fun H hH hS => hsp H a ns hlen hbits hH hS) fun H e s' z => z
variable [CTab]
def spLaw (K : PySem.W.Frag) (P0 : Addr) : Sp := fun vs H Q _ => ∃ (a : Addr) (ns : List Int), vs = [.ref a] ∧ SqL K H a (ns.map V.int) ∧ ns.length ≤ 63 ∧ H P0 = some (.tbl #[]) ∧ ∀ H', Q (.bl true) H'
theorem TRel.none {K : PySem.W.Frag} {P0 : Addr} {σ : St} {H : Hp} (n : Nat) (hl : σ.length = n) (h : H P0 ≠ none) : TRel K P0 (List.replicate n none) σ H :=
  ⟨by simp [hl], h, fun i x hx => by
    rw [List.getElem?_replicate] at hx
    split at hx <;> cases hx⟩
/-- what stands behind a statement that ran over data -/
theorem TRel.ofS {K : PySem.W.Frag} {P0 : Addr} {ρ : Env} {σ : St} {H H0 : Hp} (r : RelS K (tailC P0 H0) ρ σ H) (no : ∀ (i : Nat) (x : W), ρ[i]? = some (some x) → ∃ d, x = .val d) : TRel K P0 ρ σ H := by
  obtain ⟨Z, r⟩ := r
  refine ⟨r.len, fun z => r.dom P0 (r.base P0 rfl).1 z, fun i x hx => ?_⟩
  obtain ⟨d, rfl⟩ := no i x hx
  obtain ⟨v, h1, h2⟩ := r.val i d hx
  exact ⟨d, v, rfl, h1, h2.zed r.z0⟩
theorem reps_ints' {K : PySem.W.Frag} {H : Hp} {Z : Addr → Prop} : ∀ ns : List Int, Reps K H Z (ns.map D.int) (ns.map V.int)
  | [] => Reps.nil
  | n :: ns => Reps.cons (show V.int n = V.int n from rfl) (reps_ints' ns)
section
variable {P : Program} {w : World} {K : PySem.W.Frag} {mg : Str → Option Value} {base : Heap} {x qual : Str} {params : Arguments} {scope : Scope} {f c P0 : Addr} {fd : FuncData} {N : List Str} {k : Nat} {m1 m2 : M Fl} {st1 st2 : Stmt} {tail : List Stmt} {u : TS}
/-- the law: two statements over data, then a tail of its own -/
theorem law_ok {dvs : List V} {kws : List (Str × V)} (F : FunD K x qual params (st1 :: st2 :: tail) scope dvs kws f fd) (hcode : fd.code = .ref c) (S : FnScope N ["script"] scope)
    (h1 : ∀ (A : Around) (outer : List PySem.Env) (s : Shared) (H : Hp) (E : XK), Room k (A.deeper (envOfC qual scope s.heap.objs.size f (.ref c))) → PS (cxOf CX0 P w K mg base N qual scope f (.ref c) A outer s H E).nox st1 (tS K E0 m1))
    (h2 : ∀ (A : Around) (outer : List PySem.Env) (s : Shared) (H : Hp) (E : XK), Room k (A.deeper (envOfC qual scope s.heap.objs.size f (.ref c))) → PS (cxOf CX0 P w K mg base N qual scope f (.ref c) A outer s H E).nox st2 (tS K E0 m2))
    (ht : ∀ (A : Around) (outer : List PySem.Env) (s : Shared) (H : Hp) (E : XK), Room k (A.deeper (envOfC qual scope s.heap.objs.size f (.ref c))) → PSs (cxOf CX0 P w K mg base N qual scope f (.ref c) A outer s H E).nox tail u)
    (hm : ∀ ns : List Int, ns.length ≤ 63 → ∃ ρ1 ρ2, m1 (startE N.length [.val (.rol (ns.map D.int))]) = .ok .nx ρ1 ∧ m2 ρ1 = .ok .nx ρ2 ∧ ρ2.length = N.length)
    (hu : ∀ (σ : St) (H : Hp) (Dn : Ends), σ.length = N.length → H P0 = some (.tbl #[]) → (∀ H', Dn.rt (.bl true) H') → u Dn σ H) :
    FnOk P w K mg base CX0 (k + 1) f fd ["script"] (spLaw K P0) := by
  obtain ⟨oc, od, dV, kV, doc, pm, an, cdv, ct, osl, rfl, lk, hcd, _, _⟩ := F.ex
  cases (show cdv = Value.ref c from hcode)
  refine fn_of lk hcd S (fun vs H Q E h => by obtain ⟨a, ns, rfl, _⟩ := h; rfl) fun A outer s H vs Q E hr h => ?_
  refine ⟨_, PSs.nox (pss_cons (h1 A outer s H E hr) (pss_cons (h2 A outer s H E hr) (ht A outer s H E hr))), ?_⟩
  obtain ⟨a, ns, rfl, hS, hl, hP, hQ⟩ := h
  obtain ⟨ρ1, ρ2, e1, e2, e3⟩ := hm ns hl
  have hi : inAd [W.val (.rol (ns.map D.int))] [V.ref a] = [] := by simp [inAd]
  have hrep : RepWs K H (fun _ => False) [.val (.rol (ns.map D.int))] [.ref a] := ⟨.ref a, [], rfl, by
    show Rep K H _ (.rol _) (.ref a)
    simp only [Rep]
    exact ⟨a, _, rfl, hS.elim (fun z => .inl ⟨fun z => z, z⟩) .inr, reps_ints' ns⟩, rfl⟩
  have r0 : RelS K (startCz [.val (.rol (ns.map D.int))] [.ref a] H fun _ => False) (startE N.length [.val (.rol (ns.map D.int))]) (L2.start N [.ref a]) H := ⟨_, rel_start (fun _ z => z.elim) hrep (by rw [hi]; exact .nil)⟩
  refine ⟨_, _, r0, ?_⟩
  rw [e1]
  intro σ1 H1 r1
  refine ⟨_, _, r1, ?_⟩
  rw [e2]
  intro σ2 H2 r2
  obtain ⟨Z2, r2⟩ := r2
  refine hu σ2 H2 _ (by rw [← r2.len]; exact e3) (r2.frame _ _ (fun i hi => ?_) hP) fun H' => hQ H'
  have z := inP_mem (show inP [W.val (.rol (ns.map D.int))] [V.ref a] i = some P0 from hi)
  simp [inAd] at z
end
end DL
set_option Elab.async false
set_option linter.all false
set_option maxRecDepth 100000
set_option maxHeartbeats 4000000
namespace DL
open PySem PySem.Spec PyProof.Rows L2
/-! ### the head's facts of exception classes -/
abbrev FnC : Type := Option (Str × Str × Arguments × FuncBody × Scope × Addr × List Str × Addr)
def fnC (K : PySem.W.Frag) (p : Str × Option Str) : FnC := match K.lookup (He.fAd K p) with
  | some ⟨_, _, .func fd, _⟩ => some (fd.name, fd.qualname, fd.params, fd.body, fd.scope, fd.globals, fd.closure.map (·.1), fd.builtins)
  | _ => none
def valC (d : He.DefD) : FnC := some (d.name, d.qual, d.params, .stmts d.body, d.scope, mainGlobals, [("__class__" : Str)], builtinsNs)
/-- its cell holds the class; its code object names the file -/
def cellB (K : PySem.W.Frag) (file : Str) (d : He.DefD) : Bool := match K.lookup (He.fAd K d.at_) with
  | some ⟨_, _, .func fd, _⟩ => PySem.W.codeIn K fd.code d.qual && (decide (fd.defaults = .none) && ((match fd.closure with
      | [(_, cc)] => (match K.lookup cc with
        | some ⟨_, _, .cell (some (.ref D)), _⟩ => decide (D = He.ga K d.at_.1)
        | _ => false)
      | _ => false) && (match fd.code with
      | .ref cda => (match K.lookup cda with
        | some ⟨_, _, .fields vs, _⟩ => (match (vs[2]? : Option Value) with
          | some (.str fl _) => decide (fl = file)
          | _ => false)
        | _ => false)
      | _ => false)))
  | _ => false
theorem funC_of {K : PySem.W.Frag} {P : Program} {file : Str} {d : He.DefD} (e : fnC K d.at_ = valC d) (c : cellB K file d = true) (hP : P.main.file = file) (ht : (P.main.scope.names.lookup ("super" : Str)).isSome = false) :
    ∃ fd, FunC K P d.name d.qual d.params d.body d.scope (He.ga K d.at_.1) (He.fAd K d.at_) fd := by
  unfold fnC at e
  unfold cellB at c
  cases q : K.lookup (He.fAd K d.at_) with
  | none =>
    rw [q] at c
    cases c
  | some o =>
    obtain ⟨oc, od, dt, osl⟩ := o
    rw [q] at c e
    cases dt with
    | func fd =>
      obtain ⟨n1, n2, n3, n4, n5, n6, n7, n8, n9, n10, n11, n12, n13, n14, n15⟩ := fd
      have e2 : (some (n1, n2, n3, n4, n5, n6, n7.map (·.1), n15) : FnC) = some (d.name, d.qual, d.params, FuncBody.stmts d.body, d.scope, mainGlobals, [("__class__" : Str)], builtinsNs) := e
      simp only [Option.some.injEq, Prod.mk.injEq] at e2
      obtain ⟨h1, h2, h3, h4, h5, h6, h7, h8⟩ := e2
      subst h1 h2 h3 h4 h5 h6 h8
      dsimp only at c
      obtain ⟨c1, c⟩ := He.ba c
      obtain ⟨c2, c⟩ := He.ba c
      obtain ⟨c3, c4⟩ := He.ba c
      have e8 : n8 = .none := of_decide_eq_true c2
      subst e8
      match n7, h7, c3 with
      | [(y, cc)], h7, c3 =>
        have e7 : y = "__class__" := by simpa using h7
        subst e7
        dsimp only at c3
        cases n13 with
        | ref cda =>
          dsimp only at c4
          split at c3
          · rename_i ccl ccd D ccs hcc
            have eD := of_decide_eq_true c3
            subst eD
            split at c4
            · rename_i kcl kcd vs kcs hcda
              split at c4
              · rename_i fl tf hfl
                have ef := of_decide_eq_true c4
                subst ef
                exact ⟨_, ⟨oc, od, n9, n10, n11, n12, cda, n14, osl, cc, ccl, ccd, ccs, kcl, kcd, vs, kcs, fl, tf, rfl, q, c1, hcc, hcda, hfl, by rw [hP]; exact beq_self_eq_true _⟩, ht⟩
              · cases c4
            · cases c4
          · cases c3
        | _ => cases c4
    | _ => cases c
/-- the class -/
def oexB (K : PySem.W.Frag) (C : Addr) : Bool := (match K.lookup C with
  | some ⟨.type t, _, .cls cd, sl⟩ => (match cd.mro, sl.toList with
    | .ref C' :: bm, [_, _, _, _, some (.builtin n), _] => decide (t = "type") && (decide (C' = C) && (decide (n = "ValueError.__new__") && (!cd.hasDel && (cd.hasDict && PySem.HandSPX.refsVE bm))))
    | _, _ => false)
  | _ => false) && (decide (PySem.W.findIn K (.ref C) "__setattr__" = some (some (.builtin "object.__setattr__"))) && (decide (PySem.W.subIn K (.ref C) (.type "BaseException") = some true) && (decide (PySem.W.typeIn K (.ref C) = some (.type "type")) && PySem.W.keepIn K (.ref C))))
theorem oexB_ok {K : PySem.W.Frag} {C : Addr} (h : oexB K C = true) : OexC K C := by
  unfold oexB at h
  obtain ⟨h0, h⟩ := He.ba h
  obtain ⟨h1, h⟩ := He.ba h
  obtain ⟨h2, h⟩ := He.ba h
  obtain ⟨h3, h4⟩ := He.ba h
  refine ⟨?_, of_decide_eq_true h1, of_decide_eq_true h2, of_decide_eq_true h3, h4⟩
  split at h0
  · rename_i t dd cd sl ho
    split at h0
    · rename_i C' bm k0 k1 k2 k3 n k5 hm hs
      obtain ⟨g1, h0⟩ := He.ba h0
      obtain ⟨g2, h0⟩ := He.ba h0
      obtain ⟨g3, h0⟩ := He.ba h0
      obtain ⟨g4, h0⟩ := He.ba h0
      obtain ⟨g5, g6⟩ := He.ba h0
      have e1 := of_decide_eq_true g1
      have e2 := of_decide_eq_true g2
      have e3 := of_decide_eq_true g3
      subst e1 e2 e3
      obtain ⟨nm, bs, mro, ns, qn, hd, sn, sub, ab, col, del⟩ := cd
      dsimp only at hm g4 g5
      have e5 : del = false := by cases del <;> first | rfl | cases g4
      subst hm e5 g5
      have hsl : sl = #[k0, k1, k2, k3, some (.builtin "ValueError.__new__"), k5] := by
        obtain ⟨l⟩ := sl
        simp only at hs
        rw [hs]
      subst hsl
      exact ⟨nm, qn, ns, bs, bm, sn, sub, ab, col, dd, k0, k1, k2, k3, k5, ho, g6⟩
    · cases h0
  · cases h0
def excB (K : PySem.W.Frag) (x : Str) (fs : List Str) : Bool := oexB K (He.ga K x) && (decide (PySem.W.ks_superIn K (He.ga K x) (He.ga K x) "__init__" = some (some (.builtin "ValueError.__init__"))) && (decide (PySem.W.subIn K (.ref (He.ga K x)) (.type "ValueError") = some true) && (decide (PySem.W.mroIn K (He.ga K x) (.ref (He.ga K x)) = some true) &&
  (decide (PySem.W.nsIn K cStatics "thirdparty.any" = some none) && (decide (PySem.W.findIn K (.ref (He.ga K x)) "__init__" = some (some (.ref (He.fAd K (x, some "__init__"))))) && (decide (PySem.W.typeIn K (.ref (He.fAd K (x, some "__init__"))) = some (.type "function")) &&
  (fs.all (fun f => decide (PySem.W.findIn K (.ref (He.ga K x)) f = some none)) && (decide (PySem.W.exmOne K (.ref (He.ga K x)) (.ref (He.ga K x)) = some true) && xfB K (He.ga K x)))))))))
structure ExcFacts (K : PySem.W.Frag) (x : Str) (fs : List Str) : Prop where
  k : ExcK K (He.ga K x)
  init : PySem.W.findIn K (.ref (He.ga K x)) "__init__" = some (some (.ref (He.fAd K (x, some "__init__"))))
  ty : PySem.W.typeIn K (.ref (He.fAd K (x, some "__init__"))) = some (.type "function")
  fs : ∀ f ∈ fs, PySem.W.findIn K (.ref (He.ga K x)) f = some none
  ex : PySem.W.exmOne K (.ref (He.ga K x)) (.ref (He.ga K x)) = some true
  xf : XfC K (He.ga K x)
theorem excB_ok {K : PySem.W.Frag} {x : Str} {fs : List Str} (h : excB K x fs = true) : ExcFacts K x fs := by
  unfold excB at h
  obtain ⟨h1, h⟩ := He.ba h
  obtain ⟨h2, h⟩ := He.ba h
  obtain ⟨h3, h⟩ := He.ba h
  obtain ⟨h4, h⟩ := He.ba h
  obtain ⟨h5, h⟩ := He.ba h
  obtain ⟨h6, h⟩ := He.ba h
  obtain ⟨h7, h⟩ := He.ba h
  obtain ⟨h8, h⟩ := He.ba h
  obtain ⟨h9, h10⟩ := He.ba h
  exact ⟨⟨oexB_ok h1, of_decide_eq_true h2, of_decide_eq_true h3, of_decide_eq_true h4, of_decide_eq_true h5⟩, of_decide_eq_true h6, of_decide_eq_true h7, fun f hf => of_decide_eq_true (List.all_eq_true.mp h8 f hf), of_decide_eq_true h9, xfB_ok h10⟩
/-! ### the Hook -/
structure SaysC (fa : List He.Fa) (fn : List He.DefD) (tf : List He.Defn) (cn : List He.DefD) (ex : PySem.W.Frag → Bool) (w : World) (h : Heap) (K : PySem.W.Frag) : Prop where
  x : He.SaysX fa fn [] tf ex w h K
  c : cn.map (fun d => fnC K d.at_) = cn.map valC
/-- the class statics too -/
def asC (g : Addr → Option Obj) (n : Nat) : List Addr := cStatics :: He.asD g n
abbrev AlC : Type := He.AlX × List FnC
def obsK (fa : List He.Fa) (fn : List He.DefD) (tf : List He.Defn) (cn : List He.DefD) (ex : PySem.W.Frag → Bool) (g : Addr → Option Obj) (K : PySem.W.Frag) : AlC := ((He.obsT fa fn [] K, ex K && He.tabsB g tf K), cn.map fun d => fnC K d.at_)
def obsC (n : Nat) (fa : List He.Fa) (fn : List He.DefD) (tf : List He.Defn) (cn : List He.DefD) (ex : PySem.W.Frag → Bool) (g : Addr → Option Obj) : AlC := obsK fa fn tf cn ex g (He.frT g (asC g n))
theorem saysC_of {fa : List He.Fa} {fn : List He.DefD} {tf : List He.Defn} {cn : List He.DefD} {ex : PySem.W.Frag → Bool} {w : World} {h : Heap} {as : List Addr} (e : obsK fa fn tf cn ex h.get? (He.frT h.get? as) = ((He.valT fn [] w, true), cn.map valC)) : SaysC fa fn tf cn ex w h (He.frT h.get? as) := by
  have ea := congrArg (fun z : AlC => z.1.2) e
  obtain ⟨hex, htb⟩ := He.ba (show (ex (He.frT h.get? as) && He.tabsB h.get? tf (He.frT h.get? as)) = true from ea)
  have tb : ∀ p ∈ tf, PySem.W.codeHdIn (He.frT h.get? as) (He.cT (He.frT h.get? as) p).1 (He.cT (He.frT h.get? as) p).2 = true ∧ ∃ o, h.get? (He.cT (He.frT h.get? as) p).2 = some o ∧ He.emptyTab o = true := by
    intro p hp
    have z := List.all_eq_true.mp htb p hp
    obtain ⟨z1, z2⟩ := He.ba z
    refine ⟨z1, ?_⟩
    cases y : h.get? (He.cT (He.frT h.get? as) p).2 with
    | none => rw [y] at z2; cases z2
    | some o => rw [y] at z2; exact ⟨o, rfl, z2⟩
  refine ⟨⟨congrArg (fun z : AlC => z.1.1) e, hex, fun p hp => (tb p hp).1, fun p hp => ?_, fun p hp => ?_⟩, congrArg (fun z : AlC => z.2) e⟩
  · obtain ⟨_, o, z1, z2⟩ := tb p hp
    exact He.frT_none z1 z2
  · obtain ⟨_, o, z1, z2⟩ := tb p hp
    rw [z1, He.emptyTab_eq z2]
def hookC (n : Nat) (fa : List He.Fa) (fn : List He.DefD) (tf : List He.Defn) (cn : List He.DefD) (ex : PySem.W.Frag → Bool) : PySem.W.Hook where
  α := AlC
  obs := fun s => obsC n fa fn tf cn ex s.heap.get?
  val := fun w => ((He.valT fn [] w, true), cn.map valC)
  says := fun w h => ∃ K : PySem.W.Frag, K.In h ∧ SaysC fa fn tf cn ex w h K
  of := fun _ _ e => ⟨_, He.frT_in, saysC_of e⟩
  keeps := fun _ _ _ ⟨K, hK, c⟩ k => ⟨K, PySem.W.Frag.In.keeps hK k, ⟨c.x.t, c.x.more, c.x.hd, c.x.out, fun p hp => k _ _ (c.x.empty p hp)⟩, c.c⟩
theorem obsC_eq {n : Nat} {fa : List He.Fa} {fn : List He.DefD} {tf : List He.Defn} {cn : List He.DefD} {ex : PySem.W.Frag → Bool} {g : Addr → Option Obj} {s : Shared} (h : ∀ a, g a = s.heap.get? a) : obsC n fa fn tf cn ex g = (hookC n fa fn tf cn ex).obs s := by
  have e : g = s.heap.get? := funext h
  rw [e] <;> rfl
theorem SaysC.def_ {fa : List He.Fa} {fn : List He.DefD} {tf : List He.Defn} {cn : List He.DefD} {ex : PySem.W.Frag → Bool} {w : World} {h : Heap} {K : PySem.W.Frag} (c : SaysC fa fn tf cn ex w h K) (i : Nat) {d : He.DefD} (hd : cn[i]? = some d := by rfl) : fnC K d.at_ = valC d := by
  have e2 : (cn.map fun d => fnC K d.at_)[i]? = (cn.map valC)[i]? := by rw [c.c]
  rw [List.getElem?_map, List.getElem?_map, hd] at e2
  exact Option.some.inj e2
end DL
set_option Elab.async false
set_option linter.all false
set_option maxRecDepth 100000
set_option maxHeartbeats 4000000
namespace DL
open PySem PySem.Spec PyProof.Rows L2
theorem FunC.binds {K : PySem.W.Frag} {P : Program} {x qual : Str} {params : Arguments} {body : List Stmt} {scope : Scope} {D f : Addr} {fd : FuncData} {ps : List Str} (B : FunC K P x qual params body scope D f fd)
    (h : ∀ (kV doc pm : Value) (an : Option Addr) (cdv ct : Value) (cc : Addr) (us : List Value), us.length = ps.length → bindArgs (PySem.W.ksFn x qual params body scope .none kV doc pm an cdv ct cc) ⟨us, []⟩ = pure (ps.zip us)) : Binds K fd ps [] := by
  obtain ⟨oc, od, kV, doc, pm, an, cda, ct, osl, cc, ccl, ccd, ccs, kcl, kcd, vs', kcs, file, tf, efd, _⟩ := B.ex
  subst efd
  exact .all (h kV doc pm an _ ct cc)
variable [CTab]
section
variable {P : Program} {w : World} {K : PySem.W.Frag} {mg : Str → Option Value} {base : Heap} {c n : Nat} {fs N : List Str} {fd : FuncData}
theorem raiser_of (F : ExcFacts K (cN c) fs) (hfs : (cF c).reverse = fs) (hn : (cF c).length = n) (k : FnOk P w K mg base CX0 1 (He.fAd K (cN c, some "__init__")) fd N (spX (He.ga K (cN c)) fs)) (b : Binds K fd N []) (hm : mg (cN c) = some (.ref (He.ga K (cN c)))) : Raiser P w K mg base c n := by
  subst hfs
  exact ⟨_, fd, N, F.k.T, F.init, F.ty, k, b, hm, hn⟩
theorem catch_of {f1 f2 : Str} (F : ExcFacts K (cN c) [f1, f2]) (hfs : cF c = [f2, f1]) (ne : f1 ≠ f2) (hm : mg (cN c) = some (.ref (He.ga K (cN c)))) : Catch K mg c f1 f2 :=
  ⟨hm, F.ex, F.xf, F.fs _ (by simp), F.fs _ (by simp), hfs, ne⟩
end
theorem dNe_sn (a : Str) (h : PyData.strOk a = true) : dNe (.tup [.str a, .non]) (.tup [.str a, .non]) = some (.bl false) := by
  simp [dNe, eqB, eqDeep, toPy, toPys, D.sc, PyData.eqv, PyData.eqvAll, SeqAt.shaped, PyData.canLay0, PyData.canLayAll0, PyData.depth, PyData.depthAll, h]
theorem dNe_si (a : Str) (i : Int) (h : PyData.strOk a = true) : dNe (.tup [.str a, .int i]) (.tup [.str a, .int i]) = some (.bl false) := by
  simp [dNe, eqB, eqDeep, toPy, toPys, D.sc, PyData.eqv, PyData.eqvAll, SeqAt.shaped, PyData.canLay0, PyData.canLayAll0, PyData.depth, PyData.depthAll, h]
/-- the same mirror, told otherwise -/
theorem PE.as {X : Cx} {E : XK} {e : Expr} {m m' : M D} (h : PE X e (tD X.K E m)) (he : m = m') : PE X e (tD X.K E m') := he ▸ h
/-- a lambda called where what it raises is wished for -/
theorem pL {X : Cx} {A : Around} {outer : List PySem.Env} {s : Shared} {H : Hp} {E : XK} {scope : Scope} {f c' : Addr} : Passes (L2.CX X.prog X.w) (LamX.lamCx X A outer s H E scope f c') E := passes_call (takes_of rfl rfl rfl rfl) fun _ _ _ _ h => h
/-- the lambdas that a for statement walks -/
def lamsE : List Expr → List LamP
  | .Tuple [.Lambda a b c d, .Tuple e f g] h i :: r => ⟨a, b, c, d, e, f, g, h, i⟩ :: lamsE r
  | _ => []
def lamsS : Stmt → List LamP
  | .For _ (.Tuple es _ _) _ _ _ => lamsE es
  | _ => []
end DL
set_option Elab.async false
set_option linter.all false
set_option maxRecDepth 100000
set_option maxHeartbeats 4000000
namespace DL
open PySem PySem.Spec PyProof.Rows L2
theorem funD_code {K : PySem.W.Frag} {x qual : Str} {params : Arguments} {body : List Stmt} {scope : Scope} {dvs : List V} {kws : List (Str × V)} {fd : FuncData} {p : Str × Option Str} (F : FunD K x qual params body scope dvs kws (He.fAd K p) fd) : fd.code = .ref (He.codeOf K p) := by
  obtain ⟨oc, od, dV, kV, doc, pm, an, cdv, ct, osl, rfl, lk, hcd, _, _⟩ := F.ex
  obtain ⟨c, rfl⟩ := He.codeIn_ref hcd
  rw [He.codeOf_eq lk rfl]
theorem lawAt_of [CTab] {l : PySem.W.OpenLaw} {w : World} {K : PySem.W.Frag} {k : Nat} {mg : Str → Option Value} {f : Addr} {h : Heap} {fa : List He.Fa} {fn cn : List He.DefD} {ex : PySem.W.Frag → Bool} {fd : FuncData} (X : K.In h) (c : SaysC fa fn [("law", none)] cn ex w h K)
    (hb : ∀ (s : Shared) (v : Value), BindsTo s fd ⟨[v], []⟩ [("script", v)])
    (F : ∀ base : Heap, LamX.TabB base mg (He.cT K ("law", none)).1 (He.cT K ("law", none)).2 → FnOk l.prog w K mg base CX0 k f fd ["script"] (spLaw K (He.cT K ("law", none)).2)) : LamX.LawAtS l w K CX0 k 63 "script" mg f h := by
  have one : ∀ p ∈ [He.cT K ("law", none)], p = He.cT K ("law", none) := fun p hp => by simpa using hp
  refine ⟨fd, [He.cT K ("law", none)], spLaw K (He.cT K ("law", none)).2, fun p hp => ?_, fun p hp => ?_, fun p hp => ?_, hb, fun H a ns hl _ hT hS => ⟨a, ns, rfl, hS, hl, hT _ (by simp), fun _ => rfl⟩, fun base _ _ TB => F base (TB _ (by simp))⟩
  · rw [one p hp]
    exact c.x.empty _ (by simp)
  · rw [one p hp]
    exact c.x.out _ (by simp)
  · rw [one p hp]
    exact PySem.W.codeHd_of_K X (c.x.hd _ (by simp))
def allVal (ρ : Env) : Bool := ρ.all fun o => match o with
  | some (.val _) => true
  | none => true
  | _ => false
theorem allVal_ok {ρ : Env} (h : allVal ρ = true) (i : Nat) (x : W) (hx : ρ[i]? = some (some x)) : ∃ d, x = .val d := by
  have z := List.all_eq_true.mp h _ (List.mem_of_getElem? hx)
  cases x with
  | val d => exact ⟨d, rfl⟩
  | own t => cases z
  | inn t => cases z
def envOf : Res Fl → Env
  | .ok _ ρ => ρ
  | _ => []
end DL
set_option Elab.async false
set_option linter.all false
set_option maxRecDepth 100000
set_option maxHeartbeats 4000000
namespace DL
open PySem PySem.Spec PyProof.Rows L2
/-! ### == and != by an own __eq__ -/
section
open PySem.W
variable {prog : Program} {w : World} {A : Around} {E : Value → Shared → Prop} {s : Shared} {K : Frag} {x C f : Addr} {ox : Obj} {od : Option Obj} {b tb : Value}
/-- object.__ne__ where __eq__ is an own def -/
theorem objNe_K (hu : A.units < cLine) (X : K.In s.heap) (I : InstAt s.heap x ox C od) (hs : findIn K (.ref C) "__eq__" = some (some (.ref f))) (hf : isFn K (.ref f) = true) {Q : Fin → Shared → Prop}
    (h : wpAny (model prog w) A (call (.ref f) [.ref x, b]) (fun v s' => ∃ r, v = .bool r ∧ Q (.done (.ret (.bool (!r)))) s') E s) : wpAny (model prog w) A (Builtin.«object.__ne__» ⟨[.ref x, b], []⟩) Q E s := by
  unfold Builtin.«object.__ne__»
  refine wpAny_bind (wpAny_of_eq (a := (Value.ref x, [b])) (by rfl) ?_)
  refine wpAny_bind (wpAny_cRoomFor hu ?_)
  refine wpAny_bind (m := callSpecialIfBound? (.ref x) (Str.ofString "__eq__") [b]) (ifBound_K X I hs hf (wpAny_mono h (fun v s' hv => ?_) fun _ _ z => z))
  obtain ⟨r, rfl, hq⟩ := hv
  exact wpAny_bind (m := truthy (.bool r)) (wpAny_truthy_bool (wpAny_pure hq))
/-- a built-in slot found in an own class -/
theorem ifBoundB {M : Model} {name : Str} {id : String} {T : String} {args : List Value} {Q : Option Value → Shared → Prop} (X : K.In s.heap) (I : InstAt s.heap x ox C od) (hs : findIn K (.ref C) name = some (some (.builtin id))) (S : Slot T name id)
    (h : wpAny M A (call (.builtin id) (.ref x :: args)) (fun v s' => Q (some v) s') E s) : wpAny M A (callSpecialIfBound? (.ref x) name args) Q E s := by
  unfold callSpecialIfBound? bindSpecialIfBound?
  refine wpAny_holding (wpAny_bind (wpAny_bind (wpAny_bind (I.type.here ((looks_findIn X hs).here ?_)))))
  simp only [S.bind]
  have go : wpAny M A (call (.builtin id) ([.ref x] ++ args) >>= fun v => pure (some v)) Q E s := wpAny_bind (wpAny_mono h (fun v s' q => wpAny_pure q) fun _ _ z => z)
  refine wpAny_bind (wpAny_askSetting (wpAny_ite ?_))
  split
  · exact wpAny_bind (wpAny_pure (wpAny_pure go))
  · exact wpAny_tryCatch (wpAny_bind (wpAny_pure (wpAny_pure go)))
theorem cmpNe_K (hu : A.units + 1 < cLine) (X : K.In s.heap) (I : InstAt s.heap x ox C od) (hb : Looks (model prog w) s.heap (typeOf b) tb) (hn : notFirst K C tb = true) (hs : findIn K (.ref C) "__eq__" = some (some (.ref f))) (hf : isFn K (.ref f) = true)
    (hne : findIn K (.ref C) "__ne__" = some (some (.builtin "object.__ne__"))) (hob : mroIn K C (.type "object") = some true) {Q : Value → Shared → Prop}
    (h : wpAny (model prog w) A.in1 (call (.ref f) [.ref x, b]) (fun v s' => ∃ r, v = .bool r ∧ Q (.bool (!r)) s') E s) : wpAny (model prog w) A (richCompare .NotEq (.ref x) b) Q E s := by
  have sub : Looks (model prog w) s.heap (isInstance (.ref x) (.type "object")) true := I.type.andThen (looks_mroIn X hob)
  have try_ : wpAny (model prog w) A (tryCompare (.ref x) "__ne__" b) (fun r s' => ∃ v, r = some v ∧ Q v s') E s := by
    unfold tryCompare
    refine wpAny_bind (ifBoundB X I hne F.cmp_object.ne (wpAny_call (codeAny_call_builtin F.cmp_object.ne.plain F.cmpEntry_ne (check_slot F.cmpKind_ne F.cmpSplit_ne sub (F.cmpArgs_ne _ _) (objNe_K (A := A.in1) hu X I hs hf (wpAny_mono h (fun v s' hv => ?_) fun _ _ z => z))))))
    obtain ⟨r, rfl, hq⟩ := hv
    exact ⟨r, rfl, wpAny_pure ⟨_, rfl, hq⟩⟩
  unfold richCompare
  simp only [oneThing_ref]
  refine wpAny_holding (wpAny_bind (wpAny_cRoomFor (Nat.lt_of_succ_lt hu) ?_))
  rw [cmpInfo_NotEq]
  dsimp only
  refine wpAny_bind (I.type.here (wpAny_bind (hb.here ?_)))
  have last : ∀ {t : Option Value → Sem Value}, (∀ v, t (some v) = pure v) → wpAny (model prog w) A (tryCompare (.ref x) "__ne__" b >>= t) Q E s := fun {t} ht => wpAny_bind (wpAny_mono try_ (fun r s' z => by
    obtain ⟨v, rfl, q⟩ := z
    rw [ht]
    exact wpAny_pure q) fun _ _ z => z)
  split
  · rename_i q
    have e : subIn K tb (.ref C) = some false := by
      unfold notFirst at hn
      rw [Bool.or_eq_true] at hn
      rcases hn with z | z
      · rw [beq_iff_eq.mp z] at q
        simp at q
      · exact beq_iff_eq.mp z
    refine wpAny_bind ((looks_subIn X e).here ?_)
    simp only [Bool.false_eq_true, if_false]
    exact last fun v => rfl
  · refine wpAny_bind (wpAny_pure ?_)
    simp only [Bool.false_eq_true, if_false]
    exact last fun v => rfl
end
end DL
set_option Elab.async false
set_option linter.all false
set_option maxRecDepth 100000
set_option maxHeartbeats 4000000
namespace DL
open PySem PySem.Spec PyProof.Rows L2
variable [CTab]
structure Eqer (P : Program) (w : World) (K : PySem.W.Frag) (mg : Str → Option Value) (base : Heap) (CX : CXT) (k : Nat) (c : Nat) (g : FD) : Prop where
  ex : ∃ (f : Addr) (fd : FuncData) (ps : List Str), PySem.W.findIn K (.ref (He.ga K (cN c))) "__eq__" = some (some (.ref f)) ∧ PySem.W.isFn K (.ref f) = true ∧ FnOk P w K mg base CX k f fd ps (spF K 2 g) ∧ Binds K fd ps []
  ne : PySem.W.findIn K (.ref (He.ga K (cN c))) "__ne__" = some (some (.builtin "object.__ne__"))
  ob : PySem.W.mroIn K (He.ga K (cN c)) (.type "object") = some true
def eqB1 (K : PySem.W.Frag) (x y : Str) : Bool := PySem.W.notFirst K (He.ga K x) (.ref (He.ga K y))
def eqB0 (K : PySem.W.Frag) (x : Str) : Bool := decide (PySem.W.findIn K (.ref (He.ga K x)) "__ne__" = some (some (.builtin "object.__ne__"))) && decide (PySem.W.mroIn K (He.ga K x) (.type "object") = some true)
/-- all of the classes named -/
def eqsB (K : PySem.W.Frag) (xs : List Str) : Bool := xs.all fun x => eqB0 K x && xs.all fun y => eqB1 K x y
theorem eqsB_ok {K : PySem.W.Frag} {xs : List Str} (h : eqsB K xs = true) {x : Str} (hx : x ∈ xs) : PySem.W.findIn K (.ref (He.ga K x)) "__ne__" = some (some (.builtin "object.__ne__")) ∧ PySem.W.mroIn K (He.ga K x) (.type "object") = some true ∧
    ∀ y ∈ xs, PySem.W.notFirst K (He.ga K x) (.ref (He.ga K y)) = true := by
  have h1 := List.all_eq_true.mp h x hx
  obtain ⟨h2, h3⟩ := He.ba h1
  obtain ⟨h4, h5⟩ := He.ba h2
  exact ⟨of_decide_eq_true h4, of_decide_eq_true h5, fun y hy => List.all_eq_true.mp h3 y hy⟩
def eqOb (gs : List (Nat × FD)) : D → D → Option Bool
  | .ob c l, .ob c' l' => (match gs.lookup c, gs.lookup c' with
    | some g, some _ => (match g [.val (.ob c l), .val (.ob c' l')] with
      | .ok (.bl r) [] => some r
      | _ => none)
    | _, _ => none)
  | _, _ => none
def dEqO (gs : List (Nat × FD)) (a b : D) : Option D := match dEq a b with
  | some d => some d
  | none => (eqOb gs a b).map .bl
def dNeO (gs : List (Nat × FD)) (a b : D) : Option D := match dNe a b with
  | some d => some d
  | none => (eqOb gs a b).map fun r => .bl (!r)
def rOb (K : PySem.W.Frag) (gs : List (Nat × FD)) (t : Bool → V) : R2 := fun x y H Q => ∃ c g a dx fs c' g' b dy fs', gs.lookup c = some g ∧ gs.lookup c' = some g' ∧ x = .ref a ∧ y = .ref b ∧ H a = some (.ins (He.ga K (cN c)) dx fs) ∧ H b = some (.ins (He.ga K (cN c')) dy fs') ∧
  spF K 2 g [.ref a, .ref b] H (fun v H' => ∃ r, v = .bl r ∧ Q (t r) H') E0
theorem lookup_inL {α : Type} {c : Nat} {g : α} : ∀ {gs : List (Nat × α)}, gs.lookup c = some g → (c, g) ∈ gs
  | [], h => by cases h
  | (b, u) :: r, h => by
    simp only [List.lookup] at h
    split at h
    · rename_i e
      cases h
      rw [beq_iff_eq.mp e]
      exact List.mem_cons_self
    · exact List.mem_cons_of_mem _ (lookup_inL h)
section
variable {X : Cx} {gs : List (Nat × FD)} {k j : Nat} {K : PySem.W.Frag}
theorem ob_opD {t : Bool → Bool} {f : D → D → Option D} (hf : ∀ a b, f a b = (eqOb gs a b).map fun r => .bl (t r)) : OpD K (rOb K gs fun r => .bl (t r)) f := by
  intro H Z a b d x y Q hz ra rb h kn
  rw [hf] at h
  cases a with
  | ob c l =>
    cases b with
    | ob c' l' =>
      unfold eqOb at h
      dsimp only at h
      cases e1 : gs.lookup c with
      | none => rw [e1] at h; cases h
      | some g =>
        cases e2 : gs.lookup c' with
        | none => rw [e1, e2] at h; cases h
        | some g' =>
          rw [e1, e2] at h
          dsimp only at h
          have ra0 := ra
          have rb0 := rb
          simp only [Rep] at ra rb
          obtain ⟨p, dx, vs, rfl, n1, h1, _, _⟩ := ra
          obtain ⟨p', dx', vs', rfl, n2, h2, _, _⟩ := rb
          refine ⟨c, g, p, dx, _, c', g', p', dx', _, e1, e2, rfl, rfl, h1, h2, Z, [.val (.ob c l), .val (.ob c' l')], rfl, hz, ⟨_, _, rfl, ra0, _, _, rfl, rb0, rfl⟩, by simp [inAd], ?_⟩
          cases e3 : g [.val (.ob c l), .val (.ob c' l')] with
          | fail => rw [e3] at h; cases h
          | exc c l => rw [e3] at h; cases h
          | ok d' ts =>
            rw [e3] at h
            dsimp only at h ⊢
            split at h
            · rename_i r he
              cases he
              cases h
              intro v H' hk _ hv
              have hs : Same H H' := fun a o e => hk a o (by simp [inAd]) e
              exact ⟨r, hv, kn _ H' hs rfl⟩
            · cases h
    | _ => cases h
  | _ => cases h
theorem op_obEq (he : ∀ q ∈ gs, Eqer X.prog X.w X.K X.mg X.base CX0 k q.1 q.2) (hn : ∀ q ∈ gs, ∀ q' ∈ gs, PySem.W.notFirst X.K (He.ga X.K (cN q.1)) (.ref (He.ga X.K (cN q'.1))) = true) (hr : Room k X.A) : OpR X (compareOp .Eq) (rOb X.K gs fun r => .bl r) := by
  intro pins s σ H x y v u Q I rx ry h
  obtain ⟨c, g, a, dx, fs, c', g', b, dy, fs', e1, e2, rfl, rfl, ha, hb, q⟩ := h
  cases (show v = Value.ref a from rx)
  cases (show u = Value.ref b from ry)
  obtain ⟨f, fd, ps, hs, hf, F, hB⟩ := (he _ (lookup_inL e1)).ex
  obtain ⟨mA, J, _⟩ := ins_get I.hok ha
  obtain ⟨mB, J', _⟩ := ins_get I.hok hb
  obtain ⟨od, J, _⟩ := J.look
  obtain ⟨od', J', _⟩ := J'.look
  obtain ⟨m, hF⟩ := I.fr
  show wpAny _ _ (richCompare .Eq (.ref a) (.ref b)) _ _ _
  refine PySem.W.cmp_K (op := .Eq) (tb := .ref (He.ga X.K (cN c'))) hr.units0 hF I.ok.mod.kin J J'.type (hn _ (lookup_inL e1) _ (lookup_inL e2)) hs hf ?_
  refine wpAny_mono (run_fn (ds := []) (dvs := []) (us := [.ref a, .ref b]) (vs := [.ref a, .ref b]) F hr hB .nil p0 I (.cons rfl (.cons rfl .nil)) q) (fun z s' hz => ?_) fun _ _ z => z
  obtain ⟨v, H', I', rv, r, rfl, hq⟩ := hz
  obtain rfl : z = Value.bool r := rv
  exact ⟨.bl r, H', I', rfl, hq⟩
theorem op_obNe (he : ∀ q ∈ gs, Eqer X.prog X.w X.K X.mg X.base CX0 k q.1 q.2) (hn : ∀ q ∈ gs, ∀ q' ∈ gs, PySem.W.notFirst X.K (He.ga X.K (cN q.1)) (.ref (He.ga X.K (cN q'.1))) = true) (hr : Room (k + 1) X.A) : OpR X (compareOp .NotEq) (rOb X.K gs fun r => .bl (!r)) := by
  intro pins s σ H x y v u Q I rx ry h
  obtain ⟨c, g, a, dx, fs, c', g', b, dy, fs', e1, e2, rfl, rfl, ha, hb, q⟩ := h
  cases (show v = Value.ref a from rx)
  cases (show u = Value.ref b from ry)
  have E1 := he _ (lookup_inL e1)
  obtain ⟨f, fd, ps, hs, hf, F, hB⟩ := E1.ex
  obtain ⟨mA, J, _⟩ := ins_get I.hok ha
  obtain ⟨mB, J', _⟩ := ins_get I.hok hb
  obtain ⟨od, J, _⟩ := J.look
  obtain ⟨od', J', _⟩ := J'.look
  show wpAny _ _ (richCompare .NotEq (.ref a) (.ref b)) _ _ _
  refine cmpNe_K (tb := .ref (He.ga X.K (cN c'))) (by have := hr.un; omega) I.kIn J J'.type (hn _ (lookup_inL e1) _ (lookup_inL e2)) hs hf E1.ne E1.ob ?_
  have hsp := q
  have hl := F.len _ _ _ _ hsp
  have r2 : Vals [V.ref a, V.ref b] [Value.ref a, Value.ref b] := .cons rfl (.cons rfl .nil)
  refine wpAny_call (codeAny_mono (F.run X.A.in1 X.stack s H ⟨[.ref a, .ref b], []⟩ [.ref a, .ref b] [.ref a, .ref b] _ E0 hr.in1 I.env0.in1 (by
    have := hB s [.ref a, .ref b] I.kIn (by simpa using hl)
    simpa using this) r2 hsp) fun r s' hq => ?_)
  cases r with
  | error e => exact hq.elim
  | ok fl =>
    cases fl with
    | ret w =>
      obtain ⟨z, H', I', rz, r, ez, qz⟩ := I.after hq
      subst ez
      obtain rfl : w = Value.bool r := rz
      exact ⟨r, rfl, .bl (!r), H', I', rfl, qz⟩
    | next => exact False.elim hq
    | brk => exact False.elim hq
    | cont => exact False.elim hq
theorem c_eqO (he : ∀ q ∈ gs, Eqer X.prog X.w X.K X.mg X.base CX0 k q.1 q.2) (hn : ∀ q ∈ gs, ∀ q' ∈ gs, PySem.W.notFirst X.K (He.ga X.K (cN q.1)) (.ref (He.ga X.K (cN q'.1))) = true) (hr : Room j X.A) (hj : k + 1 ≤ j := by decide) : CmpD X .Eq (dEqO gs) := by
  obtain ⟨r, h1, h2⟩ := c_eq (X := X) hr
  exact ⟨_, h1.or (op_obEq he hn (hr.mono (by omega))), h2.orL (ob_opD (t := fun r => r) fun _ _ => rfl)⟩
theorem c_neO (he : ∀ q ∈ gs, Eqer X.prog X.w X.K X.mg X.base CX0 k q.1 q.2) (hn : ∀ q ∈ gs, ∀ q' ∈ gs, PySem.W.notFirst X.K (He.ga X.K (cN q.1)) (.ref (He.ga X.K (cN q'.1))) = true) (hr : Room j X.A) (hj : k + 1 ≤ j := by decide) : CmpD X .NotEq (dNeO gs) := by
  obtain ⟨r, h1, h2⟩ := c_ne (X := X) hr
  exact ⟨_, h1.or (op_obNe he hn (hr.mono hj)), h2.orL (ob_opD (t := fun r => !r) fun _ _ => rfl)⟩
end
end DL
set_option Elab.async false
set_option linter.all false
set_option maxRecDepth 100000
set_option maxHeartbeats 4000000
namespace DL
open PySem PySem.Spec PyProof.Rows L2
/-! ### zip of two sequences, each a list (false) or a tuple (true) -/
def itQ : Bool → Heap → Addr → Addr → Nat → Prop
  | true, h, i, l, k => h.IsTupleIter i l k
  | false, h, i, l, k => h.IsListIter i l k
def sqQ : Bool → Heap → Addr → Array Value → Prop
  | true, h, l, xs => h.IsTuple l xs
  | false, h, l, xs => h.IsList l xs
def icQ : Bool → String
  | true => "tuple_iterator"
  | false => "list_iterator"
theorem itQ.at {t : Bool} {h h' : Heap} {i l : Addr} {k : Nat} (x : itQ t h i l k) (e : ∀ o, h.get? i = some o → h'.get? i = some o) : itQ t h' i l k := by
  cases t
  · exact Heap.IsListIter.at x e
  · exact Heap.IsTupleIter.at x e
theorem sqQ.at {t : Bool} {h h' : Heap} {l : Addr} {xs : Array Value} (x : sqQ t h l xs) (e : ∀ o, h.get? l = some o → h'.get? l = some o) : sqQ t h' l xs := by
  cases t
  · exact Heap.IsList.at x e
  · exact Heap.IsTuple.at x e
theorem itQ.ob {t : Bool} {h : Heap} {i l : Addr} {k : Nat} (x : itQ t h i l k) : ∃ o, h.get? i = some o ∧ ∀ v, o.data ≠ .cell v := by
  cases t
  · obtain ⟨o, e, _, d⟩ := x
    exact ⟨o, e, fun v q => by rw [d] at q; cases q⟩
  · obtain ⟨o, e, _, d⟩ := x
    exact ⟨o, e, fun v q => by rw [d] at q; cases q⟩
theorem itQ.mk {t : Bool} {h : Heap} {i l : Addr} (e : h.get? i = some { cls := .type (icQ t), data := .fields #[.ref l, .int 0 0] }) : itQ t h i l 0 := by
  cases t
  · exact ⟨_, e, rfl, rfl⟩
  · exact ⟨_, e, rfl, rfl⟩
theorem sqQ.lt {t : Bool} {h : Heap} {l : Addr} {xs : Array Value} (x : sqQ t h l xs) : l < h.objs.size := by
  cases t
  · obtain ⟨o, e, _⟩ := x
    exact Heap.lt_size e
  · obtain ⟨o, e, _⟩ := x
    exact Heap.lt_size e
section
variable {prog : Program} {w : World} {A : Around} {E : Value → Shared → Prop} {s : Shared}
theorem nx_item {t : Bool} {it l : Addr} {i : Nat} {xs : Array Value} {x : Value} {Q : Value → Shared → Prop} (hi : itQ t s.heap it l i) (hl : sqQ t s.heap l xs) (hx : xs[i]? = some x)
    (hQ : ∀ h', itQ t h' it l (i + 1) → Heap.SameBut it s.heap h' → Q x { s with heap := h' }) : wpAny (model prog w) A (Builtin.SmallTypes.nextOf (.ref it)) Q E s := by
  cases t
  · exact wpAny_nextOf_list_item hi hl hx hQ
  · exact RZ.nextOf_tuple_item hi hl hx hQ
theorem nx_end {t : Bool} {it l : Addr} {i : Nat} {xs : Array Value} {Q : Value → Shared → Prop} (hh : A.handled = none) (hi : itQ t s.heap it l i) (hl : sqQ t s.heap l xs) (hx : xs[i]? = none)
    (hE : ∀ h' e, Heap.ExtBut it s.heap h' → (∃ o, h'.get? e = some o ∧ o.cls = .type "StopIteration") → E (.ref e) { s with heap := h' }) : wpAny (model prog w) A (Builtin.SmallTypes.nextOf (.ref it)) Q E s := by
  cases t
  · exact wpAny_nextOf_list_end hh hi hl hx hE
  · exact RZ.nextOf_tuple_end hh hi hl hx hE
/-- the heap at the walk, the zip free or held -/
structure ZSt (h : Heap) (f : Value) (z TI TO i1 i2 l1 l2 : Addr) (t1 t2 : Bool) (xs ys : Array Value) (k1 k2 : Nat) (a b : Value) : Prop where
  z : IsZip h z TI TO f
  ti : IsPair h TI (.ref i1) (.ref i2)
  to : IsPair h TO a b
  p1 : itQ t1 h i1 l1 k1
  p2 : itQ t2 h i2 l2 k2
  q1 : sqQ t1 h l1 xs
  q2 : sqQ t2 h l2 ys
variable {z TI TO i1 i2 l1 l2 : Addr} {t1 t2 : Bool} {k1 k2 : Nat} {xs ys : Array Value} {x y a b f f' : Value} {h h' : Heap} (D : ZipApart z TI TO i1 i2 l1 l2)
include D
theorem ZSt.onz (S : ZSt h f z TI TO i1 i2 l1 l2 t1 t2 xs ys k1 k2 a b) (k : ∀ c o, c ≠ z → h.get? c = some o → h'.get? c = some o) (hz : IsZip h' z TI TO f') : ZSt h' f' z TI TO i1 i2 l1 l2 t1 t2 xs ys k1 k2 a b :=
  ⟨hz, k _ _ D.TIz S.ti, k _ _ D.TOz S.to, S.p1.at fun o => k _ o D.i1z, S.p2.at fun o => k _ o D.i2z, S.q1.at fun o => k _ o D.l1z, S.q2.at fun o => k _ o D.l2z⟩
theorem ZSt.on1 {k : Nat} (S : ZSt h f z TI TO i1 i2 l1 l2 t1 t2 xs ys k1 k2 a b) (e : ∀ c o, c ≠ i1 → h.get? c = some o → h'.get? c = some o) (hi : itQ t1 h' i1 l1 k) : ZSt h' f z TI TO i1 i2 l1 l2 t1 t2 xs ys k k2 a b :=
  ⟨e _ _ D.i1z.symm S.z, e _ _ D.TIi1 S.ti, e _ _ D.TOi1 S.to, hi, S.p2.at fun o => e _ o D.i12.symm, S.q1.at fun o => e _ o D.l1i1, S.q2.at fun o => e _ o D.l2i1⟩
theorem ZSt.on2 {k : Nat} (S : ZSt h f z TI TO i1 i2 l1 l2 t1 t2 xs ys k1 k2 a b) (e : ∀ c o, c ≠ i2 → h.get? c = some o → h'.get? c = some o) (hi : itQ t2 h' i2 l2 k) : ZSt h' f z TI TO i1 i2 l1 l2 t1 t2 xs ys k1 k a b :=
  ⟨e _ _ D.i2z.symm S.z, e _ _ D.TIi2 S.ti, e _ _ D.TOi2 S.to, S.p1.at fun o => e _ o D.i12, hi, S.q1.at fun o => e _ o D.l1i2, S.q2.at fun o => e _ o D.l2i2⟩
theorem ZSt.onT {a' b' : Value} (S : ZSt h f z TI TO i1 i2 l1 l2 t1 t2 xs ys k1 k2 a b) (e : ∀ c o, c ≠ TO → h.get? c = some o → h'.get? c = some o) (ht : IsPair h' TO a' b') : ZSt h' f z TI TO i1 i2 l1 l2 t1 t2 xs ys k1 k2 a' b' :=
  ⟨e _ _ D.TOz.symm S.z, e _ _ D.TITO S.ti, ht, S.p1.at fun o => e _ o D.TOi1.symm, S.p2.at fun o => e _ o D.TOi2.symm, S.q1.at fun o => e _ o D.l1TO, S.q2.at fun o => e _ o D.l2TO⟩
theorem zq_item {Q : Value → Shared → Prop} (S : ZSt s.heap .none z TI TO i1 i2 l1 l2 t1 t2 xs ys k1 k2 a b) (hx : xs[k1]? = some x) (hy : ys[k2]? = some y)
    (hQ : ∀ h', ZSt h' (rawInt s.heap.objs.size) z TI TO i1 i2 l1 l2 t1 t2 xs ys (k1 + 1) (k2 + 1) x y → IsPair h' s.heap.objs.size x y → 
      (∀ c o, c ≠ z → c ≠ TO → c ≠ i1 → c ≠ i2 → s.heap.get? c = some o → h'.get? c = some o) → Q (.ref s.heap.objs.size) { s with heap := h' }) :
    wpAny (model prog w) A (Builtin.«zip.__next__» ⟨[.ref z], []⟩) (fun fin s' => ∃ v, fin = .done (.ret v) ∧ Q v s') E s := by
  show wpAny _ _ (field (.ref z) 2 >>= _) _ _ _
  refine wpAny_bind (wpAny_field S.z rfl (x := .bool false) rfl ?_)
  show wpAny _ _ (field (.ref z) 3 >>= _) _ _ _
  refine wpAny_bind (wpAny_field S.z rfl (x := .ref TI) rfl ?_)
  refine wpAny_bind (wpAny_seqItems S.ti rfl ?_)
  show wpAny _ _ (Builtin.SmallTypes.ownedTupleIsFree (.ref z) >>= _) _ _ _
  refine wpAny_bind ?_
  unfold Builtin.SmallTypes.ownedTupleIsFree
  refine wpAny_bind (wpAny_field S.z rfl (x := .none) rfl (wpAny_pure ?_))
  simp only [if_true]
  refine wpAny_bind (wpAny_rule ?_)
  refine wpAny_bind (wpAny_field S.z rfl (x := .ref TO) rfl ?_)
  refine wpAny_bind (wpAny_setField_rec S.z (by simp) fun g1 z1 b1 => ?_)
  have S1 := S.onz D (f' := .ellipsis) (fun c o n e => b1.extBut _ _ n e) z1
  refine wpAny_bind ?_
  simp only [List.zipIdx_cons, List.zipIdx_nil, List.forIn_cons, List.forIn_nil]
  refine wpAny_bind (wpAny_bind (wpAny_onRaise ?_))
  show wpAny _ _ (Builtin.SmallTypes.nextOf (.ref i1) >>= _) _ _ _
  refine wpAny_bind (nx_item S1.p1 S1.q1 hx fun g2 p2 b2 => wpAny_pure ?_)
  have S2 := S1.on1 D (fun c o n e => b2.extBut _ _ n e) p2
  refine wpAny_bind (wpAny_seqItems S2.to rfl ?_)
  refine wpAny_bind (wpAny_updateSeq_pair S2.to fun g3 o3 b3 => ?_)
  have S3 := S2.onT D (fun c o n e => b3.extBut _ _ n e) (show IsPair g3 TO x b from o3)
  refine wpAny_bind (wpAny_letGo (wpAny_pure ?_))
  refine wpAny_bind (wpAny_bind (wpAny_onRaise ?_))
  show wpAny _ _ (Builtin.SmallTypes.nextOf (.ref i2) >>= _) _ _ _
  refine wpAny_bind (nx_item S3.p2 S3.q2 hy fun g4 p4 b4 => wpAny_pure ?_)
  have S4 := S3.on2 D (fun c o n e => b4.extBut _ _ n e) p4
  refine wpAny_bind (wpAny_seqItems S4.to rfl ?_)
  refine wpAny_bind (wpAny_updateSeq_pair S4.to fun g5 o5 b5 => ?_)
  have S5 := S4.onT D (fun c o n e => b5.extBut _ _ n e) (show IsPair g5 TO x y from o5)
  refine wpAny_bind (wpAny_letGo (wpAny_pure (wpAny_pure ?_)))
  refine wpAny_bind (wpAny_seqItems S5.to rfl ?_)
  refine wpAny_bind (wpAny_newTuple ?_)
  have hs : g5.objs.size = s.heap.objs.size := by rw [b5.1, b4.1, b3.1, b2.1, b1.1]
  have hk : ∀ c o, c ≠ z → c ≠ TO → c ≠ i1 → c ≠ i2 → s.heap.get? c = some o → g5.get? c = some o := fun c o c1 c2 c3 c4 e =>
    b5.extBut _ _ c2 (b4.extBut _ _ c4 (b3.extBut _ _ c2 (b2.extBut _ _ c3 (b1.extBut _ _ c1 e))))
  have hzl : z < g5.objs.size := Heap.lt_size S5.z
  show wpAny _ _ (Builtin.SmallTypes.ownedTupleHandOut (.ref z) (.ref g5.objs.size) >>= _) _ _ _
  refine wpAny_bind ?_
  unfold Builtin.SmallTypes.ownedTupleHandOut
  have z6 : IsZip (g5.push { cls := .type "tuple", data := .seq #[x, y] }) z TI TO .ellipsis := Heap.get?_push_of_some _ S5.z
  refine wpAny_bind (wpAny_setField_rec z6 (by simp) fun g7 z7 b7 => ?_)
  replace z7 : IsZip g7 z TI TO (rawInt g5.objs.size) := z7
  refine wpAny_setField_rec z7 (by simp) fun g8 z8 b8 => ?_
  replace z8 : IsZip g8 z TI TO (rawInt g5.objs.size) := z8
  have up : ∀ c o, c ≠ z → g5.get? c = some o → g8.get? c = some o := fun c o n e => b8.extBut _ _ n (b7.extBut _ _ n (Heap.get?_push_of_some _ e))
  have T8 : IsPair g8 g5.objs.size x y := b8.extBut _ _ (Nat.ne_of_gt hzl) (b7.extBut _ _ (Nat.ne_of_gt hzl) (Heap.get?_push_size _ rfl))
  rw [hs] at T8 z8
  refine wpAny_pure ⟨_, rfl, ?_⟩
  show Q (.ref g5.objs.size) _
  rw [hs]
  exact hQ g8 (S5.onz D up z8) T8 fun c o c1 c2 c3 c4 e => up c o c1 (hk c o c1 c2 c3 c4 e)
theorem zq_end {Q : Fin → Shared → Prop} (hh : A.handled = none) (S : ZSt s.heap .none z TI TO i1 i2 l1 l2 t1 t2 xs ys k1 k2 a b) (he : xs[k1]? = none ∨ ys[k2]? = none)
    (hE : ∀ h' e, (∀ c o, c ≠ z → c ≠ TO → c ≠ i1 → c ≠ i2 → s.heap.get? c = some o → h'.get? c = some o) → (∃ o, h'.get? e = some o ∧ o.cls = .type "StopIteration") → E (.ref e) { s with heap := h' }) :
    wpAny (model prog w) A (Builtin.«zip.__next__» ⟨[.ref z], []⟩) Q E s := by
  show wpAny _ _ (field (.ref z) 2 >>= _) _ _ _
  refine wpAny_bind (wpAny_field S.z rfl (x := .bool false) rfl ?_)
  show wpAny _ _ (field (.ref z) 3 >>= _) _ _ _
  refine wpAny_bind (wpAny_field S.z rfl (x := .ref TI) rfl ?_)
  refine wpAny_bind (wpAny_seqItems S.ti rfl ?_)
  show wpAny _ _ (Builtin.SmallTypes.ownedTupleIsFree (.ref z) >>= _) _ _ _
  refine wpAny_bind ?_
  unfold Builtin.SmallTypes.ownedTupleIsFree
  refine wpAny_bind (wpAny_field S.z rfl (x := .none) rfl (wpAny_pure ?_))
  simp only [if_true]
  refine wpAny_bind (wpAny_rule ?_)
  refine wpAny_bind (wpAny_field S.z rfl (x := .ref TO) rfl ?_)
  refine wpAny_bind (wpAny_setField_rec S.z (by simp) fun g1 z1 b1 => ?_)
  have S1 := S.onz D (f' := .ellipsis) (fun c o n e => b1.extBut _ _ n e) z1
  refine wpAny_bind ?_
  simp only [List.zipIdx_cons, List.zipIdx_nil, List.forIn_cons, List.forIn_nil]
  refine wpAny_bind (wpAny_bind (wpAny_onRaise ?_))
  show wpAny _ _ (Builtin.SmallTypes.nextOf (.ref i1) >>= _) _ _ _
  have fin : ∀ {c : Addr} {g : Heap} {e : Addr}, (∃ o, g.get? e = some o ∧ o.cls = .type "StopIteration") → IsZip g z TI TO .ellipsis → e ≠ z := fun ⟨o, h1, h2⟩ hz q => by
    subst q
    rw [hz] at h1
    cases h1
    simp at h2
  cases hx : xs[k1]? with
  | none =>
    refine wpAny_bind (nx_end hh S1.p1 S1.q1 hx fun g2 e b2 he => ?_)
    have z2 : IsZip g2 z TI TO .ellipsis := b2 _ _ D.i1z.symm S1.z
    obtain ⟨oe, e1, e2⟩ := id he
    exact wpAny_setField_rec z2 (by simp) fun g3 _ b3 => hE g3 e (fun c o c1 _ c3 _ q => b3.extBut _ _ c1 (b2 _ _ c3 (b1.extBut _ _ c1 q))) ⟨oe, b3.extBut _ _ (fin (c := z) he z2) e1, e2⟩
  | some x =>
    have hy : ys[k2]? = none := he.resolve_left fun q => by rw [hx] at q; cases q
    refine wpAny_bind (nx_item S1.p1 S1.q1 hx fun g2 p2 b2 => wpAny_pure ?_)
    have S2 := S1.on1 D (fun c o n e => b2.extBut _ _ n e) p2
    refine wpAny_bind (wpAny_seqItems S2.to rfl ?_)
    refine wpAny_bind (wpAny_updateSeq_pair S2.to fun g3 o3 b3 => ?_)
    have S3 := S2.onT D (fun c o n e => b3.extBut _ _ n e) (show IsPair g3 TO x b from o3)
    refine wpAny_bind (wpAny_letGo (wpAny_pure ?_))
    refine wpAny_bind (wpAny_bind (wpAny_onRaise ?_))
    show wpAny _ _ (Builtin.SmallTypes.nextOf (.ref i2) >>= _) _ _ _
    refine wpAny_bind (nx_end hh S3.p2 S3.q2 hy fun g4 e b4 he => ?_)
    have z4 : IsZip g4 z TI TO .ellipsis := b4 _ _ D.i2z.symm S3.z
    obtain ⟨oe, e1, e2⟩ := id he
    exact wpAny_setField_rec z4 (by simp) fun g5 _ b5 => hE g5 e (fun c o c1 c2 c3 c4 q => b5.extBut _ _ c1 (b4 _ _ c4 (b3.extBut _ _ c2 (b2.extBut _ _ c3 (b1.extBut _ _ c1 q))))) ⟨oe, b5.extBut _ _ (fin (c := z) he z4) e1, e2⟩
theorem zq_next {Q : Option Value → Shared → Prop} (S : ZSt s.heap .none z TI TO i1 i2 l1 l2 t1 t2 xs ys k1 k2 a b) (hx : xs[k1]? = some x) (hy : ys[k2]? = some y)
    (hQ : ∀ h', ZSt h' (rawInt s.heap.objs.size) z TI TO i1 i2 l1 l2 t1 t2 xs ys (k1 + 1) (k2 + 1) x y → IsPair h' s.heap.objs.size x y → 
      (∀ c o, c ≠ z → c ≠ TO → c ≠ i1 → c ≠ i2 → s.heap.get? c = some o → h'.get? c = some o) → Q (some (.ref s.heap.objs.size)) { s with heap := h' }) :
    wpAny (model prog w) A (pyNext (.ref z)) Q E s := by
  have hT : s.TypeIs (.ref z) "zip" := ⟨_, S.z, rfl⟩
  unfold pyNext
  exact wpAny_bind (wpAny_attempt (wpAny_callSpecial?_slot (name := Str.ofString "__next__") hT F.slot_zip_next
    (wpAny_call_entry F.slot_zip_next hT F.entry_zip_next (zq_item D S hx hy fun h' a1 a2 a3 => wpAny_pure (hQ h' a1 a2 a3)) (F.args_zip_next_1 _))))
theorem zq_stop {Q : Option Value → Shared → Prop} (hh : A.handled = none) (S : ZSt s.heap .none z TI TO i1 i2 l1 l2 t1 t2 xs ys k1 k2 a b) (he : xs[k1]? = none ∨ ys[k2]? = none)
    (hQ : ∀ h', (∀ c o, c ≠ z → c ≠ TO → c ≠ i1 → c ≠ i2 → s.heap.get? c = some o → h'.get? c = some o) → Q none { s with heap := h' }) : wpAny (model prog w) A (pyNext (.ref z)) Q E s := by
  have hT : s.TypeIs (.ref z) "zip" := ⟨_, S.z, rfl⟩
  unfold pyNext
  refine wpAny_bind (wpAny_attempt (wpAny_callSpecial?_slot (name := Str.ofString "__next__") hT F.slot_zip_next
    (wpAny_call_entry F.slot_zip_next hT F.entry_zip_next (zq_end D hh S he fun h' e hk ⟨o, ho, hc⟩ => ?_) (F.args_zip_next_1 _))))
  exact wpAny_bind (wpAny_isInstance (T := "StopIteration") (b := true) ⟨o, ho, hc⟩ isSubtype_stop (wpAny_pure (hQ _ hk)))
end
/-! ### the call -/
def itO (t : Bool) (l : Addr) : Obj := { cls := .type (icQ t), data := .fields #[.ref l, .int 0 0] }
def zpH (h : Heap) (l1 l2 : Addr) (t1 t2 : Bool) : Heap :=
  ((((h.push (itO t1 l1)).push (itO t2 l2)).push { cls := .type "tuple", data := .seq #[.ref h.objs.size, .ref (h.objs.size + 1)] }).push { cls := .type "tuple", data := .seq #[.none, .none] }).push
    { cls := .type "zip", data := .fields #[.none, .bool false, .bool false, .ref (h.objs.size + 2), .ref (h.objs.size + 3)] }
theorem meets_zq (l1 l2 : Addr) (t1 t2 : Bool) (xs ys : Array Value) :
    Meets (Builtin.«zip.__new__» ⟨[.type "zip", .ref l1, .ref l2], []⟩) (fun _ R s => sqQ t1 s.heap l1 xs ∧ sqQ t2 s.heap l2 ys ∧
      R (.ok (.ret (.ref (s.heap.objs.size + 4)))) { s with heap := zpH s.heap l1 l2 t1 t2 }) :=
  .of_wp fun prog w A R s h => by
    obtain ⟨hp, g, d, tk, os⟩ := s
    obtain ⟨h1, h2, h⟩ := h
    have hsub := sub_zip
    have e2 : sqQ t2 (hp.push (itO t1 l1)) l2 ys := sqQ.at h2 fun o e => Heap.get?_push_of_some _ e
    have z1 : (hp.push (itO t1 l1)).objs.size = hp.objs.size + 1 := Heap.size_push ..
    unfold zpH at h
    simp only [itO, icQ] at *
    cases t1 <;> cases t2
    · have hL1 : Heap.IsList (Shared.heap ⟨hp, g, d, tk, os⟩) l1 xs := h1
      have hL2 : Heap.IsList (Shared.heap ⟨hp.push { cls := .type "list_iterator", data := .fields #[.ref l1, .int 0 0] }, g, d, tk, os⟩) l2 ys := e2
      wp_walk using wpAny_pyIter_list hL1, wpAny_pyIter_list hL2
      exact ⟨_, rfl, by simp only [Heap.size_push]; exact h⟩
    · have hL1 : Heap.IsList (Shared.heap ⟨hp, g, d, tk, os⟩) l1 xs := h1
      have hL2 : Heap.IsTuple (Shared.heap ⟨hp.push { cls := .type "list_iterator", data := .fields #[.ref l1, .int 0 0] }, g, d, tk, os⟩) l2 ys := e2
      wp_walk using wpAny_pyIter_list hL1, wpAny_pyIter_tuple hL2
      exact ⟨_, rfl, by simp only [Heap.size_push]; exact h⟩
    · have hL1 : Heap.IsTuple (Shared.heap ⟨hp, g, d, tk, os⟩) l1 xs := h1
      have hL2 : Heap.IsList (Shared.heap ⟨hp.push { cls := .type "tuple_iterator", data := .fields #[.ref l1, .int 0 0] }, g, d, tk, os⟩) l2 ys := e2
      wp_walk using wpAny_pyIter_tuple hL1, wpAny_pyIter_list hL2
      exact ⟨_, rfl, by simp only [Heap.size_push]; exact h⟩
    · have hL1 : Heap.IsTuple (Shared.heap ⟨hp, g, d, tk, os⟩) l1 xs := h1
      have hL2 : Heap.IsTuple (Shared.heap ⟨hp.push { cls := .type "tuple_iterator", data := .fields #[.ref l1, .int 0 0] }, g, d, tk, os⟩) l2 ys := e2
      wp_walk using wpAny_pyIter_tuple hL1, wpAny_pyIter_tuple hL2
      exact ⟨_, rfl, by simp only [Heap.size_push]; exact h⟩
section
variable {prog : Program} {w : World} {A : Around} {E : Value → Shared → Prop} {s : Shared}
theorem zq_call {l1 l2 : Addr} {t1 t2 : Bool} {xs ys : Array Value} {Q : Value → Shared → Prop} (h1 : sqQ t1 s.heap l1 xs) (h2 : sqQ t2 s.heap l2 ys)
    (h : ∀ h', ZSt h' .none (s.heap.objs.size + 4) (s.heap.objs.size + 2) (s.heap.objs.size + 3) s.heap.objs.size (s.heap.objs.size + 1) l1 l2 t1 t2 xs ys 0 0 .none .none →
      (∀ c o, s.heap.get? c = some o → h'.get? c = some o) → Q (.ref (s.heap.objs.size + 4)) { s with heap := h' }) :
    wpAny (model prog w) A (call (.type "zip") [.ref l1, .ref l2]) Q E s := by
  refine callType_new F.called_zip (by decide) (F.typeCall_zip_2 _ _) (F.newCall_zip_2 _ _) (fun obj => F.args_object_init_3 obj _ _) F.entry_zip_new (meets_zq l1 l2 t1 t2 xs ys) ⟨h1, h2, ?_⟩
  have k : ∀ c o, s.heap.get? c = some o → (zpH s.heap l1 l2 t1 t2).get? c = some o := fun c o e =>
    Heap.get?_push_of_some _ (Heap.get?_push_of_some _ (Heap.get?_push_of_some _ (Heap.get?_push_of_some _ (Heap.get?_push_of_some _ e))))
  have at_ : ∀ (g : Heap) (n : Nat) (o : Obj), g.objs.size = n → o.isFreed = false → (g.push o).get? n = some o := fun g n o e f => by
    subst e
    exact Heap.get?_push_size _ f
  have gz : (zpH s.heap l1 l2 t1 t2).get? (s.heap.objs.size + 4) = some _ := at_ _ _ _ (by simp only [Heap.size_push]) rfl
  have go : (zpH s.heap l1 l2 t1 t2).get? (s.heap.objs.size + 3) = some _ := Heap.get?_push_of_some _ (at_ _ _ _ (by simp only [Heap.size_push]) rfl)
  have gi : (zpH s.heap l1 l2 t1 t2).get? (s.heap.objs.size + 2) = some _ := Heap.get?_push_of_some _ (Heap.get?_push_of_some _ (at_ _ _ _ (by simp only [Heap.size_push]) rfl))
  have g2 : (zpH s.heap l1 l2 t1 t2).get? (s.heap.objs.size + 1) = some _ := Heap.get?_push_of_some _ (Heap.get?_push_of_some _ (Heap.get?_push_of_some _ (at_ _ _ _ (by simp only [Heap.size_push]) rfl)))
  have g1 : (zpH s.heap l1 l2 t1 t2).get? s.heap.objs.size = some _ := Heap.get?_push_of_some _ (Heap.get?_push_of_some _ (Heap.get?_push_of_some _ (Heap.get?_push_of_some _ (at_ _ _ _ rfl rfl))))
  exact ⟨⟨_, gz, rfl⟩, h _ ⟨gz, gi, go, itQ.mk g1, itQ.mk g2, h1.at fun o => k _ o, h2.at fun o => k _ o⟩ k⟩
end
end DL
set_option Elab.async false
set_option linter.all false
set_option maxRecDepth 100000
set_option maxHeartbeats 4000000
namespace DL
open PySem PySem.Spec PyProof.Rows L2
def SqQ : Bool → PySem.W.Frag → Hp → Addr → List V → Prop
  | true, K, H, a, xs => SqT K H a xs
  | false, K, H, a, xs => SqL K H a xs
theorem SqQ.inv {t : Bool} {X : Cx} {pins : List (Addr × Obj)} {σ : St} {H : Hp} {s : Shared} {a : Addr} {xs : List V} (h : SqQ t X.K H a xs) (I : Inv X pins σ H s) : ∃ its : List Value, Vals xs its ∧ sqQ t s.heap a its.toArray := by
  cases t
  · obtain ⟨its, r, p, _⟩ := I.list h
    exact ⟨its, r, p.isList⟩
  · obtain ⟨its, r, p, _⟩ := I.tuple h
    exact ⟨its, r, p⟩
theorem SqQ.inj {t : Bool} {X : Cx} {pins : List (Addr × Obj)} {σ : St} {H : Hp} {s : Shared} {a : Addr} {xs ys : List V} (I : Inv X pins σ H s) (h : SqQ t X.K H a xs) (h' : SqQ t X.K H a ys) : xs = ys := by
  cases t
  · exact I.list_inj h h'
  · exact I.tuple_inj h h'
/-- the two as they stand at each turn, the items in new pairs -/
def ItzQ (t1 t2 : Bool) (K : PySem.W.Frag) (a b : Addr) : It :=
  ⟨fun i H => ∃ (xs ys : List V) (x y : V), SqQ t1 K H a xs ∧ SqQ t2 K H b ys ∧ xs[i]? = some x ∧ ys[i]? = some y,
    fun i H v H' => ∃ T x y, v = .ref T ∧ H T = none ∧ H' = upd H T (.tup [x, y]) ∧ (∀ xs, SqQ t1 K H a xs → xs[i]? = some x) ∧ ∀ ys, SqQ t2 K H b ys → ys[i]? = some y,
    fun i H => ∃ xs ys : List V, SqQ t1 K H a xs ∧ SqQ t2 K H b ys ∧ (xs.length ≤ i ∨ ys.length ≤ i)⟩
theorem turnQ {P : Program} {w : World} {K : PySem.W.Frag} {elts : List Expr} {kk : Nat} {tpos : Pos} {a b z TI TO i1 i2 : Addr} {t1 t2 : Bool} (D : ZipApart z TI TO i1 i2 a b) :
    Turn P w K (.Tuple elts kk tpos) (ItzQ t1 t2 K a b) [z, TI, TO, i1, i2] z (fun i h => IsZip h z TI TO .none ∧ IsPair h TI (.ref i1) (.ref i2) ∧ (∃ x y, IsPair h TO x y) ∧ itQ t1 h i1 a i ∧ itQ t2 h i2 b i) where
  mem := by simp
  obj := fun i h st c hc => by
    obtain ⟨hz, hTI, ⟨x, y, hTO⟩, h1, h2⟩ := st
    simp only [List.mem_cons, List.not_mem_nil, or_false] at hc
    rcases hc with rfl | rfl | rfl | rfl | rfl
    · exact ⟨_, hz, fun v q => nomatch q⟩
    · exact ⟨_, hTI, fun v q => nomatch q⟩
    · exact ⟨_, hTO, fun v q => nomatch q⟩
    · exact h1.ob
    · exact h2.ob
  keep := fun i h h' st k => by
    obtain ⟨hz, hTI, ⟨x, y, hTO⟩, h1, h2⟩ := st
    exact ⟨k z (by simp) _ hz, k TI (by simp) _ hTI, ⟨x, y, k TO (by simp) _ hTO⟩, h1.at fun o q => k i1 (by simp) o q, h2.at fun o q => k i2 (by simp) o q⟩
  item := by
    intro X hP hw hK hc i pins s σ H E I hf st hg
    subst hP hw hK
    obtain ⟨hz, hTI, ⟨x0, y0, hTO⟩, h1, h2⟩ := st
    obtain ⟨xs, ys, x, y, hqx, hqy, hx, hy⟩ := hg
    obtain ⟨its, rv, p⟩ := hqx.inv I
    obtain ⟨its2, rv2, p2⟩ := hqy.inv I
    obtain ⟨u, hu, ru⟩ := rv.get hx
    obtain ⟨u2, hu2, ru2⟩ := rv2.get hy
    have hzl : z < s.heap.objs.size := Heap.lt_size hz
    refine zq_next D ⟨hz, hTI, hTO, h1, h2, p, p2⟩ (x := u) (y := u2) (by simpa using hu) (by simpa using hu2) fun h' S hT hk => ?_
    refine ⟨_, rfl, wpAny_letOwnedTupleGo_zip (s := { s with heap := h' }) S.z fun h'' z'' sb => ?_⟩
    have hT2 : h''.get? s.heap.objs.size = some { cls := .type "tuple", data := .seq #[u, u2] } := (sb.2 _ (Nat.ne_of_gt hzl)).trans hT
    have kk : ∀ c o, c ∉ [z, TI, TO, i1, i2] → s.heap.get? c = some o → h''.get? c = some o := fun c o hb q =>
      (sb.2 c fun e => hb (by simp [e])).trans (hk c o (fun e => hb (by simp [e])) (fun e => hb (by simp [e])) (fun e => hb (by simp [e])) (fun e => hb (by simp [e])) q)
    have I1 : Inv X pins σ (upd H s.heap.objs.size (.tup [x, y])) { s with heap := h'' } :=
      I.turnedNew (t' := s.toks) (ch := [z, TI, TO, i1, i2]) kk hf (Nat.le_refl _) ⟨by show 2 ≤ sizeLine; decide, [u, u2], .cons ru (.cons ru2 .nil), ⟨_, hT2, rfl, _, rfl⟩⟩
    have S2 := S.onz D (f' := .none) (fun c o n e => (sb.2 c n).trans e) z''
    refine ⟨.ref s.heap.objs.size, _, I1, rfl, ⟨_, x, y, rfl, I.hok.fresh (Nat.le_refl _), rfl, fun l hl => by rw [SqQ.inj I hl hqx]; exact hx, fun l hl => by rw [SqQ.inj I hl hqy]; exact hy⟩, ⟨S2.z, S2.ti, ⟨u, u2, S2.to⟩, S2.p1, S2.p2⟩, fun c hcm => ?_⟩
    have hlt : c < s.heap.objs.size := by
      have e' := hcm
      simp only [List.mem_cons, List.not_mem_nil, or_false] at e'
      rcases e' with rfl | rfl | rfl | rfl | rfl
      · exact hzl
      · exact Heap.lt_size hTI
      · exact Heap.lt_size hTO
      · obtain ⟨_, e1, _⟩ := h1.ob
        exact Heap.lt_size e1
      · obtain ⟨_, e2, _⟩ := h2.ob
        exact Heap.lt_size e2
    rw [upd_ne (Nat.ne_of_lt hlt)]
    exact (hf c hcm).1
  done := by
    intro X hP hw hK hc i pins s σ H E I hf st hg
    subst hP hw hK
    obtain ⟨hz, hTI, ⟨x0, y0, hTO⟩, h1, h2⟩ := st
    obtain ⟨xs, ys, hqx, hqy, hend⟩ := hg
    obtain ⟨its, rv, p⟩ := hqx.inv I
    obtain ⟨its2, rv2, p2⟩ := hqy.inv I
    have l1 := rv.length
    have l2 := rv2.length
    have he : its.toArray[i]? = none ∨ its2.toArray[i]? = none := hend.imp (fun q => by simp; omega) fun q => by simp; omega
    exact zq_stop D (I.ok.hd hc) ⟨hz, hTI, hTO, h1, h2, p, p2⟩ he fun h' hk => ⟨rfl, I.turnedL (t' := s.toks) (ch := [z, TI, TO, i1, i2]) (fun c o hb q =>
      hk c o (fun e => hb (by simp [e])) (fun e => hb (by simp [e])) (fun e => hb (by simp [e])) (fun e => hb (by simp [e])) q) hf⟩
  self := fun A i s Q E st h => wpAny_pyIter_zip st.1 h
def iZipQ (K : PySem.W.Frag) (ta : TA) : TI := fun σ H R => ta σ H fun vs H1 => ∃ a b t1 t2 xs ys, vs = [.ref a, .ref b] ∧ SqQ t1 K H1 a xs ∧ SqQ t2 K H1 b ys ∧ R (ItzQ t1 t2 K a b) H1
theorem pi_zipQ {X : Cx} {e e2 : Expr} {ta : TA} {p pos tpos : Pos} {elts : List Expr} {kk : Nat} (hg : Gl X "zip") (hm : X.mg "zip" = none) (ha : PA X [e, e2] ta)
    (hs : starEach [e, e2] X.env = (false, eval e X.env) :: starEach [e2] X.env := by rfl) (hpl : (backTo pos (starEach [e2] X.env)).any (·.1) = false := by rfl) :
    PI X (.Tuple elts kk tpos) (.Call (.Name "zip" p) [e, e2] [] pos) (iZipQ X.K ta) := by
  refine ⟨fun pins s σ H R I h => ?_⟩
  refine Call_ (ld_blt I hg hm PyProof.Rows.boot_zip (PyProof.Rows.callWith_type1 (thn (ha.run pos pins s σ H _ I h) fun us s1 ⟨vs, H1, I1, r1, q1⟩ => ?_) hs hpl))
  obtain ⟨a, b, t1, t2, xs, ys, ex, hqx, hqy, q⟩ := q1
  subst ex
  cases r1 with
  | cons r rr =>
    cases rr with
    | cons r' rr =>
      cases rr
      cases r
      cases r'
      obtain ⟨its, rv, p1⟩ := hqx.inv I1
      obtain ⟨its2, rv2, p2⟩ := hqy.inv I1
      refine zq_call p1 p2 fun h' S hk => wpAny_pyIter_zip S.z ?_
      refine ⟨s1.heap.objs.size + 4, [s1.heap.objs.size + 4, s1.heap.objs.size + 2, s1.heap.objs.size + 3, s1.heap.objs.size, s1.heap.objs.size + 1], _, _, H1, rfl, I1.kept (t' := s1.toks) hk, turnQ (zipApart_new p1.lt p2.lt), ⟨S.z, S.ti, ⟨_, _, S.to⟩, S.p1, S.p2⟩, fun c hc => ?_, q⟩
      have hle : s1.heap.objs.size ≤ c := by
        simp only [List.mem_cons, List.not_mem_nil, or_false] at hc
        rcases hc with e | e | e | e | e <;> rw [e]
        · exact Nat.le_add_right _ 4
        · exact Nat.le_add_right _ 2
        · exact Nat.le_add_right _ 3
        · exact Nat.le_refl _
        · exact Nat.le_add_right _ 1
      exact I1.fpOk hle (I1.hok.fresh hle)
variable [CTab]
def D.sqk : D → Bool
  | .tup _ => true
  | _ => false
def mZipX (m m' : M D) : M (List D) := fun ρ => bindR (m ρ) fun d ρ => bindR (m' ρ) fun e ρ => match d.seq, e.seq with
  | some l, some r => .ok (zipD l r) ρ
  | _, _ => .fail
theorem D.seq_q {K : PySem.W.Frag} {H : Hp} {Z : Addr → Prop} {d : D} {l : List D} {v : V} (h : d.seq = some l) (r : Rep K H Z d v) : ∃ p vs, v = .ref p ∧ SqQ d.sqk K H p vs ∧ Reps K H Z l vs := by
  cases d <;> simp only [D.seq, Option.some.injEq, reduceCtorEq] at h <;> subst h <;> simp only [Rep] at r
  · obtain ⟨p, vs, e, h1, h2⟩ := r
    exact ⟨p, vs, e, h1.sq, h2⟩
  · obtain ⟨p, vs, e, h1, h2⟩ := r
    exact ⟨p, vs, e, h1.sq, h2⟩
  · obtain ⟨p, vs, e, h1, h2⟩ := r
    exact ⟨p, vs, e, h1.sq, h2⟩
theorem wk_zipQ {K : PySem.W.Frag} {a b : Addr} {d d' : D} {l r : List D} (hd : d.seq = some l) (hd' : d'.seq = some r) : WkD K (ItzQ d.sqk d'.sqk K a b) (zipD l r) [(d, .ref a), (d', .ref b)] := by
  have at_ : ∀ (H : Hp) (Z : Addr → Prop), (∀ q ∈ [(d, V.ref a), (d', V.ref b)], Rep K H Z q.1 q.2) → ∃ vs us, SqQ d.sqk K H a vs ∧ Reps K H Z l vs ∧ SqQ d'.sqk K H b us ∧ Reps K H Z r us := fun H Z h => by
    obtain ⟨p, vs, e, h1, h2⟩ := D.seq_q hd (h (d, .ref a) (by simp))
    obtain ⟨p', us, e', h3, h4⟩ := D.seq_q hd' (h (d', .ref b) (by simp))
    cases e
    cases e'
    exact ⟨vs, us, h1, h2, h3, h4⟩
  refine ⟨fun H Z hz h i x hx => ?_, fun H Z h => ?_⟩
  · obtain ⟨vs, us, h1, h2, h3, h4⟩ := at_ H Z h
    obtain ⟨x1, y1, hx1, hy1, rfl⟩ := zipD_get hx
    obtain ⟨v, hv, rv⟩ := h2.get hx1
    obtain ⟨u, hu, ru⟩ := h4.get hy1
    refine ⟨⟨vs, us, v, u, h1, h3, hv, hu⟩, fun w H' hw => ?_⟩
    obtain ⟨T, x', y', rfl, hT, rfl, k1, k2⟩ := hw
    have e := k1 vs h1
    have e' := k2 us h3
    rw [hv] at e
    rw [hu] at e'
    cases e
    cases e'
    exact ⟨same_upd hT, new_tup hz hT (Reps.cons rv (Reps.one ru))⟩
  · obtain ⟨vs, us, h1, h2, h3, h4⟩ := at_ H Z h
    have := h2.len
    have := h4.len
    exact ⟨vs, us, h1, h3, by rw [zipD_len]; omega⟩
theorem i_zipX {X : Cx} {E : XK} {pos p tpos : Pos} {e e2 : Expr} {m m' : M D} {elts : List Expr} {kk : Nat} (he : PE X e (tD X.K E m)) (he2 : PE X e2 (tD X.K E m')) (hm : X.mg "zip" = none) (hg : Gl X "zip" := by rfl) (hs : starEach [e, e2] X.env = (false, eval e X.env) :: starEach [e2] X.env := by rfl) (hs2 : starEach [e2] X.env = (false, eval e2 X.env) :: starEach [] X.env := by rfl)
    (hpl : (backTo pos (starEach [e2] X.env)).any (·.1) = false := by rfl) : PI X (.Tuple elts kk tpos) (.Call (.Name "zip" p) [e, e2] [] pos) (iD X.K E (mZipX m m')) := by
  refine (pi_zipQ hg hm (pa_cons he (pa_cons he2 pa_nil hs2) hs) hs hpl).imp fun σ H R ⟨c, Z, ρ, r, q0⟩ => ⟨c, Z, ρ, r, iR.bind q0 fun d ρ1 v H1 r1 e1 h1 q1 => ⟨c, Z, ρ1, r1, iR.bind q1 fun d' ρ2 v' H2 r2 e2 h2 q => ?_⟩⟩
  have h1' := Rep.ext e2 _ _ h1
  cases g1 : d.seq with
  | none => simp only [g1] at q; exact q.elim
  | some l =>
    cases g2 : d'.seq with
    | none => simp only [g1, g2] at q; exact q.elim
    | some l' =>
      simp only [g1, g2] at q
      obtain ⟨a, vs, rfl, k1, k2⟩ := D.seq_q g1 h1'
      obtain ⟨b, us, rfl, k3, k4⟩ := D.seq_q g2 h2
      refine ⟨a, b, d.sqk, d'.sqk, vs, us, rfl, k1, k3, q _ _ H2 r2 Ext.refl (fun q hq => ?_) (wk_zipQ g1 g2)⟩
      rcases List.mem_cons.mp hq with e | hq
      · rw [e]
        exact h1'
      · rw [List.mem_singleton.mp hq]
        exact h2
end DL
set_option Elab.async false
set_option linter.all false
set_option maxRecDepth 100000
set_option maxHeartbeats 4000000
namespace DL
open PySem PySem.Spec PyProof.Rows L2
section
open PySem.SeqAt
open AutoSeq1 (wpAny_loadPart')
open MeetsSeq MeetsSeq2 MeetsSeq3 SeqRoads2
variable {prog : Program} {w : World} {A : Around} {R : Result → Shared → Prop}
/-! ### != of two lists whose items are equal, one by one -/
def ListN (prog : Program) (w : World) (A : Around) (E : Value → Shared → Prop) (l b : Addr) (N : Nat) (I : Nat → Shared → Prop) : Prop :=
  ∀ i s, I i s → ∃ (us ys : Array Value) (n n2 : Nat) (dd dd2 : Option Addr) (sl sl2 : Array (Option Value)), s.heap.get? l = some { cls := .type "list", dict := dd, data := .seq us n, slots := sl } ∧ s.heap.get? b = some { cls := .type "list", dict := dd2, data := .seq ys n2, slots := sl2 } ∧ us.size = N ∧ ys.size = N ∧
    ∀ (h1 : i < us.size) (h2 : i < ys.size), wpAny (model prog w) A.in1 (eqBool us[i] ys[i]) (fun r s' => r = true ∧ I (i + 1) s') E s
theorem ne_loopG (l b : Addr) (N : Nat) (I : Nat → Shared → Prop) (hl : ListN prog w A (fun e s' => R (.error e) s') l b N I) (fin : ∀ s, I N s → R (.ok (.ret (.bool false))) s) (k : Nat) :
    ∀ i : Nat, N - i = k → i ≤ N → ∀ s, I i s → wpAny (model prog w) A.in1 (Builtin.«list.__eq__.loop» ⟨[.ref l, .ref b, rawInt i, rawInt 3], []⟩) (GQ.FinOf prog w A R) (fun e s' => R (.error e) s') s := by
  induction k with
  | zero =>
    intro i hk hi s h
    obtain ⟨us, ys, n, n2, dd, dd2, sl, sl2, g1, g2, z1, z2, _⟩ := hl _ _ h
    have e : i = N := by omega
    have hR : R (.ok (.ret (.bool false))) s := fin s (e ▸ h)
    obtain ⟨hp, g, d, tk, os⟩ := s
    wp_walk using wpAny_loadPart' g1, wpAny_loadPart' g2
    have n1 : us[((i : Nat) : Int).toNat]? = none := by simp; omega
    have n2' : ys[((i : Nat) : Int).toNat]? = none := by simp; omega
    rw [n1, n2']
    wp_walk using wpAny_loadPart' g1, wpAny_loadPart' g2
    show R (.ok (.ret (.bool (us.size != ys.size)))) _
    rw [z1, z2]
    simpa using hR
  | succ k ih =>
    intro i hk hi s h
    obtain ⟨us, ys, n, n2, dd, dd2, sl, sl2, g1, g2, z1, z2, turn⟩ := hl _ _ h
    have q1 : i < us.size := by omega
    have q2 : i < ys.size := by omega
    have ht := turn q1 q2
    obtain ⟨hp, g, d, tk, os⟩ := s
    wp_walk using wpAny_loadPart' g1, wpAny_loadPart' g2
    have e1 : us[((i : Nat) : Int).toNat]? = some us[i] := by simp [q1]
    have e2 : ys[((i : Nat) : Int).toNat]? = some ys[i] := by simp [q2]
    have hc : ((i : Int) + 1) = ((i + 1 : Nat) : Int) := by omega
    rw [e1, e2]
    refine wpAny_bind (wpAny_mono ht (fun r s2 h2 => ?_) fun _ _ x => x)
    obtain ⟨hr, h2⟩ := h2
    subst hr
    have hrec := ih (i + 1) (by omega) (by omega) s2 h2
    obtain ⟨hp2, g2, d2, tk2, os2⟩ := s2
    wp_walk
    rw [hc]
    exact ⟨plainId_quiet plain_eq_loop _, codeAny_builtin entry_eq_loop (by
      rw [Around.under_plainId plain_eq_loop _]
      exact hrec)⟩
theorem list_neG (l b : Addr) (N : Nat) (I : Nat → Shared → Prop) (hl : ListN prog w A (fun e s' => R (.error e) s') l b N I) (fin : ∀ s, I N s → R (.ok (.ret (.bool false))) s) {s : Shared} (h : I 0 s) :
    wpAny (model prog w) A.in1 (Builtin.«list.__ne__» ⟨[.ref l, .ref b], []⟩) (GQ.FinOf prog w A R) (fun e s' => R (.error e) s') s := by
  obtain ⟨us, ys, n, n2, dd, dd2, sl, sl2, g1, g2, z1, z2, _⟩ := hl _ _ h
  have hrec := ne_loopG (A := A) (R := R) l b N I hl fin _ 0 rfl (Nat.zero_le _) s h
  obtain ⟨hp, g, d, tk, os⟩ := s
  have f3 := AutoSeq1.sub_list_list
  have hne : ¬ (us.size != ys.size) = true := by simp [z1, z2]
  wp_walk using wpAny_loadPart' g1, wpAny_loadPart' g2
  exact ⟨plainId_quiet plain_eq_loop _, codeAny_builtin entry_eq_loop (by
    rw [Around.under_plainId plain_eq_loop _]
    exact hrec)⟩
end
section
variable {prog : Program} {w : World} {A : Around} {E : Value → Shared → Prop} {s : Shared}
theorem rc_neG {l b : Addr} {N : Nat} {Q : Value → Shared → Prop} (hu : A.units < cLine) (I : Nat → Shared → Prop) (hl : ListN prog w A E l b N I) (fin : ∀ s, I N s → Q (.bool false) s) (h : I 0 s) : wpAny (model prog w) A (richCompare .NotEq (.ref l) (.ref b)) Q E s := by
  obtain ⟨us, ys, n, n2, dd, dd2, sl, sl2, g1, g2, _, _, _⟩ := hl _ _ h
  refine wpAny_richCompare_same_room (op := .NotEq) ⟨_, g1, rfl⟩ ⟨_, g2, rfl⟩ F.slot_list_ne (GQ.call_here F.slot_list_ne ⟨_, g1, rfl⟩ F.entry_list_ne (F.args_list_ne_2 _ _) ?_) hu
  exact list_neG (R := wants (fun v s' => v ≠ .notImplemented ∧ Q v s') E) l b N I hl (fun s' q => ⟨(fun x => nomatch x), fin s' q⟩) h
end
variable [CTab]
/-- own objects that their own == tells equal -/
def DOb (K : PySem.W.Frag) (gs : List (Nat × FD)) : Eqv := fun x y H => ∃ (Z : Addr → Prop) (d d' : D), (∀ p, Z p → H p ≠ none) ∧ Rep K H Z d x ∧ Rep K H Z d' y ∧ eqOb gs d d' = some true
theorem mon_ob {K : PySem.W.Frag} {gs : List (Nat × FD)} : Mon (DOb K gs) := fun x y H H' e d => by
  obtain ⟨Z, d, d', hz, h1, h2, h3⟩ := d
  refine ⟨Z, d, d', fun p hp q => ?_, Rep.ext (Ext.same e) _ _ h1, Rep.ext (Ext.same e) _ _ h2, h3⟩
  have := hz p hp
  cases e1 : H p with
  | none => exact this e1
  | some o =>
    rw [e p o e1] at q
    cases q
section
variable {X : Cx} {gs : List (Nat × FD)} {k j : Nat}
theorem rcG_ob (he : ∀ q ∈ gs, Eqer X.prog X.w X.K X.mg X.base CX0 k q.1 q.2) (hn : ∀ q ∈ gs, ∀ q' ∈ gs, PySem.W.notFirst X.K (He.ga X.K (cN q.1)) (.ref (He.ga X.K (cN q'.1))) = true) : RcG X k (DOb X.K gs) := by
  intro A pins s σ H x y u v sb I rx ry d
  obtain ⟨Z, a, b, hz, ra, rb, h⟩ := d
  cases a with
  | ob c l =>
    cases b with
    | ob c' l' =>
      unfold eqOb at h
      dsimp only at h
      cases e1 : gs.lookup c with
      | none => rw [e1] at h; cases h
      | some g =>
        cases e2 : gs.lookup c' with
        | none => rw [e1, e2] at h; cases h
        | some g' =>
          rw [e1, e2] at h
          dsimp only at h
          have ra0 := ra
          have rb0 := rb
          simp only [Rep] at ra rb
          obtain ⟨p, dx, vs, rfl, m1, h1, _, _⟩ := ra
          obtain ⟨p', dx', vs', rfl, m2, h2, _, _⟩ := rb
          cases (show u = Value.ref p from rx)
          cases (show v = Value.ref p' from ry)
          obtain ⟨f, fd, ps, hs, hf, F, hB⟩ := (he _ (lookup_inL e1)).ex
          have hsp : spF X.K 2 g [.ref p, .ref p'] H (fun v H' => v = .bl true ∧ Same H H') E0 := by
            refine ⟨Z, [.val (.ob c l), .val (.ob c' l')], rfl, hz, ⟨_, _, rfl, ra0, _, _, rfl, rb0, rfl⟩, by simp [inAd], ?_⟩
            cases e3 : g [.val (.ob c l), .val (.ob c' l')] with
            | fail => rw [e3] at h; cases h
            | exc c l => rw [e3] at h; cases h
            | ok d' ts =>
              rw [e3] at h
              dsimp only at h ⊢
              split at h
              · rename_i r he
                cases he
                cases h
                intro v H' hk _ hv
                exact ⟨hv, fun a o e => hk a o (by simp [inAd]) e⟩
              · cases h
          obtain ⟨mA, J, _⟩ := ins_get I.hok h1
          obtain ⟨mB, J', _⟩ := ins_get I.hok h2
          obtain ⟨od, J, _⟩ := J.look
          obtain ⟨od', J', _⟩ := J'.look
          obtain ⟨m, hF⟩ := I.fr
          refine PySem.W.cmp_K (op := .Eq) (tb := .ref (He.ga X.K (cN c'))) sb.room.units0 hF I.ok.mod.kin J J'.type (hn _ (lookup_inL e1) _ (lookup_inL e2)) hs hf ?_
          have e0 : Env0 X.prog X.w X.K X.mg X.base A X.stack s H := by
            have e := I.env0
            exact ⟨by rw [sb.fr]; exact e.frames, e.mod, e.bs, e.bsz, e.funs, e.frf, e.hok, e.bare⟩
          have hl := F.len _ _ _ _ hsp
          have r2 : Vals [V.ref p, V.ref p'] [Value.ref p, Value.ref p'] := .cons rfl (.cons rfl .nil)
          refine wpAny_call (codeAny_mono (F.run A X.stack s H ⟨[.ref p, .ref p'], []⟩ [.ref p, .ref p'] [.ref p, .ref p'] _ E0 sb.room e0 (by
            have := hB s [.ref p, .ref p'] I.kIn (by simpa using hl)
            simpa using this) r2 hsp) fun r s' hq => ?_)
          cases r with
          | error e => exact hq.elim
          | ok fl =>
            cases fl with
            | ret w =>
              obtain ⟨z, H', I', rz, ez, ex⟩ := I.after hq
              subst ez
              cases (show w = Value.bool true from rz)
              exact ⟨rfl, H', I', ex⟩
            | next => exact False.elim hq
            | brk => exact False.elim hq
            | cont => exact False.elim hq
    | _ => cases h
  | _ => cases h
theorem eqG_ob (he : ∀ q ∈ gs, Eqer X.prog X.w X.K X.mg X.base CX0 k q.1 q.2) (hn : ∀ q ∈ gs, ∀ q' ∈ gs, PySem.W.notFirst X.K (He.ga X.K (cN q.1)) (.ref (He.ga X.K (cN q'.1))) = true) : EqG X k (DOb X.K gs) := (rcG_ob he hn).eqG fun x y H d => by
  obtain ⟨Z, a, b, hz, ra, rb, h⟩ := d
  cases a with
  | ob c l =>
    cases b with
    | ob c' l' =>
      simp only [Rep] at ra rb
      obtain ⟨p, dx, vs, rfl, _⟩ := ra
      obtain ⟨p', dx', vs', rfl, _⟩ := rb
      exact ⟨p, p', rfl, rfl⟩
    | _ => cases h
  | _ => cases h
/-- two lists, item by item -/
def DLi (K : PySem.W.Frag) (D : Eqv) : Eqv := fun x y H => ∃ a b xs ys, x = .ref a ∧ y = .ref b ∧ SqL K H a xs ∧ SqL K H b ys ∧ Prs D xs ys H
def rNeG (K : PySem.W.Frag) (D : Eqv) : R2 := fun x y H Q => DLi K D x y H ∧ ∀ H', Same H H' → Q (.bl false) H'
theorem op_neG {D : Eqv} (hD : Mon D) (h : EqG X k D) (hr : Room (k + 1) X.A) : OpR X (compareOp .NotEq) (rNeG X.K D) := by
  intro pins s σ H x y v u Q I rx ry hq
  obtain ⟨⟨a, b, xs, ys, rfl, rfl, ha, hb, p⟩, q⟩ := hq
  cases (show v = Value.ref a from rx)
  cases (show u = Value.ref b from ry)
  have sb : Sub X (k + 1) X.A := ⟨hr, rfl⟩
  show wpAny _ _ (richCompare .NotEq (.ref a) (.ref b)) _ _ _
  refine rc_neG (N := xs.length) sb.room.units0 (fun _ s' => LoopI X pins σ H s') (fun i s' q => ?_) (fun s' ⟨H', I', e⟩ => ⟨.bl false, H', I', rfl, q H' e⟩) ⟨H, I, L2.Ext.rfl'⟩
  obtain ⟨H1, I1, e1⟩ := id q
  obtain ⟨its, r, e, _⟩ := I1.list (ha.ext e1)
  obtain ⟨its2, r2, e2, _⟩ := I1.list (hb.ext e1)
  obtain ⟨⟨cls, dd, data, sl⟩, n, e, ec, _, ed⟩ := e
  obtain ⟨⟨cls2, dd2, data2, sl2⟩, n2, e2, ec2, _, ed2⟩ := e2
  simp only at ec ed ec2 ed2
  subst ec ed ec2 ed2
  refine ⟨its.toArray, its2.toArray, n, n2, dd, dd2, sl, sl2, e, e2, by rw [List.size_toArray, ← r.length], by rw [List.size_toArray, ← r2.length, ← p.1], fun h1 h2 => ?_⟩
  exact turnG hD h sb p r r2 i h1 h2 s' q
/-- as data -/
def eqObs (gs : List (Nat × FD)) : List D → List D → Bool
  | [], [] => true
  | a :: l, b :: r => (eqOb gs a b == some true) && eqObs gs l r
  | _, _ => false
def dNeL (gs : List (Nat × FD)) (a b : D) : Option D := match a.lis, b.lis with
  | some l, some r => if eqObs gs l r = true then some (.bl false) else none
  | _, _ => none
def dNeLO (gs : List (Nat × FD)) (a b : D) : Option D := match dNeO gs a b with
  | some d => some d
  | none => dNeL gs a b
theorem eqObs_prs {K : PySem.W.Frag} {H : Hp} {Z : Addr → Prop} (hz : ∀ p, Z p → H p ≠ none) : ∀ {l r : List D} {xs ys : List V}, Reps K H Z l xs → Reps K H Z r ys → eqObs gs l r = true → Prs (DOb K gs) xs ys H
  | [], [], xs, ys, h1, h2, _ => by
    cases (show xs = [] from h1)
    cases (show ys = [] from h2)
    exact Prs.nil
  | a :: l, b :: r, xs, ys, h1, h2, h => by
    simp only [Reps] at h1 h2
    obtain ⟨x, xs', rfl, ra, h1⟩ := h1
    obtain ⟨y, ys', rfl, rb, h2⟩ := h2
    obtain ⟨q1, q2⟩ := He.ba h
    exact Prs.cons ⟨Z, a, b, hz, ra, rb, eq_of_beq q1⟩ (eqObs_prs hz h1 h2 q2)
  | [], _ :: _, xs, ys, h1, h2, h => by cases h
  | _ :: _, [], xs, ys, h1, h2, h => by cases h
theorem neL_opD {K : PySem.W.Frag} : OpD K (rNeG K (DOb K gs)) (dNeL gs) := by
  intro H Z a b d x y Q hz ra rb h kn
  unfold dNeL at h
  cases e1 : a.lis with
  | none => rw [e1] at h; cases h
  | some l =>
    cases e2 : b.lis with
    | none => rw [e1, e2] at h; cases h
    | some r =>
      rw [e1, e2] at h
      dsimp only at h
      split at h
      · rename_i hq
        cases h
        obtain ⟨p, vs, rfl, g1, g2⟩ := D.lis_rep e1 ra
        obtain ⟨p', vs', rfl, g3, g4⟩ := D.lis_rep e2 rb
        exact ⟨⟨p, p', vs, vs', rfl, rfl, g1, g3, eqObs_prs hz g2 g4 hq⟩, fun H' hs => kn _ H' hs rfl⟩
      · cases h
theorem c_neLO (he : ∀ q ∈ gs, Eqer X.prog X.w X.K X.mg X.base CX0 k q.1 q.2) (hn : ∀ q ∈ gs, ∀ q' ∈ gs, PySem.W.notFirst X.K (He.ga X.K (cN q.1)) (.ref (He.ga X.K (cN q'.1))) = true) (hr : Room j X.A) (hj : k + 1 ≤ j := by decide) : CmpD X .NotEq (dNeLO gs) := by
  obtain ⟨r, h1, h2⟩ := c_neO (X := X) he hn hr hj
  exact ⟨_, h1.or (op_neG mon_ob (eqG_ob he hn) (hr.mono hj)), h2.orL neL_opD⟩
end
end DL
set_option Elab.async false
set_option linter.all false
set_option maxRecDepth 100000
set_option maxHeartbeats 4000000
namespace DL
open PySem PySem.Spec PyProof.Rows L2
variable [CTab] {X : Cx} {E : XK} {pos : Pos}
/-! ### a, b, c = [..], 0, 0: the first one's own -/
def mPar3O (i j k : Nat) (mo : M Ct) (b c : Int) : M Fl := fun ρ => bindR (mo ρ) fun t ρ => .ok .nx (((ρ.set i (some (.own t))).set j (some (.val (.int b)))).set k (some (.val (.int c))))
theorem s_par3O (i j l : Nat) {x y z : Str} {a : Expr} {b c : Int} {mo : M Ct} {px py pz pt pb pc : Pos} {kt k2 pt2 kb kc} (hc : X.calm = true) (hN : X.N.Nodup) (ha : PE X a (tO X.K E mo)) (hi : X.N[i]? = some x := by rfl) (hj : X.N[j]? = some y := by rfl) (hl : X.N[l]? = some z := by rfl)
    (hij : i ≠ j := by decide) (hil : i ≠ l := by decide) (hjl : j ≠ l := by decide)
    (hx : X.env.scope.names.lookup x = some .local := by rfl) (hy : X.env.scope.names.lookup y = some .local := by rfl) (hz : X.env.scope.names.lookup z = some .local := by rfl)
    (hse : starEach [a, .Constant (.int b) kb pb, .Constant (.int c) kc pc] X.env = (false, eval a X.env) :: starEach [.Constant (.int b) kb pb, .Constant (.int c) kc pc] X.env := by rfl)
    (hw : swappedStores [.Tuple [.Name x px, .Name y py, .Name z pz] kt pt] (.Tuple [a, .Constant (.int b) kb pb, .Constant (.int c) kc pc] k2 pt2) X.env = pure (some [x, y, z]) := by rfl)
    (hs : swapsWithSole [.Tuple [.Name x px, .Name y py, .Name z pz] kt pt] (.Tuple [a, .Constant (.int b) kb pb, .Constant (.int c) kc pc] k2 pt2) pos.line X.env = pure false := by rfl) :
    PS X (.Assign [.Tuple [.Name x px, .Name y py, .Name z pz] kt pt] (.Tuple [a, .Constant (.int b) kb pb, .Constant (.int c) kc pc] k2 pt2) pos) (tS X.K E (mPar3O i j l mo b c)) := by
  refine (ps_par3 hc hN hi hj hl hij hil hjl hx hy hz (pa_cons ha (pa_cons pe_int (pa_cons pe_int pa_nil)) hse) hw hs).imp fun Dn σ H h => ?_
  obtain ⟨cz, ρ, ⟨Z, r⟩, q⟩ := h
  unfold mPar3O at q
  refine ⟨cz, Z, ρ, r, ?_⟩
  cases em : mo ρ with
  | fail => rw [em] at q; exact q
  | exc x l ρ1 => rw [em] at q; exact fun ed vs H' h1 h3 h4 h5 => q σ ed vs H' ⟨Z, h1⟩ h3 h4 (Reps.zed h1.z0 _ _ h5)
  | ok t ρ1 =>
    rw [em] at q
    exact fun p Z' H' n _ => ⟨_, _, _, rfl, q _ _ ⟨Z', ((n.set i).set (show Rep X.K H' Z' (.int b) (.int b) from rfl)).set (show Rep X.K H' Z' (.int c) (.int c) from rfl)⟩⟩
@[simp] theorem ev_mPar3O (i j k : Nat) (mo : M Ct) (b c : Int) (ρ : Env) : mPar3O i j k mo b c ρ = bindR (mo ρ) fun t ρ => .ok .nx (((ρ.set i (some (.own t))).set j (some (.val (.int b)))).set k (some (.val (.int c)))) := rfl
end DL
set_option Elab.async false
set_option linter.all false
set_option maxRecDepth 100000
set_option maxHeartbeats 4000000
namespace DL
open PySem PySem.Spec PyProof.Rows L2
variable [CTab]
/-! ### how the mirror words run -/
/-- what hangs on a value in its type alone: the simplifier leaves that value as it is -/
def Tied {α : Sort u} (_ : α) : Type := Unit
def tie {α : Sort u} (x : α) : Tied x := ()
def bnd {α β : Type} (k : α → Env → Res β) (_ : Tied k) (r : Res α) : Res β := bindR r k
@[simp ↓] theorem bindR_to {α β : Type} (r : Res α) (k : α → Env → Res β) : bindR r k = bnd k (tie k) r := rfl
@[simp] theorem bnd_ok {α β : Type} (a : α) (e : Env) (k : α → Env → Res β) (t : Tied k) : bnd k t (.ok a e) = k a e := Eq.trans rfl rfl
@[simp] theorem bnd_fail {α β : Type} (k : α → Env → Res β) (t : Tied k) : bnd k t .fail = .fail := rfl
@[simp] theorem bnd_exc {α β : Type} (x : Nat) (l : List D) (ρ : Env) (k : α → Env → Res β) (t : Tied k) : bnd k t (.exc x l ρ) = .exc x l ρ := rfl
def seqR (r : Res Fl) (b : M Fl) : Res Fl := match r with
  | .ok .nx ρ1 => b ρ1
  | r => r
def sqn (b : M Fl) (_ : Tied b) (r : Res Fl) : Res Fl := seqR r b
@[simp ↓] theorem seqR_to (r : Res Fl) (b : M Fl) : seqR r b = sqn b (tie b) r := rfl
@[simp] theorem sqn_nx (ρ : Env) (b : M Fl) (t : Tied b) : sqn b t (.ok .nx ρ) = b ρ := Eq.trans rfl rfl
@[simp] theorem sqn_bk (ρ : Env) (b : M Fl) (t : Tied b) : sqn b t (.ok .bk ρ) = .ok .bk ρ := rfl
@[simp] theorem sqn_ct (ρ : Env) (b : M Fl) (t : Tied b) : sqn b t (.ok .ct ρ) = .ok .ct ρ := rfl
@[simp] theorem sqn_rt (d : D) (ρ : Env) (b : M Fl) (t : Tied b) : sqn b t (.ok (.rt d) ρ) = .ok (.rt d) ρ := rfl
@[simp] theorem sqn_fail (b : M Fl) (t : Tied b) : sqn b t .fail = .fail := rfl
theorem seqR_nx (ρ : Env) (b : M Fl) : seqR (.ok .nx ρ) b = b ρ := rfl
theorem seqR_bk (ρ : Env) (b : M Fl) : seqR (.ok .bk ρ) b = .ok .bk ρ := rfl
theorem seqR_ct (ρ : Env) (b : M Fl) : seqR (.ok .ct ρ) b = .ok .ct ρ := rfl
theorem seqR_rt (d : D) (ρ : Env) (b : M Fl) : seqR (.ok (.rt d) ρ) b = .ok (.rt d) ρ := rfl
theorem seqR_fail (b : M Fl) : seqR .fail b = .fail := rfl
@[simp] theorem ev_mSeq (a b : M Fl) (ρ : Env) : mSeq a b ρ = seqR (a ρ) b := by
  unfold mSeq seqR
  rfl
def finR (x : Bool) (ws : List W) (r : Res Fl) : FR := match r with
  | .ok .nx ρ => finE .non ρ ws
  | .ok (.rt d) ρ => finE d ρ ws
  | .exc c l _ => if x = true then .exc c l else .fail
  | _ => .fail
@[simp] theorem finR_nx (x : Bool) (ws : List W) (ρ : Env) : finR x ws (.ok .nx ρ) = finE .non ρ ws := rfl
@[simp] theorem finR_rt (x : Bool) (ws : List W) (d : D) (ρ : Env) : finR x ws (.ok (.rt d) ρ) = finE d ρ ws := rfl
theorem ev_runF (n : Nat) (x : Bool) (m : M Fl) (ws : List W) : runF n x m ws = finR x ws (m (startE n ws)) := by
  unfold runF finR
  rfl
def backR (r : FR) (o : Option Nat) (ρ : Env) : Res D := match r with
  | .fail => .fail
  | .ok d ts => (match putBack ρ o ts with
    | some ρ' => .ok d ρ'
    | none => .fail)
  | .exc c l => match o with
    | none => .exc c l ρ
    | some _ => .fail
def callR (q : Option (List W × Option Nat)) (f : FD) (ρ : Env) : Res D := match q with
  | none => .fail
  | some (ws, o) => backR (f ws) o ρ
@[simp] theorem callR_some (ws : List W) (o : Option Nat) (f : FD) (ρ : Env) : callR (some (ws, o)) f ρ = backR (f ws) o ρ := Eq.trans rfl rfl
@[simp] theorem backR_ok0 (d : D) (ρ : Env) : backR (.ok d []) none ρ = .ok d ρ := Eq.trans rfl rfl
@[simp] theorem backR_ok1 (d : D) (t : Ct) (i : Nat) (ρ : Env) : backR (.ok d [t]) (some i) ρ = (match ρ[i]? with
    | some (some w) => .ok d (ρ.set i (some (w.put t)))
    | _ => .fail) := by
  show (match putBack ρ (some i) [t] with
    | some ρ' => Res.ok d ρ'
    | none => .fail) = _
  unfold putBack
  cases h : ρ[i]? with
  | none => simp only [h]
  | some x => cases x <;> simp only [h]
@[simp] theorem ev_mCall (f : FD) (ms : M (List Ar)) (ρ : Env) : mCall f ms ρ = bindR (ms ρ) fun as ρ => callR (toWs ρ as) f ρ := by
  unfold mCall
  congr 1
def optR (o : Option Env) : Res Fl := match o with
  | some ρ' => .ok .nx ρ'
  | none => .fail
@[simp] theorem optR_some (ρ : Env) : optR (some ρ) = .ok .nx ρ := rfl
@[simp] theorem ev_mAsg (g : MT) (m : M D) (ρ : Env) : mAsg g m ρ = bindR (m ρ) fun d ρ => optR (g d ρ) := by
  unfold mAsg optR
  rfl
@[simp] theorem ev_mVar (i : Nat) (ρ : Env) : mVar i ρ = (match ρ[i]? with
  | some (some (.val d)) => .ok d ρ
  | _ => .fail) := rfl
@[simp] theorem ev_mC (d : D) (ρ : Env) : mC d ρ = (.ok d ρ) := rfl
@[simp] theorem ev_m1 (f : D → Option D) (ma : M D) (ρ : Env) : m1 f ma ρ = (bindR (ma ρ) fun a ρ => liftO (f a) ρ) := rfl
@[simp] theorem ev_m2 (f : D → D → Option D) (ma mb : M D) (ρ : Env) : m2 f ma mb ρ = (bindR (ma ρ) fun a ρ => bindR (mb ρ) fun b ρ => liftO (f a b) ρ) := rfl
@[simp] theorem ev_mSl (ma : M D) (ml mh : Option (M D)) (ρ : Env) : mSl ma ml mh ρ = (bindR (ma ρ) fun a ρ => bindR (mOpt ml ρ) fun lo ρ => bindR (mOpt mh ρ) fun hi ρ => liftO (dCut a lo hi) ρ) := rfl
@[simp] theorem ev_mTest (m : M D) (ρ : Env) : mTest m ρ = (bindR (m ρ) fun d ρ => match d with
  | .bl b => .ok b ρ
  | _ => .fail) := rfl
@[simp] theorem ev_mChain (f g : D → D → Option D) (ma mb mc : M D) (ρ : Env) : mChain f g ma mb mc ρ = (bindR (ma ρ) fun a ρ => bindR (mb ρ) fun b ρ => match f a b with
  | some (.bl true) => bindR (mc ρ) fun c ρ => liftO (g b c) ρ
  | some (.bl false) => .ok (.bl false) ρ
  | _ => .fail) := rfl
@[simp] theorem ev_mTru (m : M D) (ρ : Env) : mTru m ρ = (bindR (m ρ) fun d ρ => liftO (dTru d) ρ) := rfl
@[simp] theorem ev_mAndT (ta tb : M Bool) (ρ : Env) : mAndT ta tb ρ = (bindR (ta ρ) fun k ρ => if k = true then tb ρ else .ok false ρ) := rfl
@[simp] theorem ev_mOrT (ta tb : M Bool) (ρ : Env) : mOrT ta tb ρ = (bindR (ta ρ) fun k ρ => if k = true then .ok true ρ else tb ρ) := rfl
@[simp] theorem ev_mNotT (ta : M Bool) (ρ : Env) : mNotT ta ρ = (bindR (ta ρ) fun k ρ => .ok (!k) ρ) := rfl
@[simp] theorem ev_mAndV (ma mb : M D) (ρ : Env) : mAndV ma mb ρ = (bindR (ma ρ) fun d ρ => match d with
  | .bl true => mb ρ
  | .bl false => .ok (.bl false) ρ
  | _ => .fail) := rfl
@[simp] theorem ev_mOrV (ma mb : M D) (ρ : Env) : mOrV ma mb ρ = (bindR (ma ρ) fun d ρ => match d with
  | .bl false => mb ρ
  | .bl true => .ok (.bl true) ρ
  | _ => .fail) := rfl
@[simp] theorem ev_mNotV (ma : M D) (ρ : Env) : mNotV ma ρ = (bindR (ma ρ) fun d ρ => match dTru d with
  | some k => .ok (.bl (!k)) ρ
  | none => .fail) := rfl
@[simp] theorem ev_mIfE (t : M Bool) (ma mb : M D) (ρ : Env) : mIfE t ma mb ρ = (bindR (t ρ) fun k ρ => if k = true then ma ρ else mb ρ) := rfl
@[simp] theorem ev_mNil (ρ : Env) : mNil  ρ = (.ok [] ρ) := rfl
@[simp] theorem ev_mCons (m : M D) (ms : M (List D)) (ρ : Env) : mCons m ms ρ = (bindR (m ρ) fun d ρ => bindR (ms ρ) fun l ρ => .ok (d :: l) ρ) := rfl
@[simp] theorem ev_mStar (m : M D) (ms : M (List D)) (ρ : Env) : mStar m ms ρ = (bindR (m ρ) fun d ρ => match d.seq with
  | some l => bindR (ms ρ) fun r ρ => .ok (l ++ r) ρ
  | none => .fail) := rfl
@[simp] theorem ev_mLst (ms : M (List D)) (ρ : Env) : mLst ms ρ = (bindR (ms ρ) fun l ρ => if l.length ≤ sizeLine then .ok (.lst l) ρ else .fail) := rfl
@[simp] theorem ev_mTup (ms : M (List D)) (ρ : Env) : mTup ms ρ = (bindR (ms ρ) fun l ρ => if l.length ≤ sizeLine then .ok (.tup l) ρ else .fail) := rfl
@[simp] theorem ev_mCa (f : List D → Option D) (ms : M (List D)) (ρ : Env) : mCa f ms ρ = (bindR (ms ρ) fun l ρ => liftO (f l) ρ) := rfl
@[simp] theorem ev_mANil (ρ : Env) : mANil  ρ = (.ok [] ρ) := rfl
@[simp] theorem ev_mACons (m : M D) (ms : M (List Ar)) (ρ : Env) : mACons m ms ρ = (bindR (m ρ) fun d ρ => bindR (ms ρ) fun l ρ => .ok (.d d :: l) ρ) := rfl
@[simp] theorem ev_mASlot (i : Nat) (ms : M (List Ar)) (ρ : Env) : mASlot i ms ρ = (match holds ρ i with
  | some _ => bindR (ms ρ) fun l ρ => .ok (.s i :: l) ρ
  | none => .fail) := rfl
@[simp] theorem ev_mGet1 (ma mb : M D) (ρ : Env) : mGet1 ma mb ρ = (bindR (ma ρ) fun x ρ => if isDct x = true then bindR (mb ρ) fun y ρ => liftO (dGet1 x y) ρ else .fail) := rfl
@[simp] theorem ev_mGet2 (ma mb mc : M D) (ρ : Env) : mGet2 ma mb mc ρ = (bindR (ma ρ) fun x ρ => if isDct x = true then bindR (mb ρ) fun y ρ => bindR (mc ρ) fun z ρ => liftO (dGet2 x y z) ρ else .fail) := rfl
@[simp] theorem ev_mIndexOf (f : D → D → Option D) (ma mb : M D) (ρ : Env) : mIndexOf f ma mb ρ = (bindR (ma ρ) fun x ρ => if x.lis.isSome = true then bindR (mb ρ) fun y ρ => liftO (f x y) ρ else .fail) := rfl
@[simp] theorem ev_mNew (c : Nat) (g : FD) (ms : M (List Ar)) (ρ : Env) : mNew c g ms ρ = (bindR (ms ρ) fun as ρ => match toWs ρ as with
  | some (ws, none) => (match g (.inn (.ob c []) :: ws) with
    | .ok .non [.ob c' l] => if c' = c then .ok (.ob c l) ρ else .fail
    | .exc x l => .exc x l ρ
    | _ => .fail)
  | _ => .fail) := rfl
@[simp] theorem ev_mSkip (ρ : Env) : mSkip  ρ = (.ok .nx ρ) := rfl
@[simp] theorem ev_mBreak (ρ : Env) : mBreak  ρ = (.ok .bk ρ) := rfl
@[simp] theorem ev_mCont (ρ : Env) : mCont  ρ = (.ok .ct ρ) := rfl
@[simp] theorem ev_mSet (i : Nat) (m : M D) (ρ : Env) : mSet i m ρ = (bindR (m ρ) fun d ρ => .ok .nx (ρ.set i (some (.val d)))) := rfl
@[simp] theorem ev_mRet (m : M D) (ρ : Env) : mRet m ρ = (bindR (m ρ) fun d ρ => .ok (.rt d) ρ) := rfl
@[simp] theorem ev_mRetN (ρ : Env) : mRetN  ρ = (.ok (.rt .non) ρ) := rfl
@[simp] theorem ev_mDo (m : M D) (ρ : Env) : mDo m ρ = (bindR (m ρ) fun _ ρ => .ok .nx ρ) := rfl
@[simp] theorem ev_mIf (t : M Bool) (a b : M Fl) (ρ : Env) : mIf t a b ρ = (bindR (t ρ) fun k ρ => if k = true then a ρ else b ρ) := rfl
@[simp] theorem ev_mFrz (i : Nat) (m : M Fl) (ρ : Env) : mFrz i m ρ = (match ρ[i]? with
  | some (some (.own t)) => m (ρ.set i (some (.val t.toD)))
  | _ => .fail) := rfl
@[simp] theorem ev_mDrop (i : Nat) (m : M Fl) (ρ : Env) : mDrop i m ρ = (m (ρ.set i none)) := rfl
@[simp] theorem ev_oLst (ms : M (List D)) (ρ : Env) : oLst ms ρ = (bindR (ms ρ) fun l ρ => if l.length ≤ sizeLine then .ok (.lst l) ρ else .fail) := rfl
@[simp] theorem ev_oDct (ρ : Env) : oDct  ρ = (.ok (.dct [] []) ρ) := rfl
@[simp] theorem ev_mSetO (i : Nat) (m : M Ct) (ρ : Env) : mSetO i m ρ = (bindR (m ρ) fun t ρ => .ok .nx (ρ.set i (some (.own t)))) := rfl
@[simp] theorem ev_mMut (i : Nat) (f : Ct → D → Option Ct) (m : M D) (ρ : Env) : mMut i f m ρ = (bindR (m ρ) fun d ρ => match ρ[i]? with
  | some (some w) => (match holds ρ i with
    | some t => (match f t d with
      | some t' => .ok .nx (ρ.set i (some (w.put t')))
      | none => .fail)
    | none => .fail)
  | _ => .fail) := rfl
@[simp] theorem ev_mApp (i : Nat) (m : M D) (ρ : Env) : mApp i m ρ = (match holds ρ i with
  | some (.lst _) => mMut i cApp m ρ
  | _ => .fail) := rfl
@[simp] theorem ev_mExt (i : Nat) (m : M D) (ρ : Env) : mExt i m ρ = (match holds ρ i with
  | some (.lst _) => mMut i cExt m ρ
  | _ => .fail) := rfl
@[simp] theorem ev_mAug (i : Nat) (f : D → D → Option D) (m : M D) (ρ : Env) : mAug i f m ρ = (match ρ[i]? with
  | some (some (.val a)) => bindR (m ρ) fun b ρ => (match f a b with
    | some d => .ok .nx (ρ.set i (some (.val d)))
    | none => .fail)
  | _ => .fail) := rfl
@[simp] theorem ev_mTN (i : Nat) (d : D) (ρ : Env) : mTN i d ρ = (some (ρ.set i (some (.val d)))) := rfl
@[simp] theorem ev_mTNil (l : List D) (ρ : Env) : mTNil  l ρ = (match l with
  | [] => some ρ
  | _ => none) := rfl
@[simp] theorem ev_mTCons (g : MT) (gs : MTs) (l : List D) (ρ : Env) : mTCons g gs l ρ = (match l with
  | d :: r => (g d ρ).bind (gs r)
  | _ => none) := rfl
@[simp] theorem ev_mTT (gs : MTs) (d : D) (ρ : Env) : mTT gs d ρ = (match d with
  | .tup l => gs l ρ
  | _ => none) := rfl
@[simp] theorem ev_mPar (i j : Nat) (ms : M (List D)) (ρ : Env) : mPar i j ms ρ = (bindR (ms ρ) fun l ρ => match l with
  | [a, b] => .ok .nx ((ρ.set i (some (.val a))).set j (some (.val b)))
  | _ => .fail) := rfl
@[simp] theorem ev_mItL (m : M D) (ρ : Env) : mItL m ρ = (bindR (m ρ) fun d ρ => liftO d.lis ρ) := rfl
@[simp] theorem ev_mItT (m : M D) (ρ : Env) : mItT m ρ = (bindR (m ρ) fun d ρ => match d with
  | .tup l => .ok l ρ
  | _ => .fail) := rfl
@[simp] theorem ev_mItLT (m : M D) (ρ : Env) : mItLT m ρ = (bindR (m ρ) fun d ρ => liftO d.seq ρ) := rfl
@[simp] theorem ev_mRng1 (m : M D) (ρ : Env) : mRng1 m ρ = (bindR (m ρ) fun d ρ => match d with
  | .int j => if lim62 j = true then .ok (rngD 0 j.toNat) ρ else .fail
  | _ => .fail) := rfl
@[simp] theorem ev_mRng2 (m m' : M D) (ρ : Env) : mRng2 m m' ρ = (bindR (m ρ) fun d ρ => bindR (m' ρ) fun e ρ => match d, e with
  | .int i, .int j => if (lim62 i && lim62 j) = true then .ok (rngD i (j - i).toNat) ρ else .fail
  | _, _ => .fail) := rfl
@[simp] theorem ev_mEnum (m : M D) (ρ : Env) : mEnum m ρ = (bindR (m ρ) fun d ρ => match d.lis with
  | some l => .ok (enumD 0 l) ρ
  | none => .fail) := rfl
@[simp] theorem ev_mZip (m m' : M D) (ρ : Env) : mZip m m' ρ = (bindR (m ρ) fun d ρ => bindR (m' ρ) fun e ρ => match d, e with
  | .tup l, .tup r => .ok (zipD l r) ρ
  | _, _ => (match d.lis, e.lis with
    | some l, some r => .ok (zipD l r) ρ
    | _, _ => .fail)) := rfl
@[simp] theorem ev_mTrue (ρ : Env) : mTrue  ρ = (.ok true ρ) := rfl
@[simp] theorem ev_mLcD (m : M (List D)) (ρ : Env) : mLcD m ρ = (bindR (m ρ) fun l ρ => .ok (.lst l) ρ) := rfl
@[simp] theorem ev_oLc (m : M (List D)) (ρ : Env) : oLc m ρ = (bindR (m ρ) fun l ρ => .ok (.lst l) ρ) := rfl
@[simp] theorem ev_mTruO (bs : List (Nat × FD)) (m : M D) (ρ : Env) : mTruO bs m ρ = (bindR (m ρ) fun d ρ => liftO (obTru bs d) ρ) := rfl
@[simp] theorem ev_mDisp (ms : List (M D × M D)) (ρ : Env) : mDisp ms ρ = (bindR (mPairs ms ρ) fun ps ρ => match mergeD [] [] ps with
  | some (ks, l) => if ps.length ≤ 15 then .ok (.dct ks l) ρ else .fail
  | none => .fail) := rfl
@[simp] theorem ev_mItS (m : M D) (ρ : Env) : mItS m ρ = (bindR (m ρ) fun d ρ => match d with
  | .str x => .ok (signs x) ρ
  | _ => .fail) := rfl
@[simp] theorem ev_mParDO (i j : Nat) (m : M D) (mo : M Ct) (ρ : Env) : mParDO i j m mo ρ = (bindR (m ρ) fun d ρ => bindR (mo ρ) fun t ρ => .ok .nx ((ρ.set i (some (.val d))).set j (some (.own t)))) := rfl
@[simp] theorem ev_mOwnIx (i : Nat) (m : M D) (ρ : Env) : mOwnIx i m ρ = (match holds ρ i with
  | some (.lst _) => bindR (m ρ) fun k ρ => match k, holds ρ i with
    | .int j, some (.lst l) => liftO (L2.atI l j) ρ
    | _, _ => .fail
  | _ => .fail) := rfl
@[simp] theorem ev_mMutNow (i : Nat) (f : Ct → D → Option Ct) (d : D) (ρ : Env) : mMutNow i f d ρ = (match ρ[i]? with
  | some (some w) => (match holds ρ i with
    | some t => (match f t d with
      | some t' => .ok .nx (ρ.set i (some (w.put t')))
      | none => .fail)
    | none => .fail)
  | _ => .fail) := rfl
@[simp] theorem ev_mAugIx (i : Nat) (mi : M D) (f : D → D → Option D) (m : M D) (ρ : Env) : mAugIx i mi f m ρ = (match holds ρ i with
  | some (.lst _) => bindR (mi ρ) fun k ρ => (match k, holds ρ i with
    | .int j, some (.lst l) => if 0 ≤ j ∧ j < 2 ^ 63 then (match L2.atI l j with
      | some d0 => bindR (m ρ) fun d ρ => (match f d0 d with
        | some d' => mMutNow i (cSetAt j) d' ρ
        | none => .fail)
      | none => .fail) else .fail
    | _, _ => .fail)
  | _ => .fail) := rfl
@[simp] theorem ev_mSetIx (i : Nat) (mi m : M D) (ρ : Env) : mSetIx i mi m ρ = (bindR (m ρ) fun d ρ => (match holds ρ i with
  | some (.lst _) => bindR (mi ρ) fun k ρ => (match k, holds ρ i with
    | .int j, some (.lst _) => mMutNow i (cSetAt j) d ρ
    | _, _ => .fail)
  | _ => .fail)) := rfl
@[simp] theorem ev_mOpt_none (ρ : Env) : mOpt none ρ = .ok none ρ := rfl
@[simp] theorem ev_mOpt_some (m : M D) (ρ : Env) : mOpt (some m) ρ = bindR (m ρ) fun d ρ => match d with
  | .int i => .ok (some i) ρ
  | _ => .fail := rfl
@[simp] theorem ev_mFor (mi : M (List D)) (g : MT) (b : M Fl) (ρ : Env) : mFor mi g b ρ = bindR (mi ρ) fun ds ρ => forGo g b ds ρ := rfl
@[simp] theorem ev_mComp (vs : List Nat) (mi : M (List D)) (g : MT) (t : M Bool) (m : M D) (ρ : Env) : mComp vs mi g t m ρ = bindR (mi ρ) fun ds ρ => if (vs.all (notOwn ρ) && decide (ds.length ≤ sizeLine)) = true then lcs (lcIt vs g t m) ds ρ else .fail := rfl
@[simp] theorem ev_mWhile (n : Nat) (t : M Bool) (b : M Fl) (ρ : Env) : mWhile n t b ρ = whileGo t b n ρ := rfl
@[simp] theorem ev_mIs (f : D → Option Bool) (m : M D) (ρ : Env) : mIs f m ρ = bindR (m ρ) fun d ρ => liftO ((f d).map .bl) ρ := rfl
@[simp] theorem ev_mFld (i c j : Nat) (m : M D) (ρ : Env) : mFld i c j m ρ = mMut i (cFld c j) m ρ := rfl
@[simp] theorem ev_mIndex (ma mb : M D) (ρ : Env) : mIndexOf dIndex ma mb ρ = bindR (ma ρ) fun x ρ => if x.lis.isSome = true then bindR (mb ρ) fun y ρ => liftO (dIndex x y) ρ else .fail := rfl
@[simp] theorem ev_mPairs_nil (ρ : Env) : mPairs [] ρ = .ok [] ρ := rfl
@[simp] theorem ev_mPairs_cons (mk mv : M D) (r : List (M D × M D)) (ρ : Env) : mPairs ((mk, mv) :: r) ρ = bindR (mk ρ) fun x ρ => bindR (mv ρ) fun y ρ => bindR (mPairs r ρ) fun l ρ => .ok ((x, y) :: l) ρ := rfl
end DL
set_option Elab.async false
set_option linter.all false
set_option maxRecDepth 100000
set_option maxHeartbeats 4000000
namespace DL
open PySem PySem.Spec PyProof.Rows L2
variable [CTab]
/-! ### values told as data, and their equality -/
/-- a way of telling values of a type as data -/
structure Enc (α : Type) where
  d : α → D
  p : α → PyData
  ok : α → Prop
  dep : Nat
  py : ∀ a, toPy (d a) = some (p a)
  lay : ∀ a, ok a → (p a).canLay0 = true
  depth : ∀ a, (p a).depth ≤ dep
  eqv : ∀ a b, PyData.eqv (p a) (p b) = true ↔ a = b
def eInt : Enc Int := ⟨.int, .int, fun _ => True, 0, fun _ => rfl, fun _ _ => rfl, fun _ => Nat.le_refl _, fun a b => by simp [PyData.eqv]⟩
def eStr : Enc Str := ⟨.str, .str, fun x => PyData.strOk x = true, 0, fun _ => rfl, fun _ h => h, fun _ => Nat.le_refl _, fun a b => by simp [PyData.eqv]⟩
section
variable {α β : Type} (e : Enc α) (e' : Enc β)
theorem Enc.pys : ∀ l : List α, toPys (l.map e.d) = some (l.map e.p)
  | [] => rfl
  | a :: l => by simp [toPys, e.py, Enc.pys l]
theorem Enc.lays : ∀ l : List α, (∀ a ∈ l, e.ok a) → PyData.canLayAll0 (l.map e.p) = true
  | [], _ => rfl
  | a :: l, h => by simp [PyData.canLayAll0, e.lay a (h a (by simp)), Enc.lays l fun b hb => h b (by simp [hb])]
theorem Enc.deps : ∀ l : List α, PyData.depthAll (l.map e.p) ≤ e.dep
  | [] => Nat.zero_le _
  | a :: l => by
    simp only [List.map_cons, PyData.depthAll]
    exact Nat.max_le.mpr ⟨e.depth a, Enc.deps l⟩
theorem Enc.eqvs : ∀ l r : List α, PyData.eqvAll (l.map e.p) (r.map e.p) = true ↔ l = r
  | [], [] => by simp [PyData.eqvAll]
  | [], _ :: _ => by simp [PyData.eqvAll]
  | _ :: _, [] => by simp [PyData.eqvAll]
  | a :: l, b :: r => by simp [PyData.eqvAll, e.eqv, Enc.eqvs l r]
def eLst : Enc (List α) := ⟨fun l => .lst (l.map e.d), fun l => .list (l.map e.p), fun l => ∀ a ∈ l, e.ok a, e.dep + 1, fun l => by simp [toPy, e.pys], fun l h => by simpa [PyData.canLay0] using e.lays l h, fun l => by
  show PyData.depthAll _ + 1 ≤ _
  exact Nat.succ_le_succ (e.deps l), fun a b => by simpa [PyData.eqv] using e.eqvs a b⟩
def eTup : Enc (List α) := ⟨fun l => .tup (l.map e.d), fun l => .tuple (l.map e.p), fun l => ∀ a ∈ l, e.ok a, e.dep + 1, fun l => by simp [toPy, e.pys], fun l h => by simpa [PyData.canLay0] using e.lays l h, fun l => by
  show PyData.depthAll _ + 1 ≤ _
  exact Nat.succ_le_succ (e.deps l), fun a b => by simpa [PyData.eqv] using e.eqvs a b⟩
def ePr : Enc (α × β) := ⟨fun q => .tup [e.d q.1, e'.d q.2], fun q => .tuple [e.p q.1, e'.p q.2], fun q => e.ok q.1 ∧ e'.ok q.2, max e.dep e'.dep + 1, fun q => by simp [toPy, toPys, e.py, e'.py], fun q h => by simp [PyData.canLay0, PyData.canLayAll0, e.lay _ h.1, e'.lay _ h.2], fun q => by
  show PyData.depthAll _ + 1 ≤ _
  simp only [PyData.depthAll]
  have h1 := e.depth q.1
  have h2 := e'.depth q.2
  omega, fun a b => by simp [PyData.eqv, PyData.eqvAll, e.eqv, e'.eqv, Prod.ext_iff]⟩
theorem Enc.shaped {a : α} (h : e.ok a) (hd : e.dep ≤ 64) : SeqAt.shaped (e.p a) = true := by
  unfold SeqAt.shaped
  rw [e.lay a h]
  exact decide_eq_true (Nat.le_trans (e.depth a) hd)
theorem Enc.eqDeep [DecidableEq α] {a b : α} (ha : e.ok a) (hb : e.ok b) (hd : e.dep ≤ 64) : DL.eqDeep (e.d a) (e.d b) = some (decide (a = b)) := by
  unfold DL.eqDeep
  rw [e.py, e.py]
  simp only [e.shaped ha hd, e.shaped hb hd, Bool.and_self, if_true]
  have h := e.eqv a b
  by_cases q : a = b
  · rw [h.mpr q]; simp [q]
  · have : PyData.eqv (e.p a) (e.p b) = false := Bool.eq_false_iff.mpr fun z => q (h.mp z)
    rw [this]; simp [q]
end
section
variable {α β : Type} (e : Enc α) (e' : Enc β)
theorem eq_lst [DecidableEq α] {l r : List α} (ha : ∀ a ∈ l, e.ok a) (hb : ∀ a ∈ r, e.ok a) (hd : e.dep ≤ 63) : eqB (.lst (l.map e.d)) (.lst (r.map e.d)) = some (decide (l = r)) :=
  (eLst e).eqDeep (a := l) (b := r) ha hb (Nat.succ_le_succ hd)
theorem eq_tup [DecidableEq α] {l r : List α} (ha : ∀ a ∈ l, e.ok a) (hb : ∀ a ∈ r, e.ok a) (hd : e.dep ≤ 63) : eqB (.tup (l.map e.d)) (.tup (r.map e.d)) = some (decide (l = r)) :=
  (eTup e).eqDeep (a := l) (b := r) ha hb (Nat.succ_le_succ hd)
end
@[simp] theorem eq_int (a b : Int) : eqB (.int a) (.int b) = some (decide (a = b)) := by
  simp [eqB, D.sc, scal]
@[simp] theorem eq_str (a b : Str) : eqB (.str a) (.str b) = some (decide (a = b)) := by
  simp [eqB, D.sc, scal]
@[simp] theorem eq_bl (a b : Bool) : eqB (.bl a) (.bl b) = some (decide (a = b)) := by
  simp [eqB, D.sc, scal]
/-! ### in -/
theorem scs_strs : ∀ l : List Str, scs (l.map D.str) = some (l.map V.str)
  | [] => rfl
  | a :: l => by simp [scs, D.sc, scs_strs l]
theorem scs_ints : ∀ l : List Int, scs (l.map D.int) = some (l.map V.int)
  | [] => rfl
  | a :: l => by simp [scs, D.sc, scs_ints l]
theorem inV_strs (x : Str) (l : List Str) : inV (.str x) (l.map V.str) = decide (x ∈ l) := by
  induction l with
  | nil => simp [inV]
  | cons a l ih =>
    unfold inV at ih ⊢
    rw [List.map_cons, List.any_cons, ih]
    simp only [eqV]
    by_cases h : a = x
    · subst h; simp
    · have h2 : ¬ x = a := fun z => h z.symm
      have h3 : (a == x) = false := by simpa using h
      simp [h2, h3]
@[simp] theorem in_strs (x : Str) (l : List Str) : dIn (.str x) (.lst (l.map D.str)) = some (.bl (decide (x ∈ l))) := by
  simp [dIn, inB, D.seq, D.sc, scs_strs, inV_strs]
@[simp] theorem in_strsT (x : Str) (l : List Str) : dIn (.str x) (.tup (l.map D.str)) = some (.bl (decide (x ∈ l))) := by
  simp [dIn, inB, D.seq, D.sc, scs_strs, inV_strs]
@[simp] theorem nin_strs (x : Str) (l : List Str) : dNotIn (.str x) (.lst (l.map D.str)) = some (.bl (!decide (x ∈ l))) := by
  simp [dNotIn, inB, D.seq, D.sc, scs_strs, inV_strs]
@[simp] theorem nin_strsT (x : Str) (l : List Str) : dNotIn (.str x) (.tup (l.map D.str)) = some (.bl (!decide (x ∈ l))) := by
  simp [dNotIn, inB, D.seq, D.sc, scs_strs, inV_strs]
/-! ### index -/
theorem idxV_strs (x : Str) : ∀ l : List Str, idxV (.str x) (l.map V.str) = if x ∈ l then some (l.idxOf x) else none
  | [] => rfl
  | a :: l => by
    simp only [List.map_cons, idxV, idxV_strs x l, eqV]
    by_cases h : a = x
    · subst h; simp
    · have h2 : ¬ x = a := fun z => h z.symm
      have h3 : (a == x) = false := by simpa using h
      rw [List.idxOf_cons]
      by_cases hm : x ∈ l <;> simp [h2, h3, hm]
theorem index_strs {x : Str} {l : List Str} (h : x ∈ l) : dIndex (.lst (l.map D.str)) (.str x) = some (.int (l.idxOf x : Nat)) := by
  simp [dIndex, D.lis, D.sc, scs_strs, idxV_strs, h]
/-! ### comprehensions -/
theorem lcs_all {f : D → Env → Res (Option D)} {ρ : Env} (F : D → Option D) : ∀ ds : List D, (∀ d ∈ ds, f d ρ = .ok (F d) ρ) → lcs f ds ρ = .ok (ds.filterMap F) ρ
  | [], _ => rfl
  | d :: ds, h => by
    unfold lcs
    rw [h d (by simp)]
    simp only [lcs_all F ds fun x hx => h x (by simp [hx])]
    cases e : F d <;> simp [e]
/-- over told values: those that pass, each as told by m -/
theorem lcs_enc {α β : Type} {f : D → Env → Res (Option D)} {ρ : Env} (e : α → D) (o : β → D) (F : α → Option β) (l : List α) (h : ∀ a ∈ l, f (e a) ρ = .ok ((F a).map o) ρ) : lcs f (l.map e) ρ = .ok ((l.filterMap F).map o) ρ := by
  induction l with
  | nil => rfl
  | cons a l ih =>
    rw [List.map_cons]
    unfold lcs
    rw [h a (by simp)]
    simp only [ih fun x hx => h x (by simp [hx])]
    cases e : F a <;> simp [e]
theorem dBls_map : ∀ l : List Bool, dBls (l.map D.bl) = some l
  | [] => rfl
  | a :: l => by simp [dBls, dBls_map l]
theorem dStrs_map : ∀ l : List Str, dStrs (l.map D.str) = some l
  | [] => rfl
  | a :: l => by simp [dStrs, dStrs_map l]
@[simp] theorem all_map (l : List Bool) : fAll [.lst (l.map D.bl)] = some (.bl (l.all id)) := by simp [fAll, D.lis, dBls_map]
@[simp] theorem any_map (l : List Bool) : fAny [.lst (l.map D.bl)] = some (.bl (l.any id)) := by simp [fAny, D.lis, dBls_map]
theorem cutD_map {α : Type} (e : α → D) (l : List α) (lo hi : Option Int) : cutD (l.map e) lo hi = ((l.drop (HT.sIx l.length 0 lo)).take (HT.sIx l.length l.length hi - HT.sIx l.length 0 lo)).map e := by
  unfold cutD
  simp [List.map_drop, List.map_take]
theorem enumD_map {α : Type} (e : α → D) : ∀ (l : List α) (k : Nat), enumD k (l.map e) = (l.zipIdx k).map fun q => .tup [.int (q.2 : Nat), e q.1]
  | [], _ => rfl
  | a :: l, k => by simp [enumD, enumD_map e l (k + 1)]
theorem zipD_map {α β : Type} (e : α → D) (f : β → D) : ∀ (l : List α) (r : List β), zipD (l.map e) (r.map f) = (l.zip r).map fun q => .tup [e q.1, f q.2]
  | [], r => by cases r <;> simp [zipD]
  | a :: l, [] => by simp [zipD]
  | a :: l, b :: r => by simp [zipD, zipD_map e f l r]
theorem atI_map {α : Type} (f : α → D) (ns : List α) (i : Int) : L2.atI (ns.map f) i = (L2.atI ns i).map f := by
  unfold L2.atI
  rw [List.length_map]
  cases ixN ns.length i <;> simp
end DL
set_option Elab.async false
set_option linter.all false
set_option maxRecDepth 100000
set_option maxHeartbeats 4000000
namespace DL
open PySem PySem.Spec PyProof.Rows L2
variable [CTab]
/-! ### how the later mirror words run -/
@[simp] theorem ev_mComp2 (vs : List Nat) (mi : M (List D)) (g : MT) (t : M Bool) (vs1 : List Nat) (mi1 : M (List D)) (g1 : MT) (t1 : M Bool) (m : M D) (ρ : Env) : mComp2 vs mi g t vs1 mi1 g1 t1 m ρ = bindR (mi ρ) fun ds ρ => if vs.all (notOwn ρ) = true then (match lcs2 (lcIt2 vs g t vs1 mi1 g1 t1 m) ds ρ with
    | .ok l ρ' => if l.length ≤ sizeLine then .ok l ρ' else .fail
    | _ => .fail) else .fail := rfl
@[simp] theorem ev_mPlain (c : Nat) (ρ : Env) : mPlain c ρ = .ok (.ob c []) ρ := rfl
@[simp] theorem ev_mAsgX (gs : MTs) (m : M D) (ρ : Env) : mAsgX gs m ρ = bindR (m ρ) fun d ρ => match d with
  | .tup l => optR (gs l ρ)
  | _ => .fail := by
  unfold mAsgX optR
  rfl
@[simp] theorem ev_mXN (i : Nat) (gs : MTs) (d : D) (l : List D) (ρ : Env) : mXN i gs (d :: l) ρ = gs l (ρ.set i (some (.val d))) := rfl
@[simp] theorem ev_mXI (i : Nat) (mi : M D) (gs : MTs) (d : D) (l : List D) (ρ : Env) : mXI i mi gs (d :: l) ρ = (match holds ρ i with
    | some (.lst _) => (match mi ρ with
      | .ok (.int j) ρ1 => (match mMutNow i (cSetAt j) d ρ1 with
        | .ok .nx ρ2 => gs l ρ2
        | _ => none)
      | _ => none)
    | _ => none) := rfl
@[simp] theorem ev_mXF (i c j : Nat) (gs : MTs) (d : D) (l : List D) (ρ : Env) : mXF i c j gs (d :: l) ρ = (match mMutNow i (cFld c j) d ρ with
    | .ok .nx ρ1 => gs l ρ1
    | _ => none) := rfl
@[simp] theorem ev_mLstRng1 (m : M D) (ρ : Env) : mLstRng1 m ρ = bindR (m ρ) fun d ρ => match d with
  | .int j => if lim4 j = true then .ok (.lst (rngD 0 j.toNat)) ρ else .fail
  | _ => .fail := rfl
@[simp] theorem ev_mLstRng2 (m m' : M D) (ρ : Env) : mLstRng2 m m' ρ = bindR (m ρ) fun d ρ => bindR (m' ρ) fun d' ρ => match d, d' with
  | .int i, .int j => if (lim4 i && lim4 j) = true then .ok (.lst (rngD i (j - i).toNat)) ρ else .fail
  | _, _ => .fail := rfl
/-! ### statements one behind another -/
theorem seq_nx {a b : M Fl} {ρ ρ1 : Env} {r : Res Fl} (h : a ρ = .ok .nx ρ1) (k : b ρ1 = r) : mSeq a b ρ = r := by
  rw [ev_mSeq, h]
  exact k
theorem seq_to {a b : M Fl} {ρ : Env} {P : Res Fl → Prop} (h : ∃ ρ1, a ρ = .ok .nx ρ1 ∧ P (b ρ1)) : P (mSeq a b ρ) := by
  obtain ⟨ρ1, h1, h2⟩ := h
  rw [ev_mSeq, h1]
  exact h2
theorem seq_rt {a b : M Fl} {ρ ρ1 : Env} {d : D} (h : a ρ = .ok (.rt d) ρ1) : mSeq a b ρ = .ok (.rt d) ρ1 := by
  rw [ev_mSeq, h]
  rfl
/-! ### walks that keep a relation -/
theorem for_rel {α σ : Type} {g : MT} {b : M Fl} (R : σ → Env → Prop) (f : σ → α → σ) (e : α → D) : ∀ (l : List α), (∀ a ∈ l, ∀ s ρ, R s ρ → ∃ ρ1 ρ2, g (e a) ρ = some ρ1 ∧ b ρ1 = .ok .nx ρ2 ∧ R (f s a) ρ2) → ∀ s ρ, R s ρ → ∃ ρ', forGo g b (l.map e) ρ = .ok .nx ρ' ∧ R (l.foldl f s) ρ'
  | [], _, s, ρ, h => ⟨ρ, rfl, h⟩
  | a :: l, k, s, ρ, h => by
    obtain ⟨ρ1, ρ2, h1, h2, h3⟩ := k a (by simp) s ρ h
    obtain ⟨ρ', h4, h5⟩ := for_rel R f e l (fun x hx => k x (by simp [hx])) (f s a) ρ2 h3
    refine ⟨ρ', ?_, h5⟩
    rw [List.map_cons]
    unfold forGo
    rw [h1]
    simp only [h2]
    exact h4
/-- .. each turn goes on -/
theorem for_keep {g : MT} {b : M Fl} (R : Env → Prop) : ∀ (ds : List D), (∀ d ∈ ds, ∀ ρ, R ρ → ∃ ρ1 ρ2, g d ρ = some ρ1 ∧ b ρ1 = .ok .nx ρ2 ∧ R ρ2) → ∀ ρ, R ρ → ∃ ρ', forGo g b ds ρ = .ok .nx ρ' ∧ R ρ'
  | [], _, ρ, h => ⟨ρ, rfl, h⟩
  | d :: ds, k, ρ, h => by
    obtain ⟨ρ1, ρ2, h1, h2, h3⟩ := k d (by simp) ρ h
    obtain ⟨ρ', h4, h5⟩ := for_keep R ds (fun x hx => k x (by simp [hx])) ρ2 h3
    refine ⟨ρ', ?_, h5⟩
    unfold forGo
    rw [h1]
    simp only [h2]
    exact h4
/-- up to the first item at which the body hands back, if there is one -/
theorem for_find {α : Type} {g : MT} {b : M Fl} (R : Env → Prop) (p : α → Bool) (r : α → D) (e : α → D) : ∀ (l : List α), (∀ a ∈ l, ∀ ρ, R ρ → ∃ ρ1 ρ2, g (e a) ρ = some ρ1 ∧ ((p a = false ∧ b ρ1 = .ok .nx ρ2 ∧ R ρ2) ∨ (p a = true ∧ b ρ1 = .ok (.rt (r a)) ρ2))) → ∀ ρ, R ρ →
    (∃ ρ', l.find? p = none ∧ forGo g b (l.map e) ρ = .ok .nx ρ' ∧ R ρ') ∨ ∃ a ρ', l.find? p = some a ∧ forGo g b (l.map e) ρ = .ok (.rt (r a)) ρ'
  | [], _, ρ, h => .inl ⟨ρ, rfl, rfl, h⟩
  | a :: l, k, ρ, h => by
    obtain ⟨ρ1, ρ2, h1, h2⟩ := k a (by simp) ρ h
    rw [List.map_cons]
    unfold forGo
    rw [h1]
    rcases h2 with ⟨h2, h3, h4⟩ | ⟨h2, h3⟩
    · simp only [h3]
      rw [List.find?_cons_of_neg (by rw [h2]; simp)]
      exact for_find R p r e l (fun x hx => k x (by simp [hx])) ρ2 h4
    · simp only [h3]
      exact .inr ⟨a, ρ2, by rw [List.find?_cons_of_pos h2], rfl⟩
/-- items that draw: what comes of each is as ok says -/
theorem lcs_draw {β : Type} {f : D → Env → Res (Option D)} (R : Env → Prop) (o : β → D) (ok : β → Prop) : ∀ (ds : List D), (∀ d ∈ ds, ∀ ρ, R ρ → ∃ x ρ', f d ρ = .ok (some (o x)) ρ' ∧ ok x ∧ R ρ') → ∀ ρ, R ρ → ∃ (l : List β) (ρ' : Env), lcs f ds ρ = .ok (l.map o) ρ' ∧ l.length = ds.length ∧ (∀ x ∈ l, ok x) ∧ R ρ'
  | [], _, ρ, h => ⟨[], ρ, rfl, rfl, by simp, h⟩
  | d :: ds, k, ρ, h => by
    obtain ⟨x, ρ1, h1, h2, h3⟩ := k d (by simp) ρ h
    obtain ⟨l, ρ', h4, h5, h6, h7⟩ := lcs_draw R o ok ds (fun x hx => k x (by simp [hx])) ρ1 h3
    refine ⟨x :: l, ρ', ?_, by simp [h5], fun y hy => (List.mem_cons.mp hy).elim (fun e => e ▸ h2) (h6 y), h7⟩
    unfold lcs
    rw [h1]
    simp only [h4]
    rfl
/-- items that a draw takes or leaves -/
theorem lcs_some {α : Type} {f : D → Env → Res (Option D)} (R : Env → Prop) (o : α → D) (q : D → D) : ∀ (as : List α), (∀ a ∈ as, ∀ ρ, R ρ → ∃ ρ', (f (o a) ρ = .ok none ρ' ∨ f (o a) ρ = .ok (some (o a)) ρ') ∧ R ρ') → ∀ ρ, R ρ → ∃ (l : List α) (ρ' : Env), lcs f (as.map o) ρ = .ok (l.map o) ρ' ∧ l.Sublist as ∧ R ρ'
  | [], _, ρ, h => ⟨[], ρ, rfl, .slnil, h⟩
  | a :: as, k, ρ, h => by
    obtain ⟨ρ1, h1, h3⟩ := k a (by simp) ρ h
    obtain ⟨l, ρ', h4, h5, h6⟩ := lcs_some R o q as (fun x hx => k x (by simp [hx])) ρ1 h3
    rw [List.map_cons]
    unfold lcs
    rcases h1 with h1 | h1
    · rw [h1]
      exact ⟨l, ρ', by simp only [h4], h5.cons a, h6⟩
    · rw [h1]
      simp only [h4]
      exact ⟨a :: l, ρ', rfl, h5.cons₂ a, h6⟩
/-- nothing drawn: each item told by a function -/
theorem lcs_map {α β : Type} {f : D → Env → Res (Option D)} {ρ : Env} (e : α → D) (o : β → D) (F : α → β) (l : List α) (h : ∀ a ∈ l, f (e a) ρ = .ok (some (o (F a))) ρ) : lcs f (l.map e) ρ = .ok ((l.map F).map o) ρ := by
  have := lcs_enc (f := f) (ρ := ρ) e o (fun a => some (F a)) l (fun a ha => by rw [h a ha]; rfl)
  rw [this]
  congr 2
  simp
theorem lcs_filter {α β : Type} {f : D → Env → Res (Option D)} {ρ : Env} (e : α → D) (o : β → D) (p : α → Bool) (F : α → β) (l : List α) (h : ∀ a ∈ l, f (e a) ρ = .ok (if p a = true then some (o (F a)) else none) ρ) : lcs f (l.map e) ρ = .ok (((l.filter p).map F).map o) ρ := by
  have := lcs_enc (f := f) (ρ := ρ) e o (fun a => if p a = true then some (F a) else none) l (fun a ha => by rw [h a ha]; by_cases c : p a = true <;> simp [c])
  rw [this]
  congr 2
  clear h this
  induction l with
  | nil => rfl
  | cons a l ih => by_cases c : p a = true <;> simp [c, ih]
theorem lcs2_map {α β : Type} {f : D → Env → Res (List D)} {ρ : Env} (e : α → D) (o : β → D) (F : α → List β) : ∀ (l : List α), (∀ a ∈ l, f (e a) ρ = .ok ((F a).map o) ρ) → lcs2 f (l.map e) ρ = .ok ((l.flatMap F).map o) ρ
  | [], _ => rfl
  | a :: l, h => by
    rw [List.map_cons]
    unfold lcs2
    rw [h a (by simp)]
    simp only [lcs2_map e o F l fun x hx => h x (by simp [hx])]
    simp
theorem ofVal (ρ : Env) (i : Nat) (o : Option D) (h : ρ[i]? = some (o.map W.val)) : notOwn ρ i = true := by
  unfold notOwn
  rw [h]
  cases o <;> rfl
theorem sizeL {n : Nat} (h : n ≤ 1000) : n ≤ sizeLine := Nat.le_trans h (by decide)
theorem dInts_map : ∀ l : List Int, dInts (l.map D.int) = some l
  | [] => rfl
  | a :: l => by simp [dInts, dInts_map l]
@[simp] theorem sum_ints (l : List Int) : fSum [.lst (l.map D.int)] = some (.int l.sum) := by simp [fSum, D.lis, dInts_map]
end DL
namespace DL
open PySem PySem.Spec PyProof.Rows L2
variable [CTab]
theorem lcs_tru {α : Type} {f : D → DL.Env → DL.Res (Option D)} {ρ : DL.Env} (e : α → D) (l : List α) (h : ∀ a ∈ l, f (e a) ρ = .ok (some (.bl true)) ρ) : lcs f (l.map e) ρ = (.ok (List.replicate l.length (D.bl true)) ρ) := by
  rw [lcs_enc e D.bl (fun _ => some true) l (fun a ha => by rw [h a ha]; rfl)]
  congr 1
  clear h
  induction l with
  | nil => rfl
  | cons a l ih => simpa [List.replicate_succ] using ih
theorem all_rep (n : Nat) : fAll [.lst (List.replicate n (D.bl true))] = some (.bl true) := by
  have := all_map (List.replicate n true)
  simp at this
  simpa using this
theorem lenSet_lst {l : List Str} (h : l.Nodup) (h2 : l.length ≤ 4000) : dLenSet (.lst (l.map D.str)) = some (.int (l.length : Nat)) := by
  simp [dLenSet, dStrs_map, h, h2]
theorem lenSet_tup {l : List Str} (h : l.Nodup) (h2 : l.length ≤ 4000) : dLenSet (.tup (l.map D.str)) = some (.int (l.length : Nat)) := by
  simp [dLenSet, dStrs_map, h, h2]
/-- a walk with numbers: nothing but the walk's own slots changes, and each turn goes on -/
theorem for_pass {g : MT} {b : M Fl} (R : Env → Prop) (ds : List D) (h : ∀ d ∈ ds, ∀ ρ, R ρ → ∃ ρ1, g d ρ = some ρ1 ∧ b ρ1 = .ok .nx ρ1 ∧ R ρ1) : ∀ ρ, R ρ → ∃ ρ', forGo g b ds ρ = .ok .nx ρ' ∧ R ρ' :=
  for_keep R ds fun d hd ρ hr => by
    obtain ⟨ρ1, h1, h2, h3⟩ := h d hd ρ hr
    exact ⟨ρ1, ρ1, h1, h2, h3⟩
end DL
namespace DL
open PySem PySem.Spec PyProof.Rows L2
variable [CTab]
theorem enumD_mem {α : Type} (e : α → D) : ∀ (l : List α) (k : Nat) (d : D), d ∈ enumD k (l.map e) → ∃ (i : Nat) (a : α), a ∈ l ∧ d = .tup [.int (i : Int), e a]
  | [], _, d, h => by simp [enumD] at h
  | a :: l, k, d, h => by
    simp only [List.map_cons, enumD, List.mem_cons] at h
    rcases h with h | h
    · exact ⟨k, a, by simp, h⟩
    · obtain ⟨i, x, h1, h2⟩ := enumD_mem e l (k + 1) d h
      exact ⟨i, x, by simp [h1], h2⟩
end DL
namespace DL
/-- all rows that can be left of a row -/
def subs {α : Type} : List α → List (List α)
  | [] => [[]]
  | a :: l => subs l ++ (subs l).map (a :: ·)
theorem mem_subs {α : Type} : ∀ {m l : List α}, l.Sublist m → l ∈ subs m
  | _, _, .slnil => by simp [subs]
  | _, _, .cons a h => by simp [subs, mem_subs h]
  | _, _, .cons₂ a h => by
    simp only [subs, List.mem_append, List.mem_map]
    exact .inr ⟨_, mem_subs h, rfl⟩
end DL
namespace DL
open PySem PySem.Spec PyProof.Rows L2
variable [CTab]
/-- whether a slot holds no thing of one's own -/
def noW : Option (Option W) → Bool
  | some (some (.own _)) => false
  | some (some (.inn _)) => false
  | _ => true
theorem notOwn_eq (ρ : Env) (i : Nat) : notOwn ρ i = noW ρ[i]? := rfl
@[simp] theorem noW_val (d : D) : noW (some (some (.val d))) = true := rfl
@[simp] theorem noW_none : noW (some none) = true := rfl
@[simp] theorem noW_no : noW none = true := rfl
@[simp] theorem noW_map (o : Option D) : noW (some (o.map W.val)) = true := by cases o <;> rfl
/-- a walk whose relation speaks of what was taken -/
theorem for_pre {α : Type} {g : MT} {b : M Fl} (R : List α → Env → Prop) (e : α → D) (l : List α) (h : ∀ pre a suf, l = pre ++ a :: suf → ∀ ρ, R pre ρ → ∃ ρ1 ρ2, g (e a) ρ = some ρ1 ∧ b ρ1 = .ok .nx ρ2 ∧ R (pre ++ [a]) ρ2) : ∀ ρ, R [] ρ → ∃ ρ', forGo g b (l.map e) ρ = .ok .nx ρ' ∧ R l ρ' := by
  have gen : ∀ (suf pre : List α), l = pre ++ suf → ∀ ρ, R pre ρ → ∃ ρ', forGo g b (suf.map e) ρ = .ok .nx ρ' ∧ R l ρ' := by
    intro suf
    induction suf with
    | nil => intro pre e1 ρ hr; exact ⟨ρ, rfl, by rw [e1, List.append_nil]; exact hr⟩
    | cons a suf ih =>
      intro pre e1 ρ hr
      obtain ⟨ρ1, ρ2, h1, h2, h3⟩ := h pre a suf e1 ρ hr
      obtain ⟨ρ', h4, h5⟩ := ih (pre ++ [a]) (by rw [e1]; simp) ρ2 h3
      refine ⟨ρ', ?_, h5⟩
      rw [List.map_cons]
      unfold forGo
      rw [h1]
      simp only [h2]
      exact h4
  exact fun ρ hr => gen l [] rfl ρ hr
end DL
set_option Elab.async false
set_option linter.all false
set_option maxRecDepth 100000
set_option maxHeartbeats 4000000
namespace DL
open PySem PySem.Spec PyProof.Rows L2
variable [CTab]
@[simp] theorem ev_mZipX (m m' : M D) (ρ : Env) : mZipX m m' ρ = (bindR (m ρ) fun d ρ => bindR (m' ρ) fun e ρ => match d.seq, e.seq with
  | some l, some r => .ok (zipD l r) ρ
  | _, _ => .fail) := rfl
@[simp] theorem seq_lst (l : List D) : (D.lst l).seq = some l := rfl
@[simp] theorem seq_tup (l : List D) : (D.tup l).seq = some l := rfl
@[simp] theorem seq_rol (l : List D) : (D.rol l).seq = some l := rfl
@[simp] theorem ev_callF (g : FD) (as : List Ar) (ρ : Env) : callF g as ρ = callR (toWs ρ as) g ρ := by
  unfold callF callR
  rfl
@[simp] theorem ev_mMeth (gs : List (Nat × FD)) (ma : M D) (ms : M (List Ar)) (ρ : Env) : mMeth gs ma ms ρ = bindR (ma ρ) fun d ρ => match d with
  | .ob c l => (match gs.lookup c with
    | some g => bindR (ms ρ) fun as ρ => callR (toWs ρ (.d (.ob c l) :: as)) g ρ
    | none => .fail)
  | _ => .fail := by
  unfold mMeth
  rfl
@[simp] theorem eqB_ob (c c' : Nat) (l l' : List D) : eqB (.ob c l) (.ob c' l') = none := by
  simp [eqB, D.sc, eqDeep, toPy]
theorem dEqO_ob (gs : List (Nat × FD)) (c c' : Nat) (l l' : List D) : dEqO gs (.ob c l) (.ob c' l') = (eqOb gs (.ob c l) (.ob c' l')).map .bl := by
  simp [dEqO, dEq]
theorem dNeO_ob (gs : List (Nat × FD)) (c c' : Nat) (l l' : List D) : dNeO gs (.ob c l) (.ob c' l') = (eqOb gs (.ob c l) (.ob c' l')).map fun r => .bl (!r) := by
  simp [dNeO, dNe]
end DL
set_option Elab.async false
set_option linter.all false
set_option maxRecDepth 100000
set_option maxHeartbeats 0
namespace T43
open PySem PySem.Spec PyProof.Rows L2 DL
def top (i : Nat) : Stmt := PySem.Challenge.pw_goodsbypapers_k43_whole_chains_of_sales.main.body.getD i (.Pass ⟨0, 0, 0, 0⟩)
instance tab : DL.CTab := ⟨fun c => match c with
  | 0 => ("Sale", ["buyer", "price", "risk", "freight"])
  | 1 => ("Even", ["hands"])
  | 2 => ("Uneven", ["leg", "hands"])
  | 3 => ("BadPart", ["place", "part"])
  | _ => ("", [])⟩
def c_FIGURES : D := .str "0123456789"
def c_MOST_LEGS : D := .int 9
def c_SMALL : D := .str "abcdefghijklmnopqrstuvwxyz"
structure B (K : PySem.W.Frag) (mg : Str → Option Value) : Prop where
  all : mg "all" = none
  any : mg "any" = none
  t_bool : mg "bool" = none
  enumerate : mg "enumerate" = none
  t_int : mg "int" = none
  isinstance : mg "isinstance" = none
  len : mg "len" = none
  t_list : mg "list" = none
  max : mg "max" = none
  range : mg "range" = none
  t_str : mg "str" = none
  t_tuple : mg "tuple" = none
  zip : mg "zip" = none
  g_Even : mg "Even" = some (.ref (He.ga K "Even"))
  g_Sale : mg "Sale" = some (.ref (He.ga K "Sale"))
  g_Uneven : mg "Uneven" = some (.ref (He.ga K "Uneven"))
  c_FIGURES : ∃ p : V × Value, mg "FIGURES" = some p.2 ∧ RelV p.1 p.2 ∧ ∀ H Z, Rep K H Z c_FIGURES p.1
  c_MOST_LEGS : ∃ p : V × Value, mg "MOST_LEGS" = some p.2 ∧ RelV p.1 p.2 ∧ ∀ H Z, Rep K H Z c_MOST_LEGS p.1
  c_SMALL : ∃ p : V × Value, mg "SMALL" = some p.2 ∧ RelV p.1 p.2 ∧ ∀ H Z, Rep K H Z c_SMALL p.1
section
variable {P : Program} {w : World} {K : PySem.W.Frag} {mg : Str → Option Value} {base : Heap}
theorem sc_BadPart : ExcScope ["self", "part", "place"] (defScope (inClass (top 2) 0)) := ⟨rfl, rfl, rfl, by decide +kernel, by decide +kernel, by decide +kernel, by decide +kernel, rfl, rfl⟩
theorem k_BadPart {f : Addr} {fd : FuncData} (B : FunC K P "__init__" "BadPart.__init__" (defArgs (inClass (top 2) 0)) (defBody (inClass (top 2) 0)) (defScope (inClass (top 2) 0)) (He.ga K "BadPart") f fd) (X : ExcFacts K "BadPart" ["part", "place"]) (hms : mg ("super" : Str) = none) : FnOk P w K mg base CX0 1 f fd ["self", "part", "place"] (spX (He.ga K "BadPart") ["part", "place"]) :=
  excInit2 B X.k sc_BadPart rfl rfl hms (X.fs _ (by simp)) (X.fs _ (by simp)) (fun _ => rfl)
theorem n_BadPart {f : Addr} {fd : FuncData} (B : FunC K P "__init__" "BadPart.__init__" (defArgs (inClass (top 2) 0)) (defBody (inClass (top 2) 0)) (defScope (inClass (top 2) 0)) (He.ga K "BadPart") f fd) : L2.Binds K fd ["self", "part", "place"] [] :=
  B.binds fun _ _ _ _ _ _ _ us hl => match us, hl with | [_, _, _], _ => rfl
/-! Even.__bool__ -/
def m_Even_bool : M Fl := (mRet (mC (.bl true)))
def F_Even_bool : FD := runF 1 false m_Even_bool
theorem sc_Even_bool : FnScope ["self"] ["self"] (defScope (inClass (top 15) 1)) := ⟨rfl, rfl, rfl, by decide +kernel, rfl, by decide +kernel, by decide +kernel⟩
theorem k_Even_bool {f : Addr} {fd : FuncData} (b : B K mg) (cf : CFacts K 3) (F : FunD K "__bool__" "Even.__bool__" (defArgs (inClass (top 15) 1)) (defBody (inClass (top 15) 1)) (defScope (inClass (top 15) 1)) [] [] f fd) : FnOk P w K mg base CX0 1 f fd ["self"] (spF K 1 F_Even_bool) :=
  have hN : List.Nodup (α := Str) ["self"] := sc_Even_bool.nd
  fn_ok F sc_Even_bool fun cdv A outer s H E hr =>
  (s_one (s_ret d_bl))
theorem n_Even_bool {f : Addr} {fd : FuncData} (F : FunD K "__bool__" "Even.__bool__" (defArgs (inClass (top 15) 1)) (defBody (inClass (top 15) 1)) (defScope (inClass (top 15) 1)) [] [] f fd) : L2.Binds K fd ["self"] [] :=
  F.bindsN fun _ _ _ _ _ _ us hl => match us, hl with | [_], _ => rfl
/-! Uneven.__bool__ -/
def m_Uneven_bool : M Fl := (mRet (mC (.bl false)))
def F_Uneven_bool : FD := runF 1 false m_Uneven_bool
theorem sc_Uneven_bool : FnScope ["self"] ["self"] (defScope (inClass (top 16) 1)) := ⟨rfl, rfl, rfl, by decide +kernel, rfl, by decide +kernel, by decide +kernel⟩
theorem k_Uneven_bool {f : Addr} {fd : FuncData} (b : B K mg) (cf : CFacts K 3) (F : FunD K "__bool__" "Uneven.__bool__" (defArgs (inClass (top 16) 1)) (defBody (inClass (top 16) 1)) (defScope (inClass (top 16) 1)) [] [] f fd) : FnOk P w K mg base CX0 1 f fd ["self"] (spF K 1 F_Uneven_bool) :=
  have hN : List.Nodup (α := Str) ["self"] := sc_Uneven_bool.nd
  fn_ok F sc_Uneven_bool fun cdv A outer s H E hr =>
  (s_one (s_ret d_bl))
theorem n_Uneven_bool {f : Addr} {fd : FuncData} (F : FunD K "__bool__" "Uneven.__bool__" (defArgs (inClass (top 16) 1)) (defBody (inClass (top 16) 1)) (defScope (inClass (top 16) 1)) [] [] f fd) : L2.Binds K fd ["self"] [] :=
  F.bindsN fun _ _ _ _ _ _ us hl => match us, hl with | [_], _ => rfl
def bs : List (Nat × FD) := [(1, F_Even_bool), (2, F_Uneven_bool)]
/-! _law_number -/
def b_law_number_1 (ρ : DL.Env) : DL.Res Fl := (mSet 4 (m2 dFdiv (mVar 4) (mC (.int 1009)))) ρ
def m_law_number : M Fl := (mSeq (mAsg (mTT (mTCons (mTN 2) (mTCons (mTN 3) mTNil))) (mIfE (mTest (m2 dNe (mVar 0) (mLst mNil))) (mTup (mCons (m2 dIx (mVar 0) (m2 dMod (mVar 1) (mCa fLen (mCons (mVar 0) mNil)))) (mCons (m2 dFdiv (mVar 1) (mCa fLen (mCons (mVar 0) mNil))) mNil))) (mTup (mCons (mC (.int 12345)) (mCons (mC (.int 0)) mNil)))))
  (mSeq (mSet 4 (mIfE (mTest (m2 dLt (mVar 3) (mC (.int 60)))) (m2 dSub (mVar 2) (m2 dPow (mC (.int 10)) (mC (.int 18)))) (mC (.int 0))))
  (mSeq (mFor (mRng1 (m2 dMod (mCa fInt (mCons (mVar 3) mNil)) (mC (.int 60)))) (mTN 5) b_law_number_1)
  (mSeq (mIf (mTest (m2 dGt (mVar 4) (mC (.int 0)))) (mRet (m2 dMod (mCa fInt (mCons (mVar 4) mNil)) (mC (.int 1009))))
  mSkip)
  (mSeq (mSet 6 (m2 dMod (m2 dAdd (m2 dMul (mCa fInt (mCons (m2 dAdd (mVar 2) (m2 dMul (mC (.int 977)) (mVar 1))) mNil)) (mC (.int 48271))) (m2 dMul (mC (.int 31)) (mCa fLen (mCons (mVar 0) mNil)))) (mC (.int 2147483647))))
  (mSeq (mSet 6 (m2 dMod (m2 dAdd (m2 dMul (mVar 6) (mVar 6)) (m2 dMul (mC (.int 40503)) (mVar 1))) (mC (.int 2147483629))))
  (mRet (mCa fInt (mCons (m2 dMod (m2 dAdd (m2 dMul (mVar 6) (mC (.int 69621))) (m2 dFdiv (mVar 6) (mC (.int 977)))) (mC (.int 2147483587))) mNil)))))))))
def F_law_number : FD := runF 7 false m_law_number
theorem sc_law_number : FnScope ["script", "index", "cell", "turn", "rest", "step", "blend"] ["script", "index"] (defScope (top 26)) := ⟨rfl, rfl, rfl, by decide +kernel, rfl, by decide +kernel, by decide +kernel⟩
theorem k_law_number {f : Addr} {fd : FuncData} (b : B K mg) (cf : CFacts K 3) (F : FunD K "_law_number" "_law_number" (defArgs (top 26)) (defBody (top 26)) (defScope (top 26)) [] [] f fd) : FnOk P w K mg base CX0 1 f fd ["script", "index"] (spF K 2 F_law_number) :=
  have hN : List.Nodup (α := Str) ["script", "index", "cell", "turn", "rest", "step", "blend"] := sc_law_number.nd
  fn_ok F sc_law_number fun cdv A outer s H E hr =>
  (s_cons (s_asg (d_ifexp (dt_cmp1 (c_ne hr) (d_var 0) (d_list da_nil)) (d_tuple (da_cons (d_item (d_var 0) (d_mod (d_var 1) (d_callB call_lenA ca_len b.len bt_len (da_cons (d_var 0) da_nil)))) (da_cons (d_fdiv (d_var 1) (d_callB call_lenA ca_len b.len bt_len (da_cons (d_var 0) da_nil))) da_nil))) (d_tuple (da_cons d_int (da_cons d_int da_nil)))) (g_tup rfl (gs_cons (g_name 2 hN) (gs_cons (g_name 3 hN) gs_nil))))
  (s_cons (s_set 4 hN (d_ifexp (dt_cmp1 c_lt (d_var 3) d_int) (d_sub (d_var 2) (d_pow d_int d_int)) d_int))
  (s_cons (s_for PassesOwn.never rfl (i_rng1 (d_mod (d_callTy call_int1 ca_int b.t_int bt_int (da_cons (d_var 3) da_nil)) d_int) b.range) (g_name 5 hN) (s_one (s_set 4 hN (d_fdiv (d_var 4) d_int))))
  (s_cons (s_if (dt_cmp1 c_gt (d_var 4) d_int) (s_one (s_ret (d_mod (d_callTy call_int1 ca_int b.t_int bt_int (da_cons (d_var 4) da_nil)) d_int)))
  s_nil)
  (s_cons (s_set 6 hN (d_mod (d_add (d_mul (d_callTy call_int1 ca_int b.t_int bt_int (da_cons (d_add (d_var 2) (d_mul d_int (d_var 1))) da_nil)) d_int) (d_mul d_int (d_callB call_lenA ca_len b.len bt_len (da_cons (d_var 0) da_nil)))) d_int))
  (s_cons (s_set 6 hN (d_mod (d_add (d_mul (d_var 6) (d_var 6)) (d_mul d_int (d_var 1))) d_int))
  (s_one (s_ret (d_callTy call_int1 ca_int b.t_int bt_int (da_cons (d_mod (d_add (d_mul (d_var 6) d_int) (d_fdiv (d_var 6) d_int)) d_int) da_nil))))))))))
theorem n_law_number {f : Addr} {fd : FuncData} (F : FunD K "_law_number" "_law_number" (defArgs (top 26)) (defBody (top 26)) (defScope (top 26)) [] [] f fd) : L2.Binds K fd ["script", "index"] [] :=
  F.bindsN fun _ _ _ _ _ _ us hl => match us, hl with | [_, _], _ => rfl
/-! _law_take -/
def m_law_take : M Fl := (mSeq (mAugIx 0 (mC (.int 1)) dAddI (mC (.int 1)))
  (mRet (m2 dMod (mCa fInt (mCons (mCall F_law_number (mACons (mOwnIx 0 (mC (.int 0))) (mACons (mCa fInt (mCons (mOwnIx 0 (mC (.int 1))) mNil)) mANil))) mNil)) (mVar 1))))
def F_law_take : FD := runF 2 false m_law_take
theorem sc_law_take : FnScope ["draw", "many"] ["draw", "many"] (defScope (top 27)) := ⟨rfl, rfl, rfl, by decide +kernel, rfl, by decide +kernel, by decide +kernel⟩
theorem k_law_take {f : Addr} {fd : FuncData} (b : B K mg) (cf : CFacts K 3) (h_law_number : Callee P w K mg base CX0 1 "_law_number" 2 F_law_number) (F : FunD K "_law_take" "_law_take" (defArgs (top 27)) (defBody (top 27)) (defScope (top 27)) [] [] f fd) : FnOk P w K mg base CX0 2 f fd ["draw", "many"] (spF K 2 F_law_take) :=
  have hN : List.Nodup (α := Str) ["draw", "many"] := sc_law_take.nd
  fn_ok F sc_law_take fun cdv A outer s H E hr =>
  (s_cons (s_augIx 0 ip_add add_opI d_int d_int)
  (s_one (s_ret (d_mod (d_callTy call_int1 ca_int b.t_int bt_int (da_cons (d_call h_law_number hr p0 (as_cons (d_ownIx 0 d_int) (as_cons (d_callTy call_int1 ca_int b.t_int bt_int (da_cons (d_ownIx 0 d_int) da_nil)) as_nil))) da_nil)) (d_var 1)))))
theorem n_law_take {f : Addr} {fd : FuncData} (F : FunD K "_law_take" "_law_take" (defArgs (top 27)) (defBody (top 27)) (defScope (top 27)) [] [] f fd) : L2.Binds K fd ["draw", "many"] [] :=
  F.bindsN fun _ _ _ _ _ _ us hl => match us, hl with | [_, _], _ => rfl
/-! _law_chain -/
def e_law_chain_1 (ρ : DL.Env) : DL.Res D := (mTup (mCons (mVar 1) (mCons (mCall F_law_take (mASlot 0 (mACons (mC (.int 300)) mANil))) (mCons (mCall F_law_take (mASlot 0 (mACons (mC (.int 10)) mANil))) (mCons (mCall F_law_take (mASlot 0 (mACons (mC (.int 10)) mANil))) mNil))))) ρ
def m_law_chain : M Fl := (mRet (mLcD (mComp [1] (mItLT (mSl (mLst (mCons (mC (.str "bob")) (mCons (mC (.str "cy")) (mCons (mC (.str "dan")) (mCons (mC (.str "eve")) mNil))))) none (some (mCall F_law_take (mASlot 0 (mACons (mC (.int 5)) mANil)))))) (mTN 1) mTrue e_law_chain_1)))
def F_law_chain : FD := runF 2 false m_law_chain
theorem sc_law_chain : FnScope ["draw", "name"] ["draw"] (defScope (top 28)) := ⟨rfl, rfl, rfl, by decide +kernel, rfl, by decide +kernel, by decide +kernel⟩
theorem k_law_chain {f : Addr} {fd : FuncData} (b : B K mg) (cf : CFacts K 3) (h_law_take : Callee P w K mg base CX0 2 "_law_take" 2 F_law_take) (F : FunD K "_law_chain" "_law_chain" (defArgs (top 28)) (defBody (top 28)) (defScope (top 28)) [] [] f fd) : FnOk P w K mg base CX0 3 f fd ["draw"] (spF K 1 F_law_chain) :=
  have hN : List.Nodup (α := Str) ["draw", "name"] := sc_law_chain.nd
  fn_ok F sc_law_chain fun cdv A outer s H E hr =>
  (s_one (s_ret (d_lc [("name", 1)] rfl hN (blkOk_by (N := ["draw", "name"]) (sc := defScope (top 28)) (by decide +kernel)) (by decide) (i_seq (d_slice (d_list (da_cons d_str (da_cons d_str (da_cons d_str (da_cons d_str da_nil))))) do_none (do_some (d_call h_law_take hr p0 (as_slot 0 (as_cons d_int as_nil)))))) (fun _ _ _ _ _ => (g_name 1 hN)) (fun _ _ _ _ _ => ts_nil) (fun _ _ _ _ _ => (d_tuple (da_cons (d_var 1) (da_cons (d_call h_law_take hr p0 (as_slot 0 (as_cons d_int as_nil))) (da_cons (d_call h_law_take hr p0 (as_slot 0 (as_cons d_int as_nil))) (da_cons (d_call h_law_take hr p0 (as_slot 0 (as_cons d_int as_nil))) da_nil)))))))))
theorem n_law_chain {f : Addr} {fd : FuncData} (F : FunD K "_law_chain" "_law_chain" (defArgs (top 28)) (defBody (top 28)) (defScope (top 28)) [] [] f fd) : L2.Binds K fd ["draw"] [] :=
  F.bindsN fun _ _ _ _ _ _ us hl => match us, hl with | [_], _ => rfl
/-! is_name -/
def e_is_name_1 (ρ : DL.Env) : DL.Res D := (m2 dIn (mVar 1) (m2 dAdd (mC c_SMALL) (mC c_FIGURES))) ρ
def m_is_name : M Fl := (mSeq (mIf (mOrT (mNotT (mTru (mIs (isTy .str) (mVar 0)))) (mOrT (mNotT (mTest (mChain dLe dLe (mC (.int 1)) (mCa fLen (mCons (mVar 0) mNil)) (mC (.int 8))))) (mTest (m2 dNotIn (m2 dIx (mVar 0) (mC (.int 0))) (mC c_SMALL))))) (mRet (mC (.bl false)))
  mSkip)
  (mRet (mCa fAll (mCons (mLcD (mComp [1] (mItS (mVar 0)) (mTN 1) mTrue e_is_name_1)) mNil))))
def F_is_name : FD := runF 2 false m_is_name
theorem sc_is_name : FnScope ["thing", "sign"] ["thing"] (defScope (top 9)) := ⟨rfl, rfl, rfl, by decide +kernel, rfl, by decide +kernel, by decide +kernel⟩
theorem k_is_name {f : Addr} {fd : FuncData} (b : B K mg) (cf : CFacts K 3) (F : FunD K "is_name" "is_name" (defArgs (top 9)) (defBody (top 9)) (defScope (top 9)) [] [] f fd) : FnOk P w K mg base CX0 1 f fd ["thing"] (spF K 1 F_is_name) :=
  have hN : List.Nodup (α := Str) ["thing", "sign"] := sc_is_name.nd
  fn_ok F sc_is_name fun cdv A outer s H E hr =>
  (s_cons (s_if (dw_or (dt_not (dt_tru (d_isTy .str (d_var 0) b.isinstance b.t_str bt_str))) (dw_or (dt_not (dt_chain c_le c_le d_int (d_callB call_lenA ca_len b.len bt_len (da_cons (d_var 0) da_nil)) d_int)) (dw_or1 (dt_cmp1 (c_notin hr) (d_item (d_var 0) d_int) (d_glob (by rfl) b.c_SMALL.choose_spec.1 b.c_SMALL.choose_spec.2.1 b.c_SMALL.choose_spec.2.2))))).pt (s_one (s_ret d_bl))
  s_nil)
  (s_one (s_ret (d_callB (cr_all rfl) ca_all b.all bt_all (da_cons (d_lc [("sign", 1)] rfl hN (blkOk_by (N := ["thing", "sign"]) (sc := defScope (top 9)) (by decide +kernel)) (by decide) (i_str (d_var 0)) (fun _ _ _ _ _ => (g_name 1 hN)) (fun _ _ _ _ _ => ts_nil) (fun _ _ _ _ _ => (d_cmp1 (c_in hr) (d_var 1) (d_add (d_glob (by rfl) b.c_SMALL.choose_spec.1 b.c_SMALL.choose_spec.2.1 b.c_SMALL.choose_spec.2.2) (d_glob (by rfl) b.c_FIGURES.choose_spec.1 b.c_FIGURES.choose_spec.2.1 b.c_FIGURES.choose_spec.2.2))))) da_nil)))))
theorem n_is_name {f : Addr} {fd : FuncData} (F : FunD K "is_name" "is_name" (defArgs (top 9)) (defBody (top 9)) (defScope (top 9)) [] [] f fd) : L2.Binds K fd ["thing"] [] :=
  F.bindsN fun _ _ _ _ _ _ us hl => match us, hl with | [_], _ => rfl
/-! check_name -/
def m_check_name : M Fl := (mIf (mNotT (mTru (mCall F_is_name (mACons (mVar 1) mANil)))) (mRaise 3 (mCons (mVar 0) (mCons (mC .non) mNil)))
  mSkip)
def F_check_name : FD := runF 2 false m_check_name
def X_check_name : FD := runF 2 true m_check_name
theorem sc_check_name : FnScope ["part", "thing"] ["part", "thing"] (defScope (top 10)) := ⟨rfl, rfl, rfl, by decide +kernel, rfl, by decide +kernel, by decide +kernel⟩
theorem k_check_name {f : Addr} {fd : FuncData} (b : B K mg) (cf : CFacts K 3) (h_is_name : Callee P w K mg base CX0 1 "is_name" 1 F_is_name) (r_BadPart : Raiser P w K mg base 3 2) (F : FunD K "check_name" "check_name" (defArgs (top 10)) (defBody (top 10)) (defScope (top 10)) [] [] f fd) : FnOk P w K mg base (L2.CX P w) 3 f fd ["part", "thing"] (spF K 2 X_check_name) :=
  have hN : List.Nodup (α := Str) ["part", "thing"] := sc_check_name.nd
  fn_okX F sc_check_name fun cdv A outer s H E hr =>
  (s_one (s_if (dt_not (dt_tru (d_call h_is_name hr p0 (as_cons (d_var 1) as_nil)))) (s_one (s_raise r_BadPart rfl rfl tkX (hr.mono (by decide)) (da_cons (d_var 0) (da_cons d_non da_nil)) (lsl_cons (lsl_cons (fun _ _ _ h => lsl_nil h)))))
  s_nil))
theorem n_check_name {f : Addr} {fd : FuncData} (F : FunD K "check_name" "check_name" (defArgs (top 10)) (defBody (top 10)) (defScope (top 10)) [] [] f fd) : L2.Binds K fd ["part", "thing"] [] :=
  F.bindsN fun _ _ _ _ _ _ us hl => match us, hl with | [_, _], _ => rfl
/-! is_integer -/
def m_is_integer : M Fl := (mRet (mAndV (mIs (isTy .int) (mVar 0)) (mNotV (mIs (isTy .bool) (mVar 0)))))
def F_is_integer : FD := runF 1 false m_is_integer
theorem sc_is_integer : FnScope ["thing"] ["thing"] (defScope (top 6)) := ⟨rfl, rfl, rfl, by decide +kernel, rfl, by decide +kernel, by decide +kernel⟩
theorem k_is_integer {f : Addr} {fd : FuncData} (b : B K mg) (cf : CFacts K 3) (F : FunD K "is_integer" "is_integer" (defArgs (top 6)) (defBody (top 6)) (defScope (top 6)) [] [] f fd) : FnOk P w K mg base CX0 1 f fd ["thing"] (spF K 1 F_is_integer) :=
  have hN : List.Nodup (α := Str) ["thing"] := sc_is_integer.nd
  fn_ok F sc_is_integer fun cdv A outer s H E hr =>
  (s_one (s_ret (d_and (d_isTy .int (d_var 0) b.isinstance b.t_int bt_int) (d_one (d_not (d_isTy .bool (d_var 0) b.isinstance b.t_bool bt_bool))))))
theorem n_is_integer {f : Addr} {fd : FuncData} (F : FunD K "is_integer" "is_integer" (defArgs (top 6)) (defBody (top 6)) (defScope (top 6)) [] [] f fd) : L2.Binds K fd ["thing"] [] :=
  F.bindsN fun _ _ _ _ _ _ us hl => match us, hl with | [_], _ => rfl
/-! is_number -/
def m_is_number : M Fl := (mRet (mAndV (mCall F_is_integer (mACons (mVar 0) mANil)) (mChain dLe dLe (mVar 1) (mVar 0) (mVar 2))))
def F_is_number : FD := runF 3 false m_is_number
theorem sc_is_number : FnScope ["thing", "low", "high"] ["thing", "low", "high"] (defScope (top 7)) := ⟨rfl, rfl, rfl, by decide +kernel, rfl, by decide +kernel, by decide +kernel⟩
theorem k_is_number {f : Addr} {fd : FuncData} (b : B K mg) (cf : CFacts K 3) (h_is_integer : Callee P w K mg base CX0 1 "is_integer" 1 F_is_integer) (F : FunD K "is_number" "is_number" (defArgs (top 7)) (defBody (top 7)) (defScope (top 7)) [] [] f fd) : FnOk P w K mg base CX0 2 f fd ["thing", "low", "high"] (spF K 3 F_is_number) :=
  have hN : List.Nodup (α := Str) ["thing", "low", "high"] := sc_is_number.nd
  fn_ok F sc_is_number fun cdv A outer s H E hr =>
  (s_one (s_ret (d_and (d_call h_is_integer hr p0 (as_cons (d_var 0) as_nil)) (d_one (d_chain c_le c_le (d_var 1) (d_var 0) (d_var 2))))))
theorem n_is_number {f : Addr} {fd : FuncData} (F : FunD K "is_number" "is_number" (defArgs (top 7)) (defBody (top 7)) (defScope (top 7)) [] [] f fd) : L2.Binds K fd ["thing", "low", "high"] [] :=
  F.bindsN fun _ _ _ _ _ _ us hl => match us, hl with | [_, _, _], _ => rfl
/-! check_number -/
def m_check_number : M Fl := (mIf (mNotT (mTru (mCall F_is_number (mACons (mVar 1) (mACons (mVar 2) (mACons (mVar 3) mANil)))))) (mRaise 3 (mCons (mVar 0) (mCons (mC .non) mNil)))
  mSkip)
def F_check_number : FD := runF 4 false m_check_number
def X_check_number : FD := runF 4 true m_check_number
theorem sc_check_number : FnScope ["part", "thing", "low", "high"] ["part", "thing", "low", "high"] (defScope (top 8)) := ⟨rfl, rfl, rfl, by decide +kernel, rfl, by decide +kernel, by decide +kernel⟩
theorem k_check_number {f : Addr} {fd : FuncData} (b : B K mg) (cf : CFacts K 3) (h_is_number : Callee P w K mg base CX0 2 "is_number" 3 F_is_number) (r_BadPart : Raiser P w K mg base 3 2) (F : FunD K "check_number" "check_number" (defArgs (top 8)) (defBody (top 8)) (defScope (top 8)) [] [] f fd) : FnOk P w K mg base (L2.CX P w) 3 f fd ["part", "thing", "low", "high"] (spF K 4 X_check_number) :=
  have hN : List.Nodup (α := Str) ["part", "thing", "low", "high"] := sc_check_number.nd
  fn_okX F sc_check_number fun cdv A outer s H E hr =>
  (s_one (s_if (dt_not (dt_tru (d_call h_is_number hr p0 (as_cons (d_var 1) (as_cons (d_var 2) (as_cons (d_var 3) as_nil)))))) (s_one (s_raise r_BadPart rfl rfl tkX (hr.mono (by decide)) (da_cons (d_var 0) (da_cons d_non da_nil)) (lsl_cons (lsl_cons (fun _ _ _ h => lsl_nil h)))))
  s_nil))
theorem n_check_number {f : Addr} {fd : FuncData} (F : FunD K "check_number" "check_number" (defArgs (top 8)) (defBody (top 8)) (defScope (top 8)) [] [] f fd) : L2.Binds K fd ["part", "thing", "low", "high"] [] :=
  F.bindsN fun _ _ _ _ _ _ us hl => match us, hl with | [_, _, _, _], _ => rfl
/-! Sale.__init__ -/
def m_Sale_init : M Fl := (mSeq (mDo (mCall X_check_name (mACons (mC (.str "buyer")) (mACons (mVar 1) mANil))))
  (mSeq (mDo (mCall X_check_number (mACons (mC (.str "price")) (mACons (mVar 2) (mACons (mC (.int 0)) (mACons (mC (.int 9999)) mANil))))))
  (mSeq (mDo (mCall X_check_number (mACons (mC (.str "risk")) (mACons (mVar 3) (mACons (mC (.int 0)) (mACons (mC c_MOST_LEGS) mANil))))))
  (mSeq (mDo (mCall X_check_number (mACons (mC (.str "freight")) (mACons (mVar 4) (mACons (mC (.int 0)) (mACons (mC c_MOST_LEGS) mANil))))))
  (mSeq (mFld 0 0 0 (mVar 1))
  (mSeq (mFld 0 0 1 (mVar 2))
  (mSeq (mFld 0 0 2 (mVar 3))
  (mFld 0 0 3 (mVar 4)))))))))
def F_Sale_init : FD := runF 5 false m_Sale_init
def X_Sale_init : FD := runF 5 true m_Sale_init
theorem sc_Sale_init : FnScope ["self", "buyer", "price", "risk", "freight"] ["self", "buyer", "price", "risk", "freight"] (defScope (inClass (top 14) 0)) := ⟨rfl, rfl, rfl, by decide +kernel, rfl, by decide +kernel, by decide +kernel⟩
theorem k_Sale_init {f : Addr} {fd : FuncData} (b : B K mg) (cf : CFacts K 3) (x_check_name : Callee P w K mg base (L2.CX P w) 3 "check_name" 2 X_check_name) (x_check_number : Callee P w K mg base (L2.CX P w) 3 "check_number" 4 X_check_number) (F : FunD K "__init__" "Sale.__init__" (defArgs (inClass (top 14) 0)) (defBody (inClass (top 14) 0)) (defScope (inClass (top 14) 0)) [] [] f fd) : FnOk P w K mg base (L2.CX P w) 4 f fd ["self", "buyer", "price", "risk", "freight"] (spF K 5 X_Sale_init) :=
  have hN : List.Nodup (α := Str) ["self", "buyer", "price", "risk", "freight"] := sc_Sale_init.nd
  fn_okX F sc_Sale_init fun cdv A outer s H E hr =>
  (s_cons (s_expr (d_call x_check_name hr pX (as_cons d_str (as_cons (d_var 1) as_nil))))
  (s_cons (s_expr (d_call x_check_number hr pX (as_cons d_str (as_cons (d_var 2) (as_cons d_int (as_cons d_int as_nil))))))
  (s_cons (s_expr (d_call x_check_number hr pX (as_cons d_str (as_cons (d_var 3) (as_cons d_int (as_cons (d_glob (by rfl) b.c_MOST_LEGS.choose_spec.1 b.c_MOST_LEGS.choose_spec.2.1 b.c_MOST_LEGS.choose_spec.2.2) as_nil))))))
  (s_cons (s_expr (d_call x_check_number hr pX (as_cons d_str (as_cons (d_var 4) (as_cons d_int (as_cons (d_glob (by rfl) b.c_MOST_LEGS.choose_spec.1 b.c_MOST_LEGS.choose_spec.2.1 b.c_MOST_LEGS.choose_spec.2.2) as_nil))))))
  (s_cons (s_fld cf 0 0 0 (by decide) rfl (by decide) (d_var 1))
  (s_cons (s_fld cf 0 0 1 (by decide) rfl (by decide) (d_var 2))
  (s_cons (s_fld cf 0 0 2 (by decide) rfl (by decide) (d_var 3))
  (s_one (s_fld cf 0 0 3 (by decide) rfl (by decide) (d_var 4))))))))))
theorem n_Sale_init {f : Addr} {fd : FuncData} (F : FunD K "__init__" "Sale.__init__" (defArgs (inClass (top 14) 0)) (defBody (inClass (top 14) 0)) (defScope (inClass (top 14) 0)) [] [] f fd) : L2.Binds K fd ["self", "buyer", "price", "risk", "freight"] [] :=
  F.bindsN fun _ _ _ _ _ _ us hl => match us, hl with | [_, _, _, _, _], _ => rfl
/-! _law_sales -/
def e_law_sales_1 (ρ : DL.Env) : DL.Res D := (mNew 0 F_Sale_init (mACons (m2 dIx (mVar 1) (mC (.int 0))) (mACons (m2 dIx (mVar 1) (mC (.int 1))) (mACons (m2 dIx (mVar 1) (mC (.int 2))) (mACons (m2 dIx (mVar 1) (mC (.int 3))) mANil))))) ρ
def m_law_sales : M Fl := (mRet (mLcD (mComp [1] (mItLT (mVar 0)) (mTN 1) mTrue e_law_sales_1)))
def F_law_sales : FD := runF 2 false m_law_sales
theorem sc_law_sales : FnScope ["rows", "row"] ["rows"] (defScope (top 29)) := ⟨rfl, rfl, rfl, by decide +kernel, rfl, by decide +kernel, by decide +kernel⟩
theorem k_law_sales {f : Addr} {fd : FuncData} (b : B K mg) (cf : CFacts K 3) (h_Sale_init : Maker P w K mg base CX0 4 "Sale" 4 0 F_Sale_init) (F : FunD K "_law_sales" "_law_sales" (defArgs (top 29)) (defBody (top 29)) (defScope (top 29)) [] [] f fd) : FnOk P w K mg base CX0 6 f fd ["rows"] (spF K 1 F_law_sales) :=
  have hN : List.Nodup (α := Str) ["rows", "row"] := sc_law_sales.nd
  fn_ok F sc_law_sales fun cdv A outer s H E hr =>
  (s_one (s_ret (d_lc [("row", 1)] rfl hN (blkOk_by (N := ["rows", "row"]) (sc := defScope (top 29)) (by decide +kernel)) (by decide) (i_seq (d_var 0)) (fun _ _ _ _ _ => (g_name 1 hN)) (fun _ _ _ _ _ => ts_nil) (fun _ _ _ _ _ => (d_new h_Sale_init hr p0 (as_cons (d_item (d_var 1) d_int) (as_cons (d_item (d_var 1) d_int) (as_cons (d_item (d_var 1) d_int) (as_cons (d_item (d_var 1) d_int) as_nil)))))))))
theorem n_law_sales {f : Addr} {fd : FuncData} (F : FunD K "_law_sales" "_law_sales" (defArgs (top 29)) (defBody (top 29)) (defScope (top 29)) [] [] f fd) : L2.Binds K fd ["rows"] [] :=
  F.bindsN fun _ _ _ _ _ _ us hl => match us, hl with | [_], _ => rfl
/-! is_row -/
def m_is_row : M Fl := (mRet (mIs (isTys [.list, .tuple]) (mVar 0)))
def F_is_row : FD := runF 1 false m_is_row
theorem sc_is_row : FnScope ["thing"] ["thing"] (defScope (top 11)) := ⟨rfl, rfl, rfl, by decide +kernel, rfl, by decide +kernel, by decide +kernel⟩
theorem k_is_row {f : Addr} {fd : FuncData} (b : B K mg) (cf : CFacts K 3) (F : FunD K "is_row" "is_row" (defArgs (top 11)) (defBody (top 11)) (defScope (top 11)) [] [] f fd) : FnOk P w K mg base CX0 1 f fd ["thing"] (spF K 1 F_is_row) :=
  have hN : List.Nodup (α := Str) ["thing"] := sc_is_row.nd
  fn_ok F sc_is_row fun cdv A outer s H E hr =>
  (s_one (s_ret (d_isTys2 .list .tuple (d_var 0) b.isinstance b.t_list b.t_tuple bt_list bt_tuple)))
theorem n_is_row {f : Addr} {fd : FuncData} (F : FunD K "is_row" "is_row" (defArgs (top 11)) (defBody (top 11)) (defScope (top 11)) [] [] f fd) : L2.Binds K fd ["thing"] [] :=
  F.bindsN fun _ _ _ _ _ _ us hl => match us, hl with | [_], _ => rfl
/-! check_chain -/
def b_check_chain_1 (ρ : DL.Env) : DL.Res Fl := (mSeq (mIf (mOrT (mNotT (mTru (mIs (isCl 3 0) (mVar 5)))) (mLookT (mTest (m2 dIn (m1 (dFld [(0, 0)]) (mVar 5)) (mVar 3))))) (mRaise 3 (mCons (mC (.str "sales")) (mCons (mVar 4) mNil)))
  mSkip)
  (mApp 3 (m1 (dFld [(0, 0)]) (mVar 5)))) ρ
def m_check_chain : M Fl := (mSeq (mDo (mCall X_check_name (mACons (mC (.str "maker")) (mACons (mVar 0) mANil))))
  (mSeq (mIf (mNotT (mTru (mCall F_is_row (mACons (mVar 1) mANil)))) (mRaise 3 (mCons (mC (.str "sales")) (mCons (mC .non) mNil)))
  mSkip)
  (mSeq (mSetO 3 (oLst (mCons (mVar 0) mNil)))
  (mSeq (mFor (mEnumX (mVar 1)) (mTT (mTCons (mTN 4) (mTCons (mTN 5) mTNil))) b_check_chain_1)
  (mDo (mCall X_check_number (mACons (mC (.str "legs")) (mACons (mVar 2) (mACons (mC (.int 1)) (mACons (mC c_MOST_LEGS) mANil))))))))))
def F_check_chain : FD := runF 6 false m_check_chain
def X_check_chain : FD := runF 6 true m_check_chain
theorem sc_check_chain : FnScope ["maker", "sales", "legs", "met", "place", "sale"] ["maker", "sales", "legs"] (defScope (top 17)) := ⟨rfl, rfl, rfl, by decide +kernel, rfl, by decide +kernel, by decide +kernel⟩
theorem k_check_chain {f : Addr} {fd : FuncData} (b : B K mg) (cf : CFacts K 3) (h_is_row : Callee P w K mg base CX0 1 "is_row" 1 F_is_row) (r_BadPart : Raiser P w K mg base 3 2) (x_check_name : Callee P w K mg base (L2.CX P w) 3 "check_name" 2 X_check_name) (x_check_number : Callee P w K mg base (L2.CX P w) 3 "check_number" 4 X_check_number) (F : FunD K "check_chain" "check_chain" (defArgs (top 17)) (defBody (top 17)) (defScope (top 17)) [] [] f fd) : FnOk P w K mg base (L2.CX P w) 4 f fd ["maker", "sales", "legs"] (spF K 3 X_check_chain) :=
  have hN : List.Nodup (α := Str) ["maker", "sales", "legs", "met", "place", "sale"] := sc_check_chain.nd
  fn_okX F sc_check_chain fun cdv A outer s H E hr =>
  (s_cons (s_expr (d_call x_check_name hr pX (as_cons d_str (as_cons (d_var 0) as_nil))))
  (s_cons (s_if (dt_not (dt_tru (d_call h_is_row hr p0 (as_cons (d_var 1) as_nil)))) (s_one (s_raise r_BadPart rfl rfl tkX (hr.mono (by decide)) (da_cons d_str (da_cons d_non da_nil)) (lsl_cons (lsl_cons (fun _ _ _ h => lsl_nil h)))))
  s_nil)
  (s_cons (s_setO 3 hN (o_list (da_cons (d_var 0) da_nil)))
  (s_cons (s_for (passes_of rfl) rfl (i_enumX (d_var 1) b.enumerate) (g_tup rfl (gs_cons (g_name 4 hN) (gs_cons (g_name 5 hN) gs_nil))) (s_cons (s_if (dw_or (dt_not (dt_tru (d_isCl cf 0 (by decide) rfl (d_var 5) b.isinstance b.g_Sale))) (dw_or1 (dt_look (dt_cmp1 (c_in hr) (d_fld cf [(0, 0)] (d_var 5)) (d_var 3))))).pt (s_one (s_raise r_BadPart rfl rfl tkX (hr.mono (by decide)) (da_cons d_str (da_cons (d_var 4) da_nil)) (lsl_cons (lsl_cons (fun _ _ _ h => lsl_nil h)))))
  s_nil)
  (s_one (s_append 3 (d_fld cf [(0, 0)] (d_var 5))))))
  (s_one (s_expr (d_call x_check_number hr pX (as_cons d_str (as_cons (d_var 2) (as_cons d_int (as_cons (d_glob (by rfl) b.c_MOST_LEGS.choose_spec.1 b.c_MOST_LEGS.choose_spec.2.1 b.c_MOST_LEGS.choose_spec.2.2) as_nil)))))))))))
theorem n_check_chain {f : Addr} {fd : FuncData} (F : FunD K "check_chain" "check_chain" (defArgs (top 17)) (defBody (top 17)) (defScope (top 17)) [] [] f fd) : L2.Binds K fd ["maker", "sales", "legs"] [] :=
  F.bindsN fun _ _ _ _ _ _ us hl => match us, hl with | [_, _, _], _ => rfl
/-! hands_of -/
def e_hands_of_1 (ρ : DL.Env) : DL.Res D := (m1 (dFld [(0, 0)]) (mVar 2)) ρ
def m_hands_of : M Fl := (mSeq (mDo (mCall X_check_chain (mACons (mVar 0) (mACons (mVar 1) (mACons (mC (.int 1)) mANil)))))
  (mRet (mCa fTup (mCons (mLst (mCons (mVar 0) (mStar (mLcD (mComp [2] (mItLT (mVar 1)) (mTN 2) mTrue e_hands_of_1)) mNil))) mNil))))
def F_hands_of : FD := runF 3 false m_hands_of
def X_hands_of : FD := runF 3 true m_hands_of
theorem sc_hands_of : FnScope ["maker", "sales", "sale"] ["maker", "sales"] (defScope (top 18)) := ⟨rfl, rfl, rfl, by decide +kernel, rfl, by decide +kernel, by decide +kernel⟩
theorem k_hands_of {f : Addr} {fd : FuncData} (b : B K mg) (cf : CFacts K 3) (x_check_chain : Callee P w K mg base (L2.CX P w) 4 "check_chain" 3 X_check_chain) (F : FunD K "hands_of" "hands_of" (defArgs (top 18)) (defBody (top 18)) (defScope (top 18)) [] [] f fd) : FnOk P w K mg base (L2.CX P w) 5 f fd ["maker", "sales"] (spF K 2 X_hands_of) :=
  have hN : List.Nodup (α := Str) ["maker", "sales", "sale"] := sc_hands_of.nd
  fn_okX F sc_hands_of fun cdv A outer s H E hr =>
  (s_cons (s_expr (d_call x_check_chain hr pX (as_cons (d_var 0) (as_cons (d_var 1) (as_cons d_int as_nil)))))
  (s_one (s_ret (d_callTy call_tuple_of ca_tup b.t_tuple bt_tuple (da_cons (d_list (da_cons (d_var 0) (da_star (d_lc [("sale", 2)] rfl hN (blkOk_by (N := ["maker", "sales", "sale"]) (sc := defScope (top 18)) (by decide +kernel)) (by decide) (i_seq (d_var 1)) (fun _ _ _ _ _ => (g_name 2 hN)) (fun _ _ _ _ _ => ts_nil) (fun _ _ _ _ _ => (d_fld cf [(0, 0)] (d_var 2)))) da_nil))) da_nil)))))
theorem n_hands_of {f : Addr} {fd : FuncData} (F : FunD K "hands_of" "hands_of" (defArgs (top 18)) (defBody (top 18)) (defScope (top 18)) [] [] f fd) : L2.Binds K fd ["maker", "sales"] [] :=
  F.bindsN fun _ _ _ _ _ _ us hl => match us, hl with | [_, _], _ => rfl
/-! Sale.__eq__ -/
def m_Sale_eq : M Fl := (mSeq (mIf (mNotT (mTru (mIs (isCl 3 0) (mVar 1)))) (mRet (mC (.bl false)))
  mSkip)
  (mSeq (mSet 2 (mTup (mCons (m1 (dFld [(0, 0)]) (mVar 0)) (mCons (m1 (dFld [(0, 1)]) (mVar 0)) (mCons (m1 (dFld [(0, 2)]) (mVar 0)) (mCons (m1 (dFld [(0, 3)]) (mVar 0)) mNil))))))
  (mRet (m2 dEq (mVar 2) (mTup (mCons (m1 (dFld [(0, 0)]) (mVar 1)) (mCons (m1 (dFld [(0, 1)]) (mVar 1)) (mCons (m1 (dFld [(0, 2)]) (mVar 1)) (mCons (m1 (dFld [(0, 3)]) (mVar 1)) mNil)))))))))
def F_Sale_eq : FD := runF 3 false m_Sale_eq
theorem sc_Sale_eq : FnScope ["self", "other", "mine"] ["self", "other"] (defScope (inClass (top 14) 1)) := ⟨rfl, rfl, rfl, by decide +kernel, rfl, by decide +kernel, by decide +kernel⟩
theorem k_Sale_eq {f : Addr} {fd : FuncData} (b : B K mg) (cf : CFacts K 3) (F : FunD K "__eq__" "Sale.__eq__" (defArgs (inClass (top 14) 1)) (defBody (inClass (top 14) 1)) (defScope (inClass (top 14) 1)) [] [] f fd) : FnOk P w K mg base CX0 1 f fd ["self", "other"] (spF K 2 F_Sale_eq) :=
  have hN : List.Nodup (α := Str) ["self", "other", "mine"] := sc_Sale_eq.nd
  fn_ok F sc_Sale_eq fun cdv A outer s H E hr =>
  (s_cons (s_if (dt_not (dt_tru (d_isCl cf 0 (by decide) rfl (d_var 1) b.isinstance b.g_Sale))) (s_one (s_ret d_bl))
  s_nil)
  (s_cons (s_set 2 hN (d_tuple (da_cons (d_fld cf [(0, 0)] (d_var 0)) (da_cons (d_fld cf [(0, 1)] (d_var 0)) (da_cons (d_fld cf [(0, 2)] (d_var 0)) (da_cons (d_fld cf [(0, 3)] (d_var 0)) da_nil))))))
  (s_one (s_ret (d_cmp1 (c_eq hr) (d_var 2) (d_tuple (da_cons (d_fld cf [(0, 0)] (d_var 1)) (da_cons (d_fld cf [(0, 1)] (d_var 1)) (da_cons (d_fld cf [(0, 2)] (d_var 1)) (da_cons (d_fld cf [(0, 3)] (d_var 1)) da_nil))))))))))
theorem n_Sale_eq {f : Addr} {fd : FuncData} (F : FunD K "__eq__" "Sale.__eq__" (defArgs (inClass (top 14) 1)) (defBody (inClass (top 14) 1)) (defScope (inClass (top 14) 1)) [] [] f fd) : L2.Binds K fd ["self", "other"] [] :=
  F.bindsN fun _ _ _ _ _ _ us hl => match us, hl with | [_, _], _ => rfl
/-! Even.__eq__ -/
def m_Even_eq : M Fl := (mRet (mAndV (mIs (isCl 3 1) (mVar 1)) (m2 dEq (m1 (dFld [(1, 0), (2, 1)]) (mVar 0)) (m1 (dFld [(1, 0), (2, 1)]) (mVar 1)))))
def F_Even_eq : FD := runF 2 false m_Even_eq
theorem sc_Even_eq : FnScope ["self", "other"] ["self", "other"] (defScope (inClass (top 15) 2)) := ⟨rfl, rfl, rfl, by decide +kernel, rfl, by decide +kernel, by decide +kernel⟩
theorem k_Even_eq {f : Addr} {fd : FuncData} (b : B K mg) (cf : CFacts K 3) (F : FunD K "__eq__" "Even.__eq__" (defArgs (inClass (top 15) 2)) (defBody (inClass (top 15) 2)) (defScope (inClass (top 15) 2)) [] [] f fd) : FnOk P w K mg base CX0 1 f fd ["self", "other"] (spF K 2 F_Even_eq) :=
  have hN : List.Nodup (α := Str) ["self", "other"] := sc_Even_eq.nd
  fn_ok F sc_Even_eq fun cdv A outer s H E hr =>
  (s_one (s_ret (d_and (d_isCl cf 1 (by decide) rfl (d_var 1) b.isinstance b.g_Even) (d_one (d_cmp1 (c_eq hr) (d_fld cf [(1, 0), (2, 1)] (d_var 0)) (d_fld cf [(1, 0), (2, 1)] (d_var 1)))))))
theorem n_Even_eq {f : Addr} {fd : FuncData} (F : FunD K "__eq__" "Even.__eq__" (defArgs (inClass (top 15) 2)) (defBody (inClass (top 15) 2)) (defScope (inClass (top 15) 2)) [] [] f fd) : L2.Binds K fd ["self", "other"] [] :=
  F.bindsN fun _ _ _ _ _ _ us hl => match us, hl with | [_, _], _ => rfl
/-! Uneven.__eq__ -/
def m_Uneven_eq : M Fl := (mRet (mAndV (mIs (isCl 3 2) (mVar 1)) (m2 dEq (mTup (mCons (m1 (dFld [(2, 0)]) (mVar 0)) (mCons (m1 (dFld [(1, 0), (2, 1)]) (mVar 0)) mNil))) (mTup (mCons (m1 (dFld [(2, 0)]) (mVar 1)) (mCons (m1 (dFld [(1, 0), (2, 1)]) (mVar 1)) mNil))))))
def F_Uneven_eq : FD := runF 2 false m_Uneven_eq
theorem sc_Uneven_eq : FnScope ["self", "other"] ["self", "other"] (defScope (inClass (top 16) 2)) := ⟨rfl, rfl, rfl, by decide +kernel, rfl, by decide +kernel, by decide +kernel⟩
theorem k_Uneven_eq {f : Addr} {fd : FuncData} (b : B K mg) (cf : CFacts K 3) (F : FunD K "__eq__" "Uneven.__eq__" (defArgs (inClass (top 16) 2)) (defBody (inClass (top 16) 2)) (defScope (inClass (top 16) 2)) [] [] f fd) : FnOk P w K mg base CX0 1 f fd ["self", "other"] (spF K 2 F_Uneven_eq) :=
  have hN : List.Nodup (α := Str) ["self", "other"] := sc_Uneven_eq.nd
  fn_ok F sc_Uneven_eq fun cdv A outer s H E hr =>
  (s_one (s_ret (d_and (d_isCl cf 2 (by decide) rfl (d_var 1) b.isinstance b.g_Uneven) (d_one (d_cmp1 (c_eq hr) (d_tuple (da_cons (d_fld cf [(2, 0)] (d_var 0)) (da_cons (d_fld cf [(1, 0), (2, 1)] (d_var 0)) da_nil))) (d_tuple (da_cons (d_fld cf [(2, 0)] (d_var 1)) (da_cons (d_fld cf [(1, 0), (2, 1)] (d_var 1)) da_nil))))))))
theorem n_Uneven_eq {f : Addr} {fd : FuncData} (F : FunD K "__eq__" "Uneven.__eq__" (defArgs (inClass (top 16) 2)) (defBody (inClass (top 16) 2)) (defScope (inClass (top 16) 2)) [] [] f fd) : L2.Binds K fd ["self", "other"] [] :=
  F.bindsN fun _ _ _ _ _ _ us hl => match us, hl with | [_, _], _ => rfl
def gs_eq : List (Nat × FD) := [(0, F_Sale_eq), (1, F_Even_eq), (2, F_Uneven_eq)]
/-! _law_those -/
def e_law_those_1 (ρ : DL.Env) : DL.Res D := (m2 dIx (mVar 9) (mC (.int 0))) ρ
def b_law_those_1 (ρ : DL.Env) : DL.Res Fl := (mSeq (mSet 7 (mOrV (m2 dEq (mVar 5) (mC (.int 0))) (m2 dGe (mVar 2) (m2 dIx (m2 dIx (mVar 0) (m2 dSub (mVar 5) (mC (.int 1)))) (mVar 1)))))
  (mSeq (mSet 8 (mAndV (m2 dLt (mVar 5) (mCa fLen (mCons (mVar 0) mNil))) (m2 dGe (mVar 2) (m2 dIx (m2 dIx (mVar 0) (mVar 5)) (mVar 1)))))
  (mSet 4 (m2 dAdd (mVar 4) (mIfE (mAndT (mTru (mVar 7)) (mNotT (mTru (mVar 8)))) (mLst (mCons (mVar 6) mNil)) (mLst mNil)))))) ρ
def m_law_those : M Fl := (mSeq (mPar 3 4 (mCons (m2 dAdd (mLst (mCons (mC (.str "ann")) mNil)) (mLcD (mComp [9] (mItLT (mVar 0)) (mTN 9) mTrue e_law_those_1))) (mCons (mLst mNil) mNil)))
  (mSeq (mFor (mEnumX (mVar 3)) (mTT (mTCons (mTN 5) (mTCons (mTN 6) mTNil))) b_law_those_1)
  (mRet (mCa fTup (mCons (mVar 4) mNil)))))
def F_law_those : FD := runF 10 false m_law_those
theorem sc_law_those : FnScope ["rows", "at", "leg", "hands", "found", "place", "hand", "has", "gave", "row"] ["rows", "at", "leg"] (defScope (top 30)) := ⟨rfl, rfl, rfl, by decide +kernel, rfl, by decide +kernel, by decide +kernel⟩
theorem k_law_those {f : Addr} {fd : FuncData} (b : B K mg) (cf : CFacts K 3) (F : FunD K "_law_those" "_law_those" (defArgs (top 30)) (defBody (top 30)) (defScope (top 30)) [] [] f fd) : FnOk P w K mg base CX0 1 f fd ["rows", "at", "leg"] (spF K 3 F_law_those) :=
  have hN : List.Nodup (α := Str) ["rows", "at", "leg", "hands", "found", "place", "hand", "has", "gave", "row"] := sc_law_those.nd
  fn_ok F sc_law_those fun cdv A outer s H E hr =>
  (s_cons (s_par 3 4 rfl hN (da_cons (d_add (d_list (da_cons d_str da_nil)) (d_lc [("row", 9)] rfl hN (blkOk_by (N := ["rows", "at", "leg", "hands", "found", "place", "hand", "has", "gave", "row"]) (sc := defScope (top 30)) (by decide +kernel)) (by decide) (i_seq (d_var 0)) (fun _ _ _ _ _ => (g_name 9 hN)) (fun _ _ _ _ _ => ts_nil) (fun _ _ _ _ _ => (d_item (d_var 9) d_int)))) (da_cons (d_list da_nil) da_nil)))
  (s_cons (s_for PassesOwn.never rfl (i_enumX (d_var 3) b.enumerate) (g_tup rfl (gs_cons (g_name 5 hN) (gs_cons (g_name 6 hN) gs_nil))) (s_cons (s_set 7 hN (d_or (d_cmp1 (c_eq hr) (d_var 5) d_int) (d_one (d_cmp1 c_ge (d_var 2) (d_item (d_item (d_var 0) (d_sub (d_var 5) d_int)) (d_var 1))))))
  (s_cons (s_set 8 hN (d_and (d_cmp1 c_lt (d_var 5) (d_callB call_lenA ca_len b.len bt_len (da_cons (d_var 0) da_nil))) (d_one (d_cmp1 c_ge (d_var 2) (d_item (d_item (d_var 0) (d_var 5)) (d_var 1))))))
  (s_one (s_set 4 hN (d_add (d_var 4) (d_ifexp (dw_and (dt_tru (d_var 7)) (dw_and1 (dt_not (dt_tru (d_var 8))))).pt (d_list (da_cons (d_var 6) da_nil)) (d_list da_nil))))))))
  (s_one (s_ret (d_callTy call_tuple_of ca_tup b.t_tuple bt_tuple (da_cons (d_var 4) da_nil))))))
theorem n_law_those {f : Addr} {fd : FuncData} (F : FunD K "_law_those" "_law_those" (defArgs (top 30)) (defBody (top 30)) (defScope (top 30)) [] [] f fd) : L2.Binds K fd ["rows", "at", "leg"] [] :=
  F.bindsN fun _ _ _ _ _ _ us hl => match us, hl with | [_, _, _], _ => rfl
/-! those_from -/
def e_those_from_1 (ρ : DL.Env) : DL.Res D := (m2 dGe (mVar 2) (mVar 6)) ρ
def t_those_from_1 (ρ : DL.Env) : DL.Res Bool := (mAndT (mTru (m2 dIx (mVar 3) (mVar 4))) (mNotT (mTru (m2 dIx (mVar 3) (m2 dAdd (mVar 4) (mC (.int 1))))))) ρ
def m_those_from : M Fl := (mSeq (mSet 3 (mLst (mCons (mC (.bl true)) (mStar (mLcD (mComp [6] (mItLT (mVar 1)) (mTN 6) mTrue e_those_from_1)) (mCons (mC (.bl false)) mNil)))))
  (mRet (mCa fTup (mCons (mLcD (mComp [4, 5] (mEnumX (mVar 0)) (mTT (mTCons (mTN 4) (mTCons (mTN 5) mTNil))) t_those_from_1 (mVar 5))) mNil))))
def F_those_from : FD := runF 7 false m_those_from
theorem sc_those_from : FnScope ["hands", "points", "leg", "on", "at", "hand", "point"] ["hands", "points", "leg"] (defScope (top 19)) := ⟨rfl, rfl, rfl, by decide +kernel, rfl, by decide +kernel, by decide +kernel⟩
theorem k_those_from {f : Addr} {fd : FuncData} (b : B K mg) (cf : CFacts K 3) (F : FunD K "those_from" "those_from" (defArgs (top 19)) (defBody (top 19)) (defScope (top 19)) [] [] f fd) : FnOk P w K mg base CX0 1 f fd ["hands", "points", "leg"] (spF K 3 F_those_from) :=
  have hN : List.Nodup (α := Str) ["hands", "points", "leg", "on", "at", "hand", "point"] := sc_those_from.nd
  fn_ok F sc_those_from fun cdv A outer s H E hr =>
  (s_cons (s_set 3 hN (d_list (da_cons d_bl (da_star (d_lc [("point", 6)] rfl hN (blkOk_by (N := ["hands", "points", "leg", "on", "at", "hand", "point"]) (sc := defScope (top 19)) (by decide +kernel)) (by decide) (i_seq (d_var 1)) (fun _ _ _ _ _ => (g_name 6 hN)) (fun _ _ _ _ _ => ts_nil) (fun _ _ _ _ _ => (d_cmp1 c_ge (d_var 2) (d_var 6)))) (da_cons d_bl da_nil)))))
  (s_one (s_ret (d_callTy call_tuple_of ca_tup b.t_tuple bt_tuple (da_cons (d_lc [("at", 4), ("hand", 5)] rfl hN (blkOk_by (N := ["hands", "points", "leg", "on", "at", "hand", "point"]) (sc := defScope (top 19)) (by decide +kernel)) (by decide) (i_enumX (d_var 0) b.enumerate) (fun _ _ _ _ _ => (g_tup rfl (gs_cons (g_name 4 hN) (gs_cons (g_name 5 hN) gs_nil)))) (fun _ _ _ _ _ => (ts_one (dw_and (dt_tru (d_item (d_var 3) (d_var 4))) (dw_and1 (dt_not (dt_tru (d_item (d_var 3) (d_add (d_var 4) d_int)))))).pt)) (fun _ _ _ _ _ => (d_var 5))) da_nil)))))
theorem n_those_from {f : Addr} {fd : FuncData} (F : FunD K "those_from" "those_from" (defArgs (top 19)) (defBody (top 19)) (defScope (top 19)) [] [] f fd) : L2.Binds K fd ["hands", "points", "leg"] [] :=
  F.bindsN fun _ _ _ _ _ _ us hl => match us, hl with | [_, _, _], _ => rfl
/-! bearers -/
def e_bearers_1 (ρ : DL.Env) : DL.Res D := (m1 (dFld [(0, 2)]) (mVar 3)) ρ
def m_bearers : M Fl := (mSeq (mDo (mCall X_check_number (mACons (mC (.str "leg")) (mACons (mVar 2) (mACons (mC (.int 0)) (mACons (m2 dSub (mC c_MOST_LEGS) (mC (.int 1))) mANil))))))
  (mRet (mCall F_those_from (mACons (mCall X_hands_of (mACons (mVar 0) (mACons (mVar 1) mANil))) (mACons (mLcD (mComp [3] (mItLT (mVar 1)) (mTN 3) mTrue e_bearers_1)) (mACons (mVar 2) mANil))))))
def F_bearers : FD := runF 4 false m_bearers
def X_bearers : FD := runF 4 true m_bearers
theorem sc_bearers : FnScope ["maker", "sales", "leg", "sale"] ["maker", "sales", "leg"] (defScope (top 20)) := ⟨rfl, rfl, rfl, by decide +kernel, rfl, by decide +kernel, by decide +kernel⟩
theorem k_bearers {f : Addr} {fd : FuncData} (b : B K mg) (cf : CFacts K 3) (h_those_from : Callee P w K mg base CX0 1 "those_from" 3 F_those_from) (x_check_number : Callee P w K mg base (L2.CX P w) 3 "check_number" 4 X_check_number) (x_hands_of : Callee P w K mg base (L2.CX P w) 5 "hands_of" 2 X_hands_of) (F : FunD K "bearers" "bearers" (defArgs (top 20)) (defBody (top 20)) (defScope (top 20)) [] [] f fd) : FnOk P w K mg base (L2.CX P w) 6 f fd ["maker", "sales", "leg"] (spF K 3 X_bearers) :=
  have hN : List.Nodup (α := Str) ["maker", "sales", "leg", "sale"] := sc_bearers.nd
  fn_okX F sc_bearers fun cdv A outer s H E hr =>
  (s_cons (s_expr (d_call x_check_number hr pX (as_cons d_str (as_cons (d_var 2) (as_cons d_int (as_cons (d_sub (d_glob (by rfl) b.c_MOST_LEGS.choose_spec.1 b.c_MOST_LEGS.choose_spec.2.1 b.c_MOST_LEGS.choose_spec.2.2) d_int) as_nil))))))
  (s_one (s_ret (d_call h_those_from hr p0 (as_cons (d_call x_hands_of hr pX (as_cons (d_var 0) (as_cons (d_var 1) as_nil))) (as_cons (d_lc [("sale", 3)] rfl hN (blkOk_by (N := ["maker", "sales", "leg", "sale"]) (sc := defScope (top 20)) (by decide +kernel)) (by decide) (i_seq (d_var 1)) (fun _ _ _ _ _ => (g_name 3 hN)) (fun _ _ _ _ _ => ts_nil) (fun _ _ _ _ _ => (d_fld cf [(0, 2)] (d_var 3)))) (as_cons (d_var 2) as_nil)))))))
theorem n_bearers {f : Addr} {fd : FuncData} (F : FunD K "bearers" "bearers" (defArgs (top 20)) (defBody (top 20)) (defScope (top 20)) [] [] f fd) : L2.Binds K fd ["maker", "sales", "leg"] [] :=
  F.bindsN fun _ _ _ _ _ _ us hl => match us, hl with | [_, _, _], _ => rfl
/-! payers -/
def e_payers_1 (ρ : DL.Env) : DL.Res D := (m1 (dFld [(0, 3)]) (mVar 3)) ρ
def m_payers : M Fl := (mSeq (mDo (mCall F_check_number (mACons (mC (.str "leg")) (mACons (mVar 2) (mACons (mC (.int 0)) (mACons (m2 dSub (mC c_MOST_LEGS) (mC (.int 1))) mANil))))))
  (mRet (mCall F_those_from (mACons (mCall F_hands_of (mACons (mVar 0) (mACons (mVar 1) mANil))) (mACons (mLcD (mComp [3] (mItLT (mVar 1)) (mTN 3) mTrue e_payers_1)) (mACons (mVar 2) mANil))))))
def F_payers : FD := runF 4 false m_payers
theorem sc_payers : FnScope ["maker", "sales", "leg", "sale"] ["maker", "sales", "leg"] (defScope (top 21)) := ⟨rfl, rfl, rfl, by decide +kernel, rfl, by decide +kernel, by decide +kernel⟩
theorem k_payers {f : Addr} {fd : FuncData} (b : B K mg) (cf : CFacts K 3) (h_check_number : Callee P w K mg base CX0 3 "check_number" 4 F_check_number) (h_hands_of : Callee P w K mg base CX0 5 "hands_of" 2 F_hands_of) (h_those_from : Callee P w K mg base CX0 1 "those_from" 3 F_those_from) (F : FunD K "payers" "payers" (defArgs (top 21)) (defBody (top 21)) (defScope (top 21)) [] [] f fd) : FnOk P w K mg base CX0 6 f fd ["maker", "sales", "leg"] (spF K 3 F_payers) :=
  have hN : List.Nodup (α := Str) ["maker", "sales", "leg", "sale"] := sc_payers.nd
  fn_ok F sc_payers fun cdv A outer s H E hr =>
  (s_cons (s_expr (d_call h_check_number hr p0 (as_cons d_str (as_cons (d_var 2) (as_cons d_int (as_cons (d_sub (d_glob (by rfl) b.c_MOST_LEGS.choose_spec.1 b.c_MOST_LEGS.choose_spec.2.1 b.c_MOST_LEGS.choose_spec.2.2) d_int) as_nil))))))
  (s_one (s_ret (d_call h_those_from hr p0 (as_cons (d_call h_hands_of hr p0 (as_cons (d_var 0) (as_cons (d_var 1) as_nil))) (as_cons (d_lc [("sale", 3)] rfl hN (blkOk_by (N := ["maker", "sales", "leg", "sale"]) (sc := defScope (top 21)) (by decide +kernel)) (by decide) (i_seq (d_var 1)) (fun _ _ _ _ _ => (g_name 3 hN)) (fun _ _ _ _ _ => ts_nil) (fun _ _ _ _ _ => (d_fld cf [(0, 3)] (d_var 3)))) (as_cons (d_var 2) as_nil)))))))
theorem n_payers {f : Addr} {fd : FuncData} (F : FunD K "payers" "payers" (defArgs (top 21)) (defBody (top 21)) (defScope (top 21)) [] [] f fd) : L2.Binds K fd ["maker", "sales", "leg"] [] :=
  F.bindsN fun _ _ _ _ _ _ us hl => match us, hl with | [_, _, _], _ => rfl
/-! Uneven.__init__ -/
def m_Uneven_init : M Fl := (mSeq (mFld 0 2 0 (mVar 1))
  (mFld 0 2 1 (mIfE (mTru (mCall F_is_row (mACons (mVar 2) mANil))) (mCa fTup (mCons (mVar 2) mNil)) (mVar 2))))
def F_Uneven_init : FD := runF 3 false m_Uneven_init
theorem sc_Uneven_init : FnScope ["self", "leg", "hands"] ["self", "leg", "hands"] (defScope (inClass (top 16) 0)) := ⟨rfl, rfl, rfl, by decide +kernel, rfl, by decide +kernel, by decide +kernel⟩
theorem k_Uneven_init {f : Addr} {fd : FuncData} (b : B K mg) (cf : CFacts K 3) (h_is_row : Callee P w K mg base CX0 1 "is_row" 1 F_is_row) (F : FunD K "__init__" "Uneven.__init__" (defArgs (inClass (top 16) 0)) (defBody (inClass (top 16) 0)) (defScope (inClass (top 16) 0)) [] [] f fd) : FnOk P w K mg base CX0 2 f fd ["self", "leg", "hands"] (spF K 3 F_Uneven_init) :=
  have hN : List.Nodup (α := Str) ["self", "leg", "hands"] := sc_Uneven_init.nd
  fn_ok F sc_Uneven_init fun cdv A outer s H E hr =>
  (s_cons (s_fld cf 0 2 0 (by decide) rfl (by decide) (d_var 1))
  (s_one (s_fld cf 0 2 1 (by decide) rfl (by decide) (d_ifexp (dt_tru (d_call h_is_row hr p0 (as_cons (d_var 2) as_nil))) (d_callTy call_tuple_of ca_tup b.t_tuple bt_tuple (da_cons (d_var 2) da_nil)) (d_var 2)))))
theorem n_Uneven_init {f : Addr} {fd : FuncData} (F : FunD K "__init__" "Uneven.__init__" (defArgs (inClass (top 16) 0)) (defBody (inClass (top 16) 0)) (defScope (inClass (top 16) 0)) [] [] f fd) : L2.Binds K fd ["self", "leg", "hands"] [] :=
  F.bindsN fun _ _ _ _ _ _ us hl => match us, hl with | [_, _, _], _ => rfl
/-! Even.__init__ -/
def m_Even_init : M Fl := (mFld 0 1 0 (mIfE (mTru (mCall F_is_row (mACons (mVar 1) mANil))) (mCa fTup (mCons (mVar 1) mNil)) (mVar 1)))
def F_Even_init : FD := runF 2 false m_Even_init
theorem sc_Even_init : FnScope ["self", "hands"] ["self", "hands"] (defScope (inClass (top 15) 0)) := ⟨rfl, rfl, rfl, by decide +kernel, rfl, by decide +kernel, by decide +kernel⟩
theorem k_Even_init {f : Addr} {fd : FuncData} (b : B K mg) (cf : CFacts K 3) (h_is_row : Callee P w K mg base CX0 1 "is_row" 1 F_is_row) (F : FunD K "__init__" "Even.__init__" (defArgs (inClass (top 15) 0)) (defBody (inClass (top 15) 0)) (defScope (inClass (top 15) 0)) [] [] f fd) : FnOk P w K mg base CX0 2 f fd ["self", "hands"] (spF K 2 F_Even_init) :=
  have hN : List.Nodup (α := Str) ["self", "hands"] := sc_Even_init.nd
  fn_ok F sc_Even_init fun cdv A outer s H E hr =>
  (s_one (s_fld cf 0 1 0 (by decide) rfl (by decide) (d_ifexp (dt_tru (d_call h_is_row hr p0 (as_cons (d_var 1) as_nil))) (d_callTy call_tuple_of ca_tup b.t_tuple bt_tuple (da_cons (d_var 1) da_nil)) (d_var 1))))
theorem n_Even_init {f : Addr} {fd : FuncData} (F : FunD K "__init__" "Even.__init__" (defArgs (inClass (top 15) 0)) (defBody (inClass (top 15) 0)) (defScope (inClass (top 15) 0)) [] [] f fd) : L2.Binds K fd ["self", "hands"] [] :=
  F.bindsN fun _ _ _ _ _ _ us hl => match us, hl with | [_, _], _ => rfl
/-! judge_chain -/
def e_judge_chain_1 (ρ : DL.Env) : DL.Res D := (mCall F_bearers (mACons (mVar 0) (mACons (mVar 1) (mACons (mVar 4) mANil)))) ρ
def b_judge_chain_1 (ρ : DL.Env) : DL.Res Fl := (mIf (mTest (m2 dGt (mCa fLen (mCons (mVar 5) mNil)) (mC (.int 1)))) (mRet (mNew 2 F_Uneven_init (mACons (mVar 4) (mACons (mVar 5) mANil))))
  mSkip) ρ
def e_judge_chain_2 (ρ : DL.Env) : DL.Res D := (m2 dIx (mVar 5) (mC (.int 0))) ρ
def m_judge_chain : M Fl := (mSeq (mDo (mCall X_check_chain (mACons (mVar 0) (mACons (mVar 1) (mACons (mVar 2) mANil)))))
  (mSeq (mSet 3 (mLcD (mComp [4] (mRng1 (mVar 2)) (mTN 4) mTrue e_judge_chain_1)))
  (mSeq (mFor (mEnumX (mVar 3)) (mTT (mTCons (mTN 4) (mTCons (mTN 5) mTNil))) b_judge_chain_1)
  (mRet (mNew 1 F_Even_init (mACons (mLcD (mComp [5] (mItLT (mVar 3)) (mTN 5) mTrue e_judge_chain_2)) mANil))))))
def F_judge_chain : FD := runF 6 false m_judge_chain
def X_judge_chain : FD := runF 6 true m_judge_chain
theorem sc_judge_chain : FnScope ["maker", "sales", "legs", "rows", "leg", "row"] ["maker", "sales", "legs"] (defScope (top 22)) := ⟨rfl, rfl, rfl, by decide +kernel, rfl, by decide +kernel, by decide +kernel⟩
theorem k_judge_chain {f : Addr} {fd : FuncData} (b : B K mg) (cf : CFacts K 3) (h_bearers : Callee P w K mg base CX0 6 "bearers" 3 F_bearers) (h_Even_init : Maker P w K mg base CX0 2 "Even" 1 1 F_Even_init) (h_Uneven_init : Maker P w K mg base CX0 2 "Uneven" 2 2 F_Uneven_init) (x_check_chain : Callee P w K mg base (L2.CX P w) 4 "check_chain" 3 X_check_chain) (F : FunD K "judge_chain" "judge_chain" (defArgs (top 22)) (defBody (top 22)) (defScope (top 22)) [] [] f fd) : FnOk P w K mg base (L2.CX P w) 7 f fd ["maker", "sales", "legs"] (spF K 3 X_judge_chain) :=
  have hN : List.Nodup (α := Str) ["maker", "sales", "legs", "rows", "leg", "row"] := sc_judge_chain.nd
  fn_okX F sc_judge_chain fun cdv A outer s H E hr =>
  (s_cons (s_expr (d_call x_check_chain hr pX (as_cons (d_var 0) (as_cons (d_var 1) (as_cons (d_var 2) as_nil)))))
  (s_cons (s_setLc 3 [("leg", 4)] rfl hN (blkOk_by (N := ["maker", "sales", "legs", "rows", "leg", "row"]) (sc := defScope (top 22)) (by decide +kernel)) (by decide) (i_rng1 (d_var 2) b.range) (fun _ _ _ _ _ => (g_name 4 hN)) (fun _ _ _ _ _ => ts_nil) (fun _ _ _ _ _ => (d_call h_bearers hr p0 (as_cons (d_var 0) (as_cons (d_var 1) (as_cons (d_var 4) as_nil))))))
  (s_cons (s_for (passes_of rfl) rfl (i_enumX (d_var 3) b.enumerate) (g_tup rfl (gs_cons (g_name 4 hN) (gs_cons (g_name 5 hN) gs_nil))) (s_one (s_if (dt_cmp1 c_gt (d_callB call_lenA ca_len b.len bt_len (da_cons (d_var 5) da_nil)) d_int) (s_one (s_ret (d_new h_Uneven_init hr p0 (as_cons (d_var 4) (as_cons (d_var 5) as_nil)))))
  s_nil)))
  (s_one (s_ret (d_new h_Even_init hr p0 (as_cons (d_lc [("row", 5)] rfl hN (blkOk_by (N := ["maker", "sales", "legs", "rows", "leg", "row"]) (sc := defScope (top 22)) (by decide +kernel)) (by decide) (i_seq (d_var 3)) (fun _ _ _ _ _ => (g_name 5 hN)) (fun _ _ _ _ _ => ts_nil) (fun _ _ _ _ _ => (d_item (d_var 5) d_int))) as_nil)))))))
theorem n_judge_chain {f : Addr} {fd : FuncData} (F : FunD K "judge_chain" "judge_chain" (defArgs (top 22)) (defBody (top 22)) (defScope (top 22)) [] [] f fd) : L2.Binds K fd ["maker", "sales", "legs"] [] :=
  F.bindsN fun _ _ _ _ _ _ us hl => match us, hl with | [_, _, _], _ => rfl
/-! Even.shows -/
def m_Even_shows : M Fl := (mRet (m2 (dEqO gs_eq) (mCall F_judge_chain (mACons (mVar 1) (mACons (mVar 2) (mACons (mVar 3) mANil)))) (mVar 0)))
def F_Even_shows : FD := runF 4 false m_Even_shows
theorem sc_Even_shows : FnScope ["self", "maker", "sales", "legs"] ["self", "maker", "sales", "legs"] (defScope (inClass (top 15) 3)) := ⟨rfl, rfl, rfl, by decide +kernel, rfl, by decide +kernel, by decide +kernel⟩
theorem k_Even_shows {f : Addr} {fd : FuncData} (b : B K mg) (cf : CFacts K 3) (h_judge_chain : Callee P w K mg base CX0 7 "judge_chain" 3 F_judge_chain) (he_eq : ∀ q ∈ gs_eq, Eqer P w K mg base CX0 1 q.1 q.2) (hn_eq : ∀ q ∈ gs_eq, ∀ q' ∈ gs_eq, PySem.W.notFirst K (He.ga K (cN q.1)) (.ref (He.ga K (cN q'.1))) = true) (F : FunD K "shows" "Even.shows" (defArgs (inClass (top 15) 3)) (defBody (inClass (top 15) 3)) (defScope (inClass (top 15) 3)) [] [] f fd) : FnOk P w K mg base CX0 8 f fd ["self", "maker", "sales", "legs"] (spF K 4 F_Even_shows) :=
  have hN : List.Nodup (α := Str) ["self", "maker", "sales", "legs"] := sc_Even_shows.nd
  fn_ok F sc_Even_shows fun cdv A outer s H E hr =>
  (s_one (s_ret (d_cmp1 (c_eqO he_eq hn_eq hr) (d_call h_judge_chain hr p0 (as_cons (d_var 1) (as_cons (d_var 2) (as_cons (d_var 3) as_nil)))) (d_var 0))))
theorem n_Even_shows {f : Addr} {fd : FuncData} (F : FunD K "shows" "Even.shows" (defArgs (inClass (top 15) 3)) (defBody (inClass (top 15) 3)) (defScope (inClass (top 15) 3)) [] [] f fd) : L2.Binds K fd ["self", "maker", "sales", "legs"] [] :=
  F.bindsN fun _ _ _ _ _ _ us hl => match us, hl with | [_, _, _, _], _ => rfl
/-! Uneven.shows -/
def m_Uneven_shows : M Fl := (mSeq (mDo (mCall F_check_chain (mACons (mVar 1) (mACons (mVar 2) (mACons (mVar 3) mANil)))))
  (mSeq (mIf (mNotT (mTru (mCall F_is_number (mACons (m1 (dFld [(2, 0)]) (mVar 0)) (mACons (mC (.int 0)) (mACons (m2 dSub (mVar 3) (mC (.int 1))) mANil)))))) (mRet (mC (.bl false)))
  mSkip)
  (mRet (mAndV (m2 dEq (m1 (dFld [(1, 0), (2, 1)]) (mVar 0)) (mCall F_bearers (mACons (mVar 1) (mACons (mVar 2) (mACons (m1 (dFld [(2, 0)]) (mVar 0)) mANil))))) (m2 dGt (mCa fLen (mCons (m1 (dFld [(1, 0), (2, 1)]) (mVar 0)) mNil)) (mC (.int 1)))))))
def F_Uneven_shows : FD := runF 4 false m_Uneven_shows
theorem sc_Uneven_shows : FnScope ["self", "maker", "sales", "legs"] ["self", "maker", "sales", "legs"] (defScope (inClass (top 16) 3)) := ⟨rfl, rfl, rfl, by decide +kernel, rfl, by decide +kernel, by decide +kernel⟩
theorem k_Uneven_shows {f : Addr} {fd : FuncData} (b : B K mg) (cf : CFacts K 3) (h_bearers : Callee P w K mg base CX0 6 "bearers" 3 F_bearers) (h_check_chain : Callee P w K mg base CX0 4 "check_chain" 3 F_check_chain) (h_is_number : Callee P w K mg base CX0 2 "is_number" 3 F_is_number) (F : FunD K "shows" "Uneven.shows" (defArgs (inClass (top 16) 3)) (defBody (inClass (top 16) 3)) (defScope (inClass (top 16) 3)) [] [] f fd) : FnOk P w K mg base CX0 7 f fd ["self", "maker", "sales", "legs"] (spF K 4 F_Uneven_shows) :=
  have hN : List.Nodup (α := Str) ["self", "maker", "sales", "legs"] := sc_Uneven_shows.nd
  fn_ok F sc_Uneven_shows fun cdv A outer s H E hr =>
  (s_cons (s_expr (d_call h_check_chain hr p0 (as_cons (d_var 1) (as_cons (d_var 2) (as_cons (d_var 3) as_nil)))))
  (s_cons (s_if (dt_not (dt_tru (d_call h_is_number hr p0 (as_cons (d_fld cf [(2, 0)] (d_var 0)) (as_cons d_int (as_cons (d_sub (d_var 3) d_int) as_nil)))))) (s_one (s_ret d_bl))
  s_nil)
  (s_one (s_ret (d_and (d_cmp1 (c_eq hr) (d_fld cf [(1, 0), (2, 1)] (d_var 0)) (d_call h_bearers hr p0 (as_cons (d_var 1) (as_cons (d_var 2) (as_cons (d_fld cf [(2, 0)] (d_var 0)) as_nil))))) (d_one (d_cmp1 c_gt (d_callB call_lenA ca_len b.len bt_len (da_cons (d_fld cf [(1, 0), (2, 1)] (d_var 0)) da_nil)) d_int)))))))
theorem n_Uneven_shows {f : Addr} {fd : FuncData} (F : FunD K "shows" "Uneven.shows" (defArgs (inClass (top 16) 3)) (defBody (inClass (top 16) 3)) (defScope (inClass (top 16) 3)) [] [] f fd) : L2.Binds K fd ["self", "maker", "sales", "legs"] [] :=
  F.bindsN fun _ _ _ _ _ _ us hl => match us, hl with | [_, _, _, _], _ => rfl
def gs_shows : List (Nat × FD) := [(1, F_Even_shows), (2, F_Uneven_shows)]
/-! legs_of -/
def t_legs_of_1 (ρ : DL.Env) : DL.Res Bool := (mTest (m2 dIn (mVar 3) (mCall F_bearers (mACons (mVar 0) (mACons (mVar 1) (mACons (mVar 4) mANil)))))) ρ
def m_legs_of : M Fl := (mSeq (mDo (mCall X_check_chain (mACons (mVar 0) (mACons (mVar 1) (mACons (mVar 2) mANil)))))
  (mSeq (mIf (mTest (m2 dNotIn (mVar 3) (mCall X_hands_of (mACons (mVar 0) (mACons (mVar 1) mANil))))) (mRaise 3 (mCons (mC (.str "hand")) (mCons (mC .non) mNil)))
  mSkip)
  (mRet (mCa fTup (mCons (mLcD (mComp [4] (mRng1 (mVar 2)) (mTN 4) t_legs_of_1 (mVar 4))) mNil)))))
def F_legs_of : FD := runF 5 false m_legs_of
def X_legs_of : FD := runF 5 true m_legs_of
theorem sc_legs_of : FnScope ["maker", "sales", "legs", "hand", "leg"] ["maker", "sales", "legs", "hand"] (defScope (top 23)) := ⟨rfl, rfl, rfl, by decide +kernel, rfl, by decide +kernel, by decide +kernel⟩
theorem k_legs_of {f : Addr} {fd : FuncData} (b : B K mg) (cf : CFacts K 3) (h_bearers : Callee P w K mg base CX0 6 "bearers" 3 F_bearers) (r_BadPart : Raiser P w K mg base 3 2) (x_check_chain : Callee P w K mg base (L2.CX P w) 4 "check_chain" 3 X_check_chain) (x_hands_of : Callee P w K mg base (L2.CX P w) 5 "hands_of" 2 X_hands_of) (F : FunD K "legs_of" "legs_of" (defArgs (top 23)) (defBody (top 23)) (defScope (top 23)) [] [] f fd) : FnOk P w K mg base (L2.CX P w) 7 f fd ["maker", "sales", "legs", "hand"] (spF K 4 X_legs_of) :=
  have hN : List.Nodup (α := Str) ["maker", "sales", "legs", "hand", "leg"] := sc_legs_of.nd
  fn_okX F sc_legs_of fun cdv A outer s H E hr =>
  (s_cons (s_expr (d_call x_check_chain hr pX (as_cons (d_var 0) (as_cons (d_var 1) (as_cons (d_var 2) as_nil)))))
  (s_cons (s_if (dt_cmp1 (c_notin hr) (d_var 3) (d_call x_hands_of hr pX (as_cons (d_var 0) (as_cons (d_var 1) as_nil)))) (s_one (s_raise r_BadPart rfl rfl tkX (hr.mono (by decide)) (da_cons d_str (da_cons d_non da_nil)) (lsl_cons (lsl_cons (fun _ _ _ h => lsl_nil h)))))
  s_nil)
  (s_one (s_ret (d_callTy call_tuple_of ca_tup b.t_tuple bt_tuple (da_cons (d_lc [("leg", 4)] rfl hN (blkOk_by (N := ["maker", "sales", "legs", "hand", "leg"]) (sc := defScope (top 23)) (by decide +kernel)) (by decide) (i_rng1 (d_var 2) b.range) (fun _ _ _ _ _ => (g_name 4 hN)) (fun _ _ _ _ _ => (ts_one (dt_cmp1 (c_in hr) (d_var 3) (d_call h_bearers hr p0 (as_cons (d_var 0) (as_cons (d_var 1) (as_cons (d_var 4) as_nil))))))) (fun _ _ _ _ _ => (d_var 4))) da_nil))))))
theorem n_legs_of {f : Addr} {fd : FuncData} (F : FunD K "legs_of" "legs_of" (defArgs (top 23)) (defBody (top 23)) (defScope (top 23)) [] [] f fd) : L2.Binds K fd ["maker", "sales", "legs", "hand"] [] :=
  F.bindsN fun _ _ _ _ _ _ us hl => match us, hl with | [_, _, _, _], _ => rfl
/-! mended -/
def b_mended_1 (ρ : DL.Env) : DL.Res Fl := (mSeq (mPar 3 4 (mCons (mCa fMax (mCons (mVar 3) (mCons (m1 (dFld [(0, 2)]) (mVar 5)) mNil))) (mCons (mCa fMax (mCons (mVar 4) (mCons (m1 (dFld [(0, 3)]) (mVar 5)) mNil))) mNil)))
  (mApp 2 (mNew 0 F_Sale_init (mACons (m1 (dFld [(0, 0)]) (mVar 5)) (mACons (m1 (dFld [(0, 1)]) (mVar 5)) (mACons (mVar 3) (mACons (mVar 4) mANil))))))) ρ
def m_mended : M Fl := (mSeq (mDo (mCall F_check_chain (mACons (mVar 0) (mACons (mVar 1) (mACons (mC (.int 1)) mANil)))))
  (mSeq (mPar3O 2 3 4 (oLst mNil) 0 0)
  (mSeq (mFor (mItLT (mVar 1)) (mTN 5) b_mended_1)
  (mFrz 2 (mRet (mVar 2))))))
def F_mended : FD := runF 6 false m_mended
theorem sc_mended : FnScope ["maker", "sales", "found", "risk", "freight", "sale"] ["maker", "sales"] (defScope (top 24)) := ⟨rfl, rfl, rfl, by decide +kernel, rfl, by decide +kernel, by decide +kernel⟩
theorem k_mended {f : Addr} {fd : FuncData} (b : B K mg) (cf : CFacts K 3) (h_check_chain : Callee P w K mg base CX0 4 "check_chain" 3 F_check_chain) (h_Sale_init : Maker P w K mg base CX0 4 "Sale" 4 0 F_Sale_init) (F : FunD K "mended" "mended" (defArgs (top 24)) (defBody (top 24)) (defScope (top 24)) [] [] f fd) : FnOk P w K mg base CX0 6 f fd ["maker", "sales"] (spF K 2 F_mended) :=
  have hN : List.Nodup (α := Str) ["maker", "sales", "found", "risk", "freight", "sale"] := sc_mended.nd
  fn_ok F sc_mended fun cdv A outer s H E hr =>
  (s_cons (s_expr (d_call h_check_chain hr p0 (as_cons (d_var 0) (as_cons (d_var 1) (as_cons d_int as_nil)))))
  (s_cons (s_par3O 2 3 4 rfl hN (o_list da_nil))
  (s_cons (s_for PassesOwn.never rfl (i_seq (d_var 1)) (g_name 5 hN) (s_cons (s_par 3 4 rfl hN (da_cons (d_callB (call_maxA rfl) ca_max b.max bt_max (da_cons (d_var 3) (da_cons (d_fld cf [(0, 2)] (d_var 5)) da_nil))) (da_cons (d_callB (call_maxA rfl) ca_max b.max bt_max (da_cons (d_var 4) (da_cons (d_fld cf [(0, 3)] (d_var 5)) da_nil))) da_nil)))
  (s_one (s_append 2 (d_new h_Sale_init hr p0 (as_cons (d_fld cf [(0, 0)] (d_var 5)) (as_cons (d_fld cf [(0, 1)] (d_var 5)) (as_cons (d_var 3) (as_cons (d_var 4) as_nil)))))))))
  (s_one (s_frz 2 (s_ret (d_var 2)))))))
theorem n_mended {f : Addr} {fd : FuncData} (F : FunD K "mended" "mended" (defArgs (top 24)) (defBody (top 24)) (defScope (top 24)) [] [] f fd) : L2.Binds K fd ["maker", "sales"] [] :=
  F.bindsN fun _ _ _ _ _ _ us hl => match us, hl with | [_, _], _ => rfl
/-! law -/
def e_law_1 (ρ : DL.Env) : DL.Res D := (m2 dIx (mVar 15) (mC (.int 0))) ρ
def e_law_2 (ρ : DL.Env) : DL.Res D := (mOrV (m2 dNe (mTup (mCons (m1 (dFld [(0, 0)]) (mVar 3)) (mCons (m1 (dFld [(0, 1)]) (mVar 3)) (mCons (m1 (dFld [(0, 2)]) (mVar 3)) (mCons (m1 (dFld [(0, 3)]) (mVar 3)) mNil))))) (mVar 15)) (m2 (dNeO gs_eq) (mVar 3) (mNew 0 F_Sale_init (mACons (m2 dIx (mVar 15) (mC (.int 0))) (mACons (m2 dIx (mVar 15) (mC (.int 1))) (mACons (m2 dIx (mVar 15) (mC (.int 2))) (mACons (m2 dIx (mVar 15) (mC (.int 3))) mANil))))))) ρ
def e_law_3 (ρ : DL.Env) : DL.Res D := (mCall F_law_those (mACons (mVar 6) (mACons (mC (.int 2)) (mACons (mVar 13) mANil)))) ρ
def e_law_4 (ρ : DL.Env) : DL.Res D := (mCa fTup (mCons (mCall F_bearers (mACons (mC (.str "ann")) (mACons (mVar 8) (mACons (mVar 13) mANil)))) mNil)) ρ
def e_law_5 (ρ : DL.Env) : DL.Res D := (mCa fTup (mCons (mCall F_payers (mACons (mC (.str "ann")) (mACons (mVar 8) (mACons (mVar 13) mANil)))) mNil)) ρ
def e_law_6 (ρ : DL.Env) : DL.Res D := (mCall F_law_those (mACons (mVar 6) (mACons (mC (.int 3)) (mACons (mVar 13) mANil)))) ρ
def t_law_1 (ρ : DL.Env) : DL.Res Bool := (mTest (m2 dGt (mCa fLen (mCons (mVar 15) mNil)) (mC (.int 1)))) ρ
def e_law_7 (ρ : DL.Env) : DL.Res D := (mTup (mCons (mVar 13) (mCons (mVar 15) mNil))) ρ
def e_law_8 (ρ : DL.Env) : DL.Res D := (m2 dIx (mVar 15) (mC (.int 0))) ρ
def b_law_1 (ρ : DL.Env) : DL.Res Fl := (mIf (mOrT (mTest (m2 dNe (mMeth gs_shows (mNew 2 F_Uneven_init (mACons (mVar 13) (mACons (m2 dIx (mVar 10) (mVar 13)) mANil))) (mACons (mC (.str "ann")) (mACons (mVar 8) (mACons (mVar 7) mANil)))) (m2 dIn (mTup (mCons (mVar 13) (mCons (m2 dIx (mVar 10) (mVar 13)) mNil))) (mVar 11)))) (mTru (mMeth gs_shows (mNew 2 F_Uneven_init (mACons (mVar 13) (mACons (mTup (mCons (mC (.str "zed")) (mCons (mC (.str "ann")) mNil))) mANil))) (mACons (mC (.str "ann")) (mACons (mVar 8) (mACons (mVar 7) mANil)))))) (mRet (mC (.bl false)))
  mSkip) ρ
def e_law_9 (ρ : DL.Env) : DL.Res D := (m2 dLe (m2 dIx (mVar 18) (mC (.int 2))) (m2 dIx (mVar 14) (mC (.int 2)))) ρ
def t_law_2 (ρ : DL.Env) : DL.Res Bool := (mTest (m2 dIn (mVar 17) (m2 dIx (mVar 10) (mVar 13)))) ρ
def e_law_10 (ρ : DL.Env) : DL.Res D := (m2 dNe (mCa fTup (mCons (mCall F_legs_of (mACons (mC (.str "ann")) (mACons (mVar 8) (mACons (mVar 7) (mACons (mVar 17) mANil))))) mNil)) (mCa fTup (mCons (mLcD (mComp [13] (mRng1 (mVar 7)) (mTN 13) t_law_2 (mVar 13))) mNil))) ρ
def e_law_11 (ρ : DL.Env) : DL.Res D := (m2 dIx (mVar 18) (mC (.int 3))) ρ
def e_law_12 (ρ : DL.Env) : DL.Res D := (m2 dIx (mVar 18) (mC (.int 2))) ρ
def e_law_13 (ρ : DL.Env) : DL.Res D := (mTup (mCons (m2 dIx (mVar 15) (mC (.int 0))) (mCons (m2 dIx (mVar 15) (mC (.int 1))) (mCons (mCa fMax (mCons (mLcD (mComp [18] (mItLT (mSl (mVar 6) none (some (m2 dAdd (mVar 16) (mC (.int 1)))))) (mTN 18) mTrue e_law_12)) mNil)) (mCons (mCa fMax (mCons (mLcD (mComp [18] (mItLT (mSl (mVar 6) none (some (m2 dAdd (mVar 16) (mC (.int 1)))))) (mTN 18) mTrue e_law_11)) mNil)) mNil))))) ρ
def s_law_1 (ρ : DL.Env) : DL.Res Fl := (mAsg (mTT (mTCons (mTN 6) (mTCons (mTN 7) mTNil))) (mTup (mCons (mCall F_law_chain (mASlot 1 mANil)) (mCons (m2 dAdd (mC (.int 1)) (mCall F_law_take (mASlot 1 (mACons (mC (.int 9)) mANil)))) mNil)))) ρ
def s_law_2 (ρ : DL.Env) : DL.Res Fl := (mAsg (mTT (mTCons (mTN 8) (mTCons (mTN 9) mTNil))) (mTup (mCons (mCall F_law_sales (mACons (mVar 6) mANil)) (mCons (m2 dAdd (mLst (mCons (mC (.str "ann")) mNil)) (mLcD (mComp [15] (mItLT (mVar 6)) (mTN 15) mTrue e_law_1))) mNil)))) ρ
def s_law_3 (ρ : DL.Env) : DL.Res Fl := (mIf (mOrT (mTest (m2 dNe (mCa fLst (mCons (mCall F_hands_of (mACons (mC (.str "ann")) (mACons (mVar 8) mANil))) mNil)) (mVar 9))) (mTru (mCa fAny (mCons (mLcD (mComp [3, 15] (mZipX (mVar 8) (mVar 6)) (mTT (mTCons (mTN 3) (mTCons (mTN 15) mTNil))) mTrue e_law_2)) mNil)))) (mRet (mC (.bl false)))
  mSkip) ρ
def s_law_4 (ρ : DL.Env) : DL.Res Fl := (mSet 10 (mLcD (mComp [13] (mRng1 (mC (.int 9))) (mTN 13) mTrue e_law_3))) ρ
def s_law_5 (ρ : DL.Env) : DL.Res Fl := (mIf (mOrT (mTest (m2 dNe (mLcD (mComp [13] (mRng1 (mC (.int 9))) (mTN 13) mTrue e_law_4)) (mVar 10))) (mOrT (mTest (m2 dNe (mLcD (mComp [13] (mRng1 (mC (.int 9))) (mTN 13) mTrue e_law_5)) (mLcD (mComp [13] (mRng1 (mC (.int 9))) (mTN 13) mTrue e_law_6)))) (mTest (m2 dIn (mTup mNil) (mVar 10))))) (mRet (mC (.bl false)))
  mSkip) ρ
def s_law_6 (ρ : DL.Env) : DL.Res Fl := (mSet 11 (mLcD (mComp [13, 15] (mEnumX (mSl (mVar 10) none (some (mVar 7)))) (mTT (mTCons (mTN 13) (mTCons (mTN 15) mTNil))) t_law_1 e_law_7))) ρ
def s_law_7 (ρ : DL.Env) : DL.Res Fl := (mSet 12 (mCall F_judge_chain (mACons (mC (.str "ann")) (mACons (mVar 8) (mACons (mVar 7) mANil))))) ρ
def s_law_8 (ρ : DL.Env) : DL.Res Fl := (mIf (mOrT (mTest (m2 dNe (mCa (fBoolO bs) (mCons (mVar 12) mNil)) (m2 dEq (mVar 11) (mLst mNil)))) (mOrT (mTest (m2 (dNeO gs_eq) (mVar 12) (mIfE (mTest (m2 dEq (mVar 11) (mLst mNil))) (mNew 1 F_Even_init (mACons (mLcD (mComp [15] (mItLT (mSl (mVar 10) none (some (mVar 7)))) (mTN 15) mTrue e_law_8)) mANil)) (mNew 2 F_Uneven_init (mACons (m2 dIx (m2 dIx (mVar 11) (mC (.int 0))) (mC (.int 0))) (mACons (m2 dIx (m2 dIx (mVar 11) (mC (.int 0))) (mC (.int 1))) mANil)))))) (mOrT (mNotT (mTru (mMeth gs_shows (mVar 12) (mACons (mC (.str "ann")) (mACons (mVar 8) (mACons (mVar 7) mANil)))))) (mOrT (mTru (mMeth gs_shows (mNew 1 F_Even_init (mACons (mC .non) mANil)) (mACons (mC (.str "ann")) (mACons (mVar 8) (mACons (mVar 7) mANil))))) (mTru (mMeth gs_shows (mNew 2 F_Uneven_init (mACons (mC .non) (mACons (mTup (mCons (mC (.str "ann")) mNil)) mANil))) (mACons (mC (.str "ann")) (mACons (mVar 8) (mACons (mVar 7) mANil))))))))) (mRet (mC (.bl false)))
  mSkip) ρ
def s_law_9 (ρ : DL.Env) : DL.Res Fl := (mFor (mRng1 (mC (.int 9))) (mTN 13) b_law_1) ρ
def s_law_10 (ρ : DL.Env) : DL.Res Fl := (mIf (mTest (m2 dNe (mCa (fBoolO bs) (mCons (mCall F_judge_chain (mACons (mC (.str "ann")) (mACons (mVar 8) (mACons (mC (.int 9)) mANil)))) mNil)) (mCa fAll (mCons (mLcD (mComp [18, 14] (mZipX (mVar 6) (mSl (mVar 6) (some (mC (.int 1))) none)) (mTT (mTCons (mTN 18) (mTCons (mTN 14) mTNil))) mTrue e_law_9)) mNil)))) (mRet (mC (.bl false)))
  mSkip) ρ
def s_law_11 (ρ : DL.Env) : DL.Res Fl := (mIf (mTru (mCa fAny (mCons (mLcD (mComp [17] (mItLT (mVar 9)) (mTN 17) mTrue e_law_10)) mNil))) (mRet (mC (.bl false)))
  mSkip) ρ
def s_law_12 (ρ : DL.Env) : DL.Res Fl := (mSet 14 (mLcD (mComp [16, 15] (mEnumX (mVar 6)) (mTT (mTCons (mTN 16) (mTCons (mTN 15) mTNil))) mTrue e_law_13))) ρ
def s_law_13 (ρ : DL.Env) : DL.Res Fl := (mIf (mOrT (mTest (m2 (dNeLO gs_eq) (mCa fLst (mCons (mCall F_mended (mACons (mC (.str "ann")) (mACons (mVar 8) mANil))) mNil)) (mCall F_law_sales (mACons (mVar 14) mANil)))) (mNotT (mTruO bs (mCall F_judge_chain (mACons (mC (.str "ann")) (mACons (mCall F_mended (mACons (mC (.str "ann")) (mACons (mVar 8) mANil))) (mACons (mC (.int 9)) mANil))))))) (mRet (mC (.bl false)))
  mSkip) ρ
def b_law_2 (ρ : DL.Env) : DL.Res Fl := (mSeq s_law_1
  (mSeq s_law_2
  (mSeq s_law_3
  (mSeq s_law_4
  (mSeq s_law_5
  (mSeq s_law_6
  (mSeq s_law_7
  (mSeq s_law_8
  (mSeq s_law_9
  (mSeq s_law_10
  (mSeq s_law_11
  (mSeq s_law_12
  s_law_13)))))))))))) ρ
def m_law1 : M Fl := (mSetO 1 (oLst (mCons (mVar 0) (mCons (mC (.int 0)) mNil))))
def m_law2 : M Fl := (mFor (mRng1 (mC (.int 8))) (mTN 2) b_law_2)
def m_law3 : M Fl := (mSet 3 (mNew 0 F_Sale_init (mACons (mC (.str "bob")) (mACons (mC (.int 1)) (mACons (mC (.int 1)) (mACons (mC (.int 1)) mANil))))))
theorem sc_law : FnScope ["script", "draw", "turn", "sale", "deed", "what", "rows", "legs", "sales", "hands", "risks", "bad", "found", "leg", "late", "row", "at", "hand", "one", "fault"] ["script"] (defScope (top 31)) := ⟨rfl, rfl, rfl, by decide +kernel, rfl, by decide +kernel, by decide +kernel⟩
def lawSt (i : Nat) : Stmt := (defBody (top 31)).getD i (.Pass ⟨0, 0, 0, 0⟩)
def lams : List LamP := lamsS (lawSt 3)
def lamAt (i : Nat) : LamP := lams.getD i ⟨⟨[], [], none, [], [], none, []⟩, .Name "" ⟨0, 0, 0, 0⟩, ⟨.function, [], false, false, []⟩, ⟨0, 0, 0, 0⟩, [], 0, ⟨0, 0, 0, 0⟩, 0, ⟨0, 0, 0, 0⟩⟩
def lm_0 : M D := (mNew 0 X_Sale_init (mACons (mC (.str "B")) (mACons (mC (.int 1)) (mACons (mC (.int 1)) (mACons (mC (.int 1)) mANil)))))
def lm_1 : M D := (mNew 0 X_Sale_init (mACons (mC (.str "b")) (mACons (mC (.int 10000)) (mACons (mC (.int 1)) (mACons (mC (.int 1)) mANil)))))
def lm_2 : M D := (mNew 0 X_Sale_init (mACons (mC (.str "b")) (mACons (mC (.int 1)) (mACons (mC (.int 10)) (mACons (mC (.int 1)) mANil)))))
def lm_3 : M D := (mNew 0 X_Sale_init (mACons (mC (.str "b")) (mACons (mC (.int 1)) (mACons (mC (.int 1)) (mACons (m1 dNeg (mC (.int 1))) mANil)))))
def lm_4 : M D := (mCall X_judge_chain (mACons (mC (.str "A")) (mACons (mLst mNil) (mACons (mC (.int 1)) mANil))))
def lm_5 : M D := (mCall X_judge_chain (mACons (mC (.str "ann")) (mACons (mC (.int 3)) (mACons (mC (.int 1)) mANil))))
def lm_6 : M D := (mCall X_judge_chain (mACons (mC (.str "ann")) (mACons (mLst (mCons (mVar 3) (mCons (mVar 3) mNil))) (mACons (mC (.int 1)) mANil))))
def lm_7 : M D := (mCall X_judge_chain (mACons (mC (.str "bob")) (mACons (mLst (mCons (mVar 3) mNil)) (mACons (mC (.int 1)) mANil))))
def lm_8 : M D := (mCall X_judge_chain (mACons (mC (.str "ann")) (mACons (mLst mNil) (mACons (mC (.int 10)) mANil))))
def lm_9 : M D := (mCall X_bearers (mACons (mC (.str "ann")) (mACons (mLst mNil) (mACons (mC (.int 9)) mANil))))
def lm_10 : M D := (mCall X_legs_of (mACons (mC (.str "ann")) (mACons (mLst (mCons (mVar 3) mNil)) (mACons (mC (.int 3)) (mACons (mC (.str "zed")) mANil)))))
def lamL : List LamM := [(lamAt 0, .tup [.str "buyer", .non], lm_0), (lamAt 1, .tup [.str "price", .non], lm_1), (lamAt 2, .tup [.str "risk", .non], lm_2), (lamAt 3, .tup [.str "freight", .non], lm_3), (lamAt 4, .tup [.str "maker", .non], lm_4), (lamAt 5, .tup [.str "sales", .non], lm_5), (lamAt 6, .tup [.str "sales", .int 1], lm_6), (lamAt 7, .tup [.str "sales", .int 0], lm_7), (lamAt 8, .tup [.str "legs", .non], lm_8), (lamAt 9, .tup [.str "leg", .non], lm_9), (lamAt 10, .tup [.str "hand", .non], lm_10)]
def lawEnv : DL.Env := envOf (m_law3 (List.replicate 20 none))
theorem tail_ok {P0 : Addr} : ∀ (σ : L2.St) (H : Hp) (Dn : Ends), σ.length = 20 → H P0 = some (.tbl #[]) → (∀ H', Dn.rt (.bl true) H') → (tSeq (tS K DL.E0 m_law3) (tSeq (tFaults K P0 3 4 5 19 lamL) (tRet (tC (.bl true))))) Dn σ H := by
  intro σ H Dn hl hP hR
  have r0 : TRel K P0 (List.replicate 20 none) σ H := TRel.none 20 hl (by rw [hP]; simp)
  refine ⟨tailC P0 H, (List.replicate 20 none), ⟨_, r0.rel⟩, ?_⟩
  have e1 : m_law3 (List.replicate 20 none) = .ok .nx lawEnv := by rfl
  rw [e1]
  intro σ1 H1 r1
  exact ⟨lawEnv, #[], TRel.ofS r1 (allVal_ok (by rfl)), (let ⟨_, z⟩ := r1; z.frame _ _ (fun _ z => by cases z) hP), trivial, ⟨by decide +kernel, by decide +kernel⟩, ⟨rfl, rfl, rfl, by decide, by decide, by decide⟩, List.forall_mem_cons.mpr ⟨⟨_, _, by rfl, dNe_sn _ (by decide +kernel)⟩, List.forall_mem_cons.mpr ⟨⟨_, _, by rfl, dNe_sn _ (by decide +kernel)⟩, List.forall_mem_cons.mpr ⟨⟨_, _, by rfl, dNe_sn _ (by decide +kernel)⟩, List.forall_mem_cons.mpr ⟨⟨_, _, by rfl, dNe_sn _ (by decide +kernel)⟩, List.forall_mem_cons.mpr ⟨⟨_, _, by rfl, dNe_sn _ (by decide +kernel)⟩, List.forall_mem_cons.mpr ⟨⟨_, _, by rfl, dNe_sn _ (by decide +kernel)⟩, List.forall_mem_cons.mpr ⟨⟨_, _, by rfl, dNe_si _ _ (by decide +kernel)⟩, List.forall_mem_cons.mpr ⟨⟨_, _, by rfl, dNe_si _ _ (by decide +kernel)⟩, List.forall_mem_cons.mpr ⟨⟨_, _, by rfl, dNe_sn _ (by decide +kernel)⟩, List.forall_mem_cons.mpr ⟨⟨_, _, by rfl, dNe_sn _ (by decide +kernel)⟩, List.forall_mem_cons.mpr ⟨⟨_, _, by rfl, dNe_sn _ (by decide +kernel)⟩, fun _ z => by cases z⟩⟩⟩⟩⟩⟩⟩⟩⟩⟩⟩, fun _ H' _ _ _ => hR H'⟩
theorem k_law {f c P0 : Addr} {fd : FuncData} (b : B K mg) (cf : CFacts K 3) (hbs : ∀ q ∈ bs, Booler P w K mg base CX0 1 q.1 q.2) (h_law_chain : Callee P w K mg base CX0 3 "_law_chain" 1 F_law_chain) (h_law_sales : Callee P w K mg base CX0 6 "_law_sales" 1 F_law_sales) (h_law_take : Callee P w K mg base CX0 2 "_law_take" 2 F_law_take) (h_law_those : Callee P w K mg base CX0 1 "_law_those" 3 F_law_those) (h_bearers : Callee P w K mg base CX0 6 "bearers" 3 F_bearers) (h_hands_of : Callee P w K mg base CX0 5 "hands_of" 2 F_hands_of) (h_judge_chain : Callee P w K mg base CX0 7 "judge_chain" 3 F_judge_chain) (h_legs_of : Callee P w K mg base CX0 7 "legs_of" 4 F_legs_of) (h_mended : Callee P w K mg base CX0 6 "mended" 2 F_mended) (h_payers : Callee P w K mg base CX0 6 "payers" 3 F_payers) (t_BadPart : Catch K mg 3 "part" "place") (he_eq : ∀ q ∈ gs_eq, Eqer P w K mg base CX0 1 q.1 q.2) (hn_eq : ∀ q ∈ gs_eq, ∀ q' ∈ gs_eq, PySem.W.notFirst K (He.ga K (cN q.1)) (.ref (He.ga K (cN q'.1))) = true) (hm_shows : ∀ q ∈ gs_shows, Method P w K mg base CX0 8 "shows" 3 q.1 q.2) (h_Even_init : Maker P w K mg base CX0 2 "Even" 1 1 F_Even_init) (h_Sale_init : Maker P w K mg base CX0 4 "Sale" 4 0 F_Sale_init) (h_Uneven_init : Maker P w K mg base CX0 2 "Uneven" 2 2 F_Uneven_init) (x_bearers : Callee P w K mg base (L2.CX P w) 6 "bearers" 3 X_bearers) (x_judge_chain : Callee P w K mg base (L2.CX P w) 7 "judge_chain" 3 X_judge_chain) (x_legs_of : Callee P w K mg base (L2.CX P w) 7 "legs_of" 4 X_legs_of) (x_Sale_init : Maker P w K mg base (L2.CX P w) 4 "Sale" 4 0 X_Sale_init) (F : FunD K "law" "law" (defArgs (top 31)) (defBody (top 31)) (defScope (top 31)) [] [] f fd) (hcode : fd.code = .ref c) (TB : LamX.TabB base mg c P0)
    (hm : ∀ ns : List Int, ns.length ≤ 63 → ∃ ρ1 ρ2, m_law1 (startE 20 [.val (.rol (ns.map D.int))]) = .ok .nx ρ1 ∧ m_law2 ρ1 = .ok .nx ρ2 ∧ ρ2.length = 20) : FnOk P w K mg base CX0 10 f fd ["script"] (spLaw K P0) := by
  have hN : List.Nodup (α := Str) ["script", "draw", "turn", "sale", "deed", "what", "rows", "legs", "sales", "hands", "risks", "bad", "found", "leg", "late", "row", "at", "hand", "one", "fault"] := sc_law.nd
  have F2 : FunD K "law" "law" (defArgs (top 31)) [lawSt 0, lawSt 1, lawSt 2, lawSt 3, lawSt 4] (defScope (top 31)) [] [] f fd := F
  refine law_ok (N := ["script", "draw", "turn", "sale", "deed", "what", "rows", "legs", "sales", "hands", "risks", "bad", "found", "leg", "late", "row", "at", "hand", "one", "fault"]) (P0 := P0) F2 hcode sc_law (m1 := m_law1) (m2 := m_law2) (fun A outer s H E hr => ?_) (fun A outer s H E hr => ?_) (fun A outer s H E hr => ?_) hm (tail_ok (K := K))
  · exact (s_setO 1 hN (o_list (da_cons (d_var 0) (da_cons d_int da_nil))))
  · show PS _ (.For _ _ _ _ _) (tS K DL.E0 (mFor _ _ _)); exact (s_for PassesOwn.never rfl (i_rng1 d_int b.range) (g_name 2 hN) (s_cons (s_asg (d_tuple (da_cons (d_call h_law_chain hr p0 (as_slot 1 as_nil)) (da_cons (d_add d_int (d_call h_law_take hr p0 (as_slot 1 (as_cons d_int as_nil)))) da_nil))) (g_tup rfl (gs_cons (g_name 6 hN) (gs_cons (g_name 7 hN) gs_nil))))
  (s_cons (s_asg (d_tuple (da_cons (d_call h_law_sales hr p0 (as_cons (d_var 6) as_nil)) (da_cons (d_add (d_list (da_cons d_str da_nil)) (d_lc [("row", 15)] rfl hN (blkOk_by (N := ["script", "draw", "turn", "sale", "deed", "what", "rows", "legs", "sales", "hands", "risks", "bad", "found", "leg", "late", "row", "at", "hand", "one", "fault"]) (sc := defScope (top 31)) (by decide +kernel)) (by decide) (i_seq (d_var 6)) (fun _ _ _ _ _ => (g_name 15 hN)) (fun _ _ _ _ _ => ts_nil) (fun _ _ _ _ _ => (d_item (d_var 15) d_int)))) da_nil))) (g_tup rfl (gs_cons (g_name 8 hN) (gs_cons (g_name 9 hN) gs_nil))))
  (s_cons (s_if (dw_or (dt_cmp1 (c_ne hr) (d_callTy call_list_of ca_lst b.t_list bt_list (da_cons (d_call h_hands_of hr p0 (as_cons d_str (as_cons (d_var 8) as_nil))) da_nil)) (d_var 9)) (dw_or1 (dt_tru (d_callB (cr_any rfl) ca_any b.any bt_any (da_cons (d_lc [("sale", 3), ("row", 15)] rfl hN (blkOk_by (N := ["script", "draw", "turn", "sale", "deed", "what", "rows", "legs", "sales", "hands", "risks", "bad", "found", "leg", "late", "row", "at", "hand", "one", "fault"]) (sc := defScope (top 31)) (by decide +kernel)) (by decide) (i_zipX (d_var 8) (d_var 6) b.zip) (fun _ _ _ _ _ => (g_tup rfl (gs_cons (g_name 3 hN) (gs_cons (g_name 15 hN) gs_nil)))) (fun _ _ _ _ _ => ts_nil) (fun _ _ _ _ _ => (d_or (d_cmp1 (c_ne hr) (d_tuple (da_cons (d_fld cf [(0, 0)] (d_var 3)) (da_cons (d_fld cf [(0, 1)] (d_var 3)) (da_cons (d_fld cf [(0, 2)] (d_var 3)) (da_cons (d_fld cf [(0, 3)] (d_var 3)) da_nil))))) (d_var 15)) (d_one (d_cmp1 (c_neO he_eq hn_eq hr) (d_var 3) (d_new h_Sale_init hr p0 (as_cons (d_item (d_var 15) d_int) (as_cons (d_item (d_var 15) d_int) (as_cons (d_item (d_var 15) d_int) (as_cons (d_item (d_var 15) d_int) as_nil)))))))))) da_nil))))).pt (s_one (s_ret d_bl))
  s_nil)
  (s_cons (s_set 10 hN (d_lc [("leg", 13)] rfl hN (blkOk_by (N := ["script", "draw", "turn", "sale", "deed", "what", "rows", "legs", "sales", "hands", "risks", "bad", "found", "leg", "late", "row", "at", "hand", "one", "fault"]) (sc := defScope (top 31)) (by decide +kernel)) (by decide) (i_rng1 d_int b.range) (fun _ _ _ _ _ => (g_name 13 hN)) (fun _ _ _ _ _ => ts_nil) (fun _ _ _ _ _ => (d_call h_law_those hr p0 (as_cons (d_var 6) (as_cons d_int (as_cons (d_var 13) as_nil)))))))
  (s_cons (s_if (dw_or (dt_cmp1 (c_ne hr) (d_lc [("leg", 13)] rfl hN (blkOk_by (N := ["script", "draw", "turn", "sale", "deed", "what", "rows", "legs", "sales", "hands", "risks", "bad", "found", "leg", "late", "row", "at", "hand", "one", "fault"]) (sc := defScope (top 31)) (by decide +kernel)) (by decide) (i_rng1 d_int b.range) (fun _ _ _ _ _ => (g_name 13 hN)) (fun _ _ _ _ _ => ts_nil) (fun _ _ _ _ _ => (d_callTy call_tuple_of ca_tup b.t_tuple bt_tuple (da_cons (d_call h_bearers hr p0 (as_cons d_str (as_cons (d_var 8) (as_cons (d_var 13) as_nil)))) da_nil)))) (d_var 10)) (dw_or (dt_cmp1 (c_ne hr) (d_lc [("leg", 13)] rfl hN (blkOk_by (N := ["script", "draw", "turn", "sale", "deed", "what", "rows", "legs", "sales", "hands", "risks", "bad", "found", "leg", "late", "row", "at", "hand", "one", "fault"]) (sc := defScope (top 31)) (by decide +kernel)) (by decide) (i_rng1 d_int b.range) (fun _ _ _ _ _ => (g_name 13 hN)) (fun _ _ _ _ _ => ts_nil) (fun _ _ _ _ _ => (d_callTy call_tuple_of ca_tup b.t_tuple bt_tuple (da_cons (d_call h_payers hr p0 (as_cons d_str (as_cons (d_var 8) (as_cons (d_var 13) as_nil)))) da_nil)))) (d_lc [("leg", 13)] rfl hN (blkOk_by (N := ["script", "draw", "turn", "sale", "deed", "what", "rows", "legs", "sales", "hands", "risks", "bad", "found", "leg", "late", "row", "at", "hand", "one", "fault"]) (sc := defScope (top 31)) (by decide +kernel)) (by decide) (i_rng1 d_int b.range) (fun _ _ _ _ _ => (g_name 13 hN)) (fun _ _ _ _ _ => ts_nil) (fun _ _ _ _ _ => (d_call h_law_those hr p0 (as_cons (d_var 6) (as_cons d_int (as_cons (d_var 13) as_nil))))))) (dw_or1 (dt_cmp1 (c_in hr) (d_tuple da_nil) (d_var 10))))).pt (s_one (s_ret d_bl))
  s_nil)
  (s_cons (s_setLc 11 [("leg", 13), ("row", 15)] rfl hN (blkOk_by (N := ["script", "draw", "turn", "sale", "deed", "what", "rows", "legs", "sales", "hands", "risks", "bad", "found", "leg", "late", "row", "at", "hand", "one", "fault"]) (sc := defScope (top 31)) (by decide +kernel)) (by decide) (i_enumX (d_slice (d_var 10) do_none (do_some (d_var 7))) b.enumerate) (fun _ _ _ _ _ => (g_tup rfl (gs_cons (g_name 13 hN) (gs_cons (g_name 15 hN) gs_nil)))) (fun _ _ _ _ _ => (ts_one (dt_cmp1 c_gt (d_callB call_lenA ca_len b.len bt_len (da_cons (d_var 15) da_nil)) d_int))) (fun _ _ _ _ _ => (d_tuple (da_cons (d_var 13) (da_cons (d_var 15) da_nil)))))
  (s_cons (s_set 12 hN (d_call h_judge_chain hr p0 (as_cons d_str (as_cons (d_var 8) (as_cons (d_var 7) as_nil)))))
  (s_cons (s_if (dw_or (dt_cmp1 (c_ne hr) (d_callTy ((call_boolOs (bs := bs) (k := 1) hbs p0 (hr.mono (by decide))).or call_bool1) (ca_boolO (E := DL.E0)) b.t_bool bt_bool (da_cons (d_var 12) da_nil)) (d_cmp1 (c_eq hr) (d_var 11) (d_list da_nil))) (dw_or (dt_cmp1 (c_neO he_eq hn_eq hr) (d_var 12) (d_ifexp (dt_cmp1 (c_eq hr) (d_var 11) (d_list da_nil)) (d_new h_Even_init hr p0 (as_cons (d_lc [("row", 15)] rfl hN (blkOk_by (N := ["script", "draw", "turn", "sale", "deed", "what", "rows", "legs", "sales", "hands", "risks", "bad", "found", "leg", "late", "row", "at", "hand", "one", "fault"]) (sc := defScope (top 31)) (by decide +kernel)) (by decide) (i_seq (d_slice (d_var 10) do_none (do_some (d_var 7)))) (fun _ _ _ _ _ => (g_name 15 hN)) (fun _ _ _ _ _ => ts_nil) (fun _ _ _ _ _ => (d_item (d_var 15) d_int))) as_nil)) (d_new h_Uneven_init hr p0 (as_cons (d_item (d_item (d_var 11) d_int) d_int) (as_cons (d_item (d_item (d_var 11) d_int) d_int) as_nil))))) (dw_or (dt_not (dt_tru (d_meth gs_shows hm_shows hr p0 (d_var 12) (as_cons d_str (as_cons (d_var 8) (as_cons (d_var 7) as_nil)))))) (dw_or (dt_tru (d_meth gs_shows hm_shows hr p0 (d_new h_Even_init hr p0 (as_cons d_non as_nil)) (as_cons d_str (as_cons (d_var 8) (as_cons (d_var 7) as_nil))))) (dw_or1 (dt_tru (d_meth gs_shows hm_shows hr p0 (d_new h_Uneven_init hr p0 (as_cons d_non (as_cons (d_tuple (da_cons d_str da_nil)) as_nil))) (as_cons d_str (as_cons (d_var 8) (as_cons (d_var 7) as_nil)))))))))).pt (s_one (s_ret d_bl))
  s_nil)
  (s_cons (s_for PassesOwn.never rfl (i_rng1 d_int b.range) (g_name 13 hN) (s_one (s_if (dw_or (dt_cmp1 (c_ne hr) (d_meth gs_shows hm_shows hr p0 (d_new h_Uneven_init hr p0 (as_cons (d_var 13) (as_cons (d_item (d_var 10) (d_var 13)) as_nil))) (as_cons d_str (as_cons (d_var 8) (as_cons (d_var 7) as_nil)))) (d_cmp1 (c_in hr) (d_tuple (da_cons (d_var 13) (da_cons (d_item (d_var 10) (d_var 13)) da_nil))) (d_var 11))) (dw_or1 (dt_tru (d_meth gs_shows hm_shows hr p0 (d_new h_Uneven_init hr p0 (as_cons (d_var 13) (as_cons (d_tuple (da_cons d_str (da_cons d_str da_nil))) as_nil))) (as_cons d_str (as_cons (d_var 8) (as_cons (d_var 7) as_nil))))))).pt (s_one (s_ret d_bl))
  s_nil)))
  (s_cons (s_if (dt_cmp1 (c_ne hr) (d_callTy ((call_boolOs (bs := bs) (k := 1) hbs p0 (hr.mono (by decide))).or call_bool1) (ca_boolO (E := DL.E0)) b.t_bool bt_bool (da_cons (d_call h_judge_chain hr p0 (as_cons d_str (as_cons (d_var 8) (as_cons d_int as_nil)))) da_nil)) (d_callB (cr_all rfl) ca_all b.all bt_all (da_cons (d_lc [("one", 18), ("late", 14)] rfl hN (blkOk_by (N := ["script", "draw", "turn", "sale", "deed", "what", "rows", "legs", "sales", "hands", "risks", "bad", "found", "leg", "late", "row", "at", "hand", "one", "fault"]) (sc := defScope (top 31)) (by decide +kernel)) (by decide) (i_zipX (d_var 6) (d_slice (d_var 6) (do_some d_int) do_none) b.zip) (fun _ _ _ _ _ => (g_tup rfl (gs_cons (g_name 18 hN) (gs_cons (g_name 14 hN) gs_nil)))) (fun _ _ _ _ _ => ts_nil) (fun _ _ _ _ _ => (d_cmp1 c_le (d_item (d_var 18) d_int) (d_item (d_var 14) d_int)))) da_nil))) (s_one (s_ret d_bl))
  s_nil)
  (s_cons (s_if (dt_tru (d_callB (cr_any rfl) ca_any b.any bt_any (da_cons (d_lc [("hand", 17)] rfl hN (blkOk_by (N := ["script", "draw", "turn", "sale", "deed", "what", "rows", "legs", "sales", "hands", "risks", "bad", "found", "leg", "late", "row", "at", "hand", "one", "fault"]) (sc := defScope (top 31)) (by decide +kernel)) (by decide) (i_seq (d_var 9)) (fun _ _ _ _ _ => (g_name 17 hN)) (fun _ _ _ _ _ => ts_nil) (fun _ _ _ _ _ => (d_cmp1 (c_ne hr) (d_callTy call_tuple_of ca_tup b.t_tuple bt_tuple (da_cons (d_call h_legs_of hr p0 (as_cons d_str (as_cons (d_var 8) (as_cons (d_var 7) (as_cons (d_var 17) as_nil))))) da_nil)) (d_callTy call_tuple_of ca_tup b.t_tuple bt_tuple (da_cons (d_lc [("leg", 13)] rfl hN (blkOk_by (by kernel_rfl)) (by decide) (i_rng1 (d_var 7) b.range) (fun _ _ _ _ _ => (g_name 13 hN)) (fun _ _ _ _ _ => (ts_one (dt_cmp1 (c_in hr) (d_var 17) (d_item (d_var 10) (d_var 13))))) (fun _ _ _ _ _ => (d_var 13))) da_nil))))) da_nil))) (s_one (s_ret d_bl))
  s_nil)
  (s_cons (s_setLc 14 [("at", 16), ("row", 15)] rfl hN (blkOk_by (N := ["script", "draw", "turn", "sale", "deed", "what", "rows", "legs", "sales", "hands", "risks", "bad", "found", "leg", "late", "row", "at", "hand", "one", "fault"]) (sc := defScope (top 31)) (by decide +kernel)) (by decide) (i_enumX (d_var 6) b.enumerate) (fun _ _ _ _ _ => (g_tup rfl (gs_cons (g_name 16 hN) (gs_cons (g_name 15 hN) gs_nil)))) (fun _ _ _ _ _ => ts_nil) (fun _ _ _ _ _ => (d_tuple (da_cons (d_item (d_var 15) d_int) (da_cons (d_item (d_var 15) d_int) (da_cons (d_callB (call_maxA rfl) ca_max b.max bt_max (da_cons (d_lc [("one", 18)] rfl hN (blkOk_by (by kernel_rfl)) (by decide) (i_seq (d_slice (d_var 6) do_none (do_some (d_add (d_var 16) d_int)))) (fun _ _ _ _ _ => (g_name 18 hN)) (fun _ _ _ _ _ => ts_nil) (fun _ _ _ _ _ => (d_item (d_var 18) d_int))) da_nil)) (da_cons (d_callB (call_maxA rfl) ca_max b.max bt_max (da_cons (d_lc [("one", 18)] rfl hN (blkOk_by (by kernel_rfl)) (by decide) (i_seq (d_slice (d_var 6) do_none (do_some (d_add (d_var 16) d_int)))) (fun _ _ _ _ _ => (g_name 18 hN)) (fun _ _ _ _ _ => ts_nil) (fun _ _ _ _ _ => (d_item (d_var 18) d_int))) da_nil)) da_nil)))))))
  (s_one (s_if (dw_or (dt_cmp1 (c_neLO he_eq hn_eq hr) (d_callTy call_list_of ca_lst b.t_list bt_list (da_cons (d_call h_mended hr p0 (as_cons d_str (as_cons (d_var 8) as_nil))) da_nil)) (d_call h_law_sales hr p0 (as_cons (d_var 14) as_nil))) (dw_or1 (dt_not (dt_truO bs hbs p0 hr (d_call h_judge_chain hr p0 (as_cons d_str (as_cons (d_call h_mended hr p0 (as_cons d_str (as_cons (d_var 8) as_nil))) (as_cons d_int as_nil)))))))).pt (s_one (s_ret d_bl))
  s_nil)))))))))))))))
  · exact (pss_cons (s_set 3 hN (d_new h_Sale_init hr p0 (as_cons d_str (as_cons d_int (as_cons d_int (as_cons d_int as_nil)))))) (pss_cons (ps_faults (k := 8) (L := lamL) (i1 := 4) (i2 := 5) (i3 := 19) rfl rfl rfl PassesOwn.never LamX.takes0 TB rfl t_BadPart rfl (hr.mono (by decide)) hN rfl rfl rfl rfl rfl rfl rfl (List.forall_mem_cons.mpr ⟨⟨LamX.lamS_by (show LamX.lamSB (defScope (top 31)) (lamAt 0).scope = true by decide +kernel), rfl⟩, List.forall_mem_cons.mpr ⟨⟨LamX.lamS_by (show LamX.lamSB (defScope (top 31)) (lamAt 1).scope = true by decide +kernel), rfl⟩, List.forall_mem_cons.mpr ⟨⟨LamX.lamS_by (show LamX.lamSB (defScope (top 31)) (lamAt 2).scope = true by decide +kernel), rfl⟩, List.forall_mem_cons.mpr ⟨⟨LamX.lamS_by (show LamX.lamSB (defScope (top 31)) (lamAt 3).scope = true by decide +kernel), rfl⟩, List.forall_mem_cons.mpr ⟨⟨LamX.lamS_by (show LamX.lamSB (defScope (top 31)) (lamAt 4).scope = true by decide +kernel), rfl⟩, List.forall_mem_cons.mpr ⟨⟨LamX.lamS_by (show LamX.lamSB (defScope (top 31)) (lamAt 5).scope = true by decide +kernel), rfl⟩, List.forall_mem_cons.mpr ⟨⟨LamX.lamS_by (show LamX.lamSB (defScope (top 31)) (lamAt 6).scope = true by decide +kernel), rfl⟩, List.forall_mem_cons.mpr ⟨⟨LamX.lamS_by (show LamX.lamSB (defScope (top 31)) (lamAt 7).scope = true by decide +kernel), rfl⟩, List.forall_mem_cons.mpr ⟨⟨LamX.lamS_by (show LamX.lamSB (defScope (top 31)) (lamAt 8).scope = true by decide +kernel), rfl⟩, List.forall_mem_cons.mpr ⟨⟨LamX.lamS_by (show LamX.lamSB (defScope (top 31)) (lamAt 9).scope = true by decide +kernel), rfl⟩, List.forall_mem_cons.mpr ⟨⟨LamX.lamS_by (show LamX.lamSB (defScope (top 31)) (lamAt 10).scope = true by decide +kernel), rfl⟩, fun _ z => by cases z⟩⟩⟩⟩⟩⟩⟩⟩⟩⟩⟩) (List.forall_mem_cons.mpr ⟨fun _ _ _ => rfl, List.forall_mem_cons.mpr ⟨fun _ _ _ => rfl, List.forall_mem_cons.mpr ⟨fun _ _ _ => rfl, List.forall_mem_cons.mpr ⟨fun _ _ _ => rfl, List.forall_mem_cons.mpr ⟨fun _ _ _ => rfl, List.forall_mem_cons.mpr ⟨fun _ _ _ => rfl, List.forall_mem_cons.mpr ⟨fun _ _ _ => rfl, List.forall_mem_cons.mpr ⟨fun _ _ _ => rfl, List.forall_mem_cons.mpr ⟨fun _ _ _ => rfl, List.forall_mem_cons.mpr ⟨fun _ _ _ => rfl, List.forall_mem_cons.mpr ⟨fun _ _ _ => rfl, fun _ z => by cases z⟩⟩⟩⟩⟩⟩⟩⟩⟩⟩⟩) (List.forall_mem_cons.mpr ⟨PE.as (d_tuple (da_cons d_str (da_cons d_non da_nil))) (by rfl), List.forall_mem_cons.mpr ⟨PE.as (d_tuple (da_cons d_str (da_cons d_non da_nil))) (by rfl), List.forall_mem_cons.mpr ⟨PE.as (d_tuple (da_cons d_str (da_cons d_non da_nil))) (by rfl), List.forall_mem_cons.mpr ⟨PE.as (d_tuple (da_cons d_str (da_cons d_non da_nil))) (by rfl), List.forall_mem_cons.mpr ⟨PE.as (d_tuple (da_cons d_str (da_cons d_non da_nil))) (by rfl), List.forall_mem_cons.mpr ⟨PE.as (d_tuple (da_cons d_str (da_cons d_non da_nil))) (by rfl), List.forall_mem_cons.mpr ⟨PE.as (d_tuple (da_cons d_str (da_cons d_int da_nil))) (by rfl), List.forall_mem_cons.mpr ⟨PE.as (d_tuple (da_cons d_str (da_cons d_int da_nil))) (by rfl), List.forall_mem_cons.mpr ⟨PE.as (d_tuple (da_cons d_str (da_cons d_non da_nil))) (by rfl), List.forall_mem_cons.mpr ⟨PE.as (d_tuple (da_cons d_str (da_cons d_non da_nil))) (by rfl), List.forall_mem_cons.mpr ⟨PE.as (d_tuple (da_cons d_str (da_cons d_non da_nil))) (by rfl), fun _ z => by cases z⟩⟩⟩⟩⟩⟩⟩⟩⟩⟩⟩) (List.forall_mem_cons.mpr ⟨fun A outer s H E f c hr => (d_new x_Sale_init hr pL (as_cons d_str (as_cons d_int (as_cons d_int (as_cons d_int as_nil))))), List.forall_mem_cons.mpr ⟨fun A outer s H E f c hr => (d_new x_Sale_init hr pL (as_cons d_str (as_cons d_int (as_cons d_int (as_cons d_int as_nil))))), List.forall_mem_cons.mpr ⟨fun A outer s H E f c hr => (d_new x_Sale_init hr pL (as_cons d_str (as_cons d_int (as_cons d_int (as_cons d_int as_nil))))), List.forall_mem_cons.mpr ⟨fun A outer s H E f c hr => (d_new x_Sale_init hr pL (as_cons d_str (as_cons d_int (as_cons d_int (as_cons (d_neg d_int) as_nil))))), List.forall_mem_cons.mpr ⟨fun A outer s H E f c hr => (d_call x_judge_chain hr pL (as_cons d_str (as_cons (d_list da_nil) (as_cons d_int as_nil)))), List.forall_mem_cons.mpr ⟨fun A outer s H E f c hr => (d_call x_judge_chain hr pL (as_cons d_str (as_cons d_int (as_cons d_int as_nil)))), List.forall_mem_cons.mpr ⟨fun A outer s H E f c hr => (d_call x_judge_chain hr pL (as_cons d_str (as_cons (d_list (da_cons (d_var 3) (da_cons (d_var 3) da_nil))) (as_cons d_int as_nil)))), List.forall_mem_cons.mpr ⟨fun A outer s H E f c hr => (d_call x_judge_chain hr pL (as_cons d_str (as_cons (d_list (da_cons (d_var 3) da_nil)) (as_cons d_int as_nil)))), List.forall_mem_cons.mpr ⟨fun A outer s H E f c hr => (d_call x_judge_chain hr pL (as_cons d_str (as_cons (d_list da_nil) (as_cons d_int as_nil)))), List.forall_mem_cons.mpr ⟨fun A outer s H E f c hr => (d_call x_bearers hr pL (as_cons d_str (as_cons (d_list da_nil) (as_cons d_int as_nil)))), List.forall_mem_cons.mpr ⟨fun A outer s H E f c hr => (d_call x_legs_of hr pL (as_cons d_str (as_cons (d_list (da_cons (d_var 3) da_nil)) (as_cons d_int (as_cons d_str as_nil))))), fun _ z => by cases z⟩⟩⟩⟩⟩⟩⟩⟩⟩⟩⟩) (by decide +kernel) (fun _ => rfl) (by decide)) (pss_one (ps_ret pe_bl))))
theorem n_law {f : Addr} {fd : FuncData} (F : FunD K "law" "law" (defArgs (top 31)) (defBody (top 31)) (defScope (top 31)) [] [] f fd) : L2.Binds K fd ["script"] [] :=
  F.bindsN fun _ _ _ _ _ _ us hl => match us, hl with | [_], _ => rfl
end
end T43
set_option Elab.async false
set_option linter.all false
set_option maxRecDepth 100000
set_option maxHeartbeats 0
namespace T43
open PySem PySem.Spec PyProof.Rows L2 DL
theorem line2 : (2 : Nat) ≤ sizeLine := by decide
theorem ne00 : dNe (.rol []) (.lst []) = some (.bl false) := rfl
theorem ints_map_isE (ns : List Int) : eqB (.rol (ns.map D.int)) (.lst []) = some ns.isEmpty := by
  cases ns with
  | nil => rfl
  | cons n ns =>
    have h1 : ∀ ns : List Int, toPys (ns.map D.int) = some (ns.map PyData.int) := by
      intro ns
      induction ns with
      | nil => rfl
      | cons a r ih => simp [toPys, toPy, ih]
    have h2 : ∀ ns : List Int, PyData.canLayAll0 (ns.map PyData.int) = true := by
      intro ns
      induction ns with
      | nil => rfl
      | cons a r ih => simp [PyData.canLayAll0, PyData.canLay0, ih]
    have h3 : ∀ ns : List Int, PyData.depthAll (ns.map PyData.int) = 0 := by
      intro ns
      induction ns with
      | nil => rfl
      | cons a r ih => simp [PyData.depthAll, PyData.depth, ih]
    have e1 : toPy (.rol ((n :: ns).map D.int)) = some (.list ((n :: ns).map PyData.int)) := by
      simp only [toPy, h1, Option.map_some]
    have e2 : toPy (.lst []) = some (.list []) := rfl
    unfold eqB
    simp only [D.sc]
    unfold eqDeep
    rw [e1, e2]
    simp only
    have s1 : SeqAt.shaped (.list ((n :: ns).map PyData.int)) = true := by
      simp only [SeqAt.shaped, PyData.canLay0, PyData.depth, h2, h3]
      decide
    have s2 : SeqAt.shaped (.list []) = true := by decide
    rw [s1, s2]
    rfl
theorem atI_some {α : Type} (ns : List α) (i : Int) (h0 : 0 ≤ i) (h1 : i < ns.length) : ∃ c, L2.atI ns i = some c := by
  unfold L2.atI ixN
  rw [if_pos h0, if_pos h1]
  have h2 : i.toNat < ns.length := by omega
  exact ⟨ns[i.toNat], by simp [h2]⟩
theorem mul_blend (x : Int) : dMul (.int (x % 2147483647)) (.int (x % 2147483647)) = some (.int (x % 2147483647 * (x % 2147483647))) := by
  have h0 := Int.emod_nonneg x (show (2147483647 : Int) ≠ 0 by decide)
  have h1 := Int.emod_lt_of_pos x (show (0 : Int) < 2147483647 by decide)
  have h : lim64 (x % 2147483647) = true := by
    unfold lim64
    exact decide_eq_true (by omega)
  simp [dMul, h]
theorem mul_r (i : Int) {j : Int} (h : lim64 j = true) : dMul (.int i) (.int j) = some (.int (i * j)) := by simp [dMul, h]
theorem mul_l {i : Int} (j : Int) (h : lim64 i = true) : dMul (.int i) (.int j) = some (.int (i * j)) := by simp [dMul, h]
theorem m977 (i : Int) : dMul (.int 977) (.int i) = some (.int (977 * i)) := mul_l i (by decide)
theorem m40503 (i : Int) : dMul (.int 40503) (.int i) = some (.int (40503 * i)) := mul_l i (by decide)
theorem m31 (i : Int) : dMul (.int 31) (.int i) = some (.int (31 * i)) := mul_l i (by decide)
theorem m48271 (i : Int) : dMul (.int i) (.int 48271) = some (.int (i * 48271)) := mul_r i (by decide)
theorem m69621 (i : Int) : dMul (.int i) (.int 69621) = some (.int (i * 69621)) := mul_r i (by decide)
theorem lnloop {a b c d f : Option W} : ∀ (ds : List D) (r : Int) (e : Option W), ∃ (r' : Int) (e' : Option W), forGo (mTN 5) b_law_number_1 ds [a, b, c, d, some (.val (.int r)), e, f] = .ok .nx [a, b, c, d, some (.val (.int r')), e', f]
  | [], r, e => ⟨r, e, rfl⟩
  | x :: ds, r, e => by
    obtain ⟨r', e', h⟩ := lnloop (a := a) (b := b) (c := c) (d := d) (f := f) ds (r / 1009) (some (.val x))
    exact ⟨r', e', by simp [forGo, b_law_number_1, dFdiv, h]⟩
theorem lawnum (ns : List Int) (hl : ns.length ≤ 63) (i : Int) : ∃ v, F_law_number [.val (.rol (ns.map D.int)), .val (.int i)] = .ok (.int v) [] := by
  by_cases hns : ns = []
  · subst hns
    simp [F_law_number, m_law_number, ev_runF, startE, ne00, line2, dAdd, dSub, dFdiv, dMod, dPow, dLt, dGt, fInt, fLen, finE, outsE, mFor, lim62, rngD, forGo, mul_blend, m977, m40503, m31, m48271, m69621]
  · have hp : 0 < ns.length := List.length_pos_iff.mpr hns
    have hp' : (0 : Int) < (ns.length : Int) := by omega
    have hp2 : (ns.length : Int) < 1073741824 := by omega
    obtain ⟨c, hc⟩ := atI_some ns (i % (ns.length : Int)) (Int.emod_nonneg i (by omega)) (Int.emod_lt_of_pos i hp')
    have hne : dNe (.rol (ns.map D.int)) (.lst []) = some (.bl true) := by
      unfold dNe
      rw [ints_map_isE]
      cases ns with
      | nil => exact absurd rfl hns
      | cons _ _ => rfl
    have hm := Int.emod_nonneg (i / (ns.length : Int)) (show (60 : Int) ≠ 0 by decide)
    have hm2 := Int.emod_lt_of_pos (i / (ns.length : Int)) (show (0 : Int) < 60 by decide)
    have hlim : lim62 (i / (ns.length : Int) % 60) = true := by
      unfold lim62
      exact decide_eq_true (by omega)
    have hix : dIx (.rol (ns.map D.int)) (.int (i % (ns.length : Int))) = some (.int c) := by
      show (L2.atI (ns.map D.int) (i % (ns.length : Int))) = _
      rw [atI_map, hc]
      rfl
    by_cases ht : i / (ns.length : Int) < 60
    · obtain ⟨r', e', hloop⟩ := lnloop (a := some (.val (.rol (ns.map D.int)))) (b := some (.val (.int i))) (c := some (.val (.int c))) (d := some (.val (.int (i / (ns.length : Int))))) (f := none) (rngD 0 (i / (ns.length : Int) % 60).toNat) (c - 10 ^ 18) none
      have hloop' : forGo (mTN 5) b_law_number_1 (rngD 0 (i / (ns.length : Int) % 60).toNat) [some (.val (.rol (ns.map D.int))), some (.val (.int i)), some (.val (.int c)), some (.val (.int (i / (ns.length : Int)))), some (.val (.int (c - 1000000000000000000))), none, none] = _ := hloop
      by_cases hr : 0 < r'
      · simp [F_law_number, m_law_number, ev_runF, startE, hne, line2, dAdd, dSub, dFdiv, dMod, dPow, dLt, dGt, fInt, fLen, finE, outsE, mFor, hlim, hix, ht, hp, hp', hp2, hloop', hr]
      · simp [F_law_number, m_law_number, ev_runF, startE, hne, line2, dAdd, dSub, dFdiv, dMod, dPow, dLt, dGt, fInt, fLen, finE, outsE, mFor, hlim, hix, ht, hp, hp', hp2, hloop', hr, mul_blend, m977, m40503, m31, m48271, m69621]
    · obtain ⟨r', e', hloop⟩ := lnloop (a := some (.val (.rol (ns.map D.int)))) (b := some (.val (.int i))) (c := some (.val (.int c))) (d := some (.val (.int (i / (ns.length : Int))))) (f := none) (rngD 0 (i / (ns.length : Int) % 60).toNat) 0 none
      by_cases hr : 0 < r'
      · simp [F_law_number, m_law_number, ev_runF, startE, hne, line2, dAdd, dSub, dFdiv, dMod, dPow, dLt, dGt, fInt, fLen, finE, outsE, mFor, hlim, hix, ht, hp, hp', hp2, hloop, hr]
      · simp [F_law_number, m_law_number, ev_runF, startE, hne, line2, dAdd, dSub, dFdiv, dMod, dPow, dLt, dGt, fInt, fLen, finE, outsE, mFor, hlim, hix, ht, hp, hp', hp2, hloop, hr, mul_blend, m977, m40503, m31, m48271, m69621]
theorem lawtake (ns : List Int) (hl : ns.length ≤ 63) (n many : Int) (hm : 0 < many) : ∃ r, F_law_take [.inn (.lst [.rol (ns.map D.int), .int n]), .val (.int many)] = .ok (.int r) [.lst [.rol (ns.map D.int), .int (n + 1)]] ∧ 0 ≤ r ∧ r < many := by
  obtain ⟨v, hv⟩ := lawnum ns hl (n + 1)
  refine ⟨v % many, ?_, Int.emod_nonneg _ (by omega), Int.emod_lt_of_pos _ hm⟩
  simp [F_law_take, m_law_take, ev_runF, startE, holds, L2.atI, L2.ixN, dAddI, cSetAt, W.put, fInt, toWs, hv, dMod, hm, finE, outsE]
end T43
set_option Elab.async false
set_option linter.all false
set_option maxRecDepth 100000
set_option maxHeartbeats 1000000
namespace T43
open PySem PySem.Spec PyProof.Rows L2 DL
/-! ### a sale -/
structure Sl where
  b : Str
  p : Int
  r : Int
  f : Int
deriving DecidableEq
def rwD (s : Sl) : D := .tup [.str s.b, .int s.p, .int s.r, .int s.f]
def slD (s : Sl) : D := .ob 0 [.str s.b, .int s.p, .int s.r, .int s.f]
def N4 : List Str := ["bob", "cy", "dan", "eve"]
structure SOk (s : Sl) : Prop where
  b : s.b ∈ N4
  p1 : 0 ≤ s.p
  p2 : s.p ≤ 9999
  r1 : 0 ≤ s.r
  r2 : s.r ≤ 9
  f1 : 0 ≤ s.f
  f2 : s.f ≤ 9
/-- a chain: at most four, of different buyers -/
structure Ch (ss : List Sl) : Prop where
  ok : ∀ s ∈ ss, SOk s
  nd : (ss.map (·.b)).Nodup
  len : ss.length ≤ 4
abbrev ssD (ss : List Sl) : D := .lst (ss.map slD)
abbrev ann : Str := "ann"
theorem isnum (x lo hi : Int) : F_is_number [.val (.int x), .val (.int lo), .val (.int hi)] = .ok (.bl (decide (lo ≤ x) && decide (x ≤ hi))) [] := by
  by_cases h : lo ≤ x <;> by_cases h2 : x ≤ hi <;> simp [F_is_number, m_is_number, F_is_integer, m_is_integer, ev_runF, startE, toWs, dTru, finE, outsE, isTy, D.ty, Ty.sub, dLe, h, h2]
theorem isnumN (lo hi : D) : F_is_number [.val .non, .val lo, .val hi] = .ok (.bl false) [] := by
  simp [F_is_number, m_is_number, F_is_integer, m_is_integer, ev_runF, startE, toWs, dTru, finE, outsE, isTy, D.ty, Ty.sub, dLe]
theorem cknum (p : D) (x lo hi : Int) (h1 : lo ≤ x) (h2 : x ≤ hi) : F_check_number [.val p, .val (.int x), .val (.int lo), .val (.int hi)] = .ok .non [] := by
  simp [F_check_number, m_check_number, isnum, ev_runF, startE, toWs, dTru, finE, outsE, h1, h2]
theorem xknum (p : D) (x lo hi : Int) (h1 : lo ≤ x) (h2 : x ≤ hi) : X_check_number [.val p, .val (.int x), .val (.int lo), .val (.int hi)] = .ok .non [] := runF_ok (cknum p x lo hi h1 h2)
theorem isname0 : F_is_name [.val (.str ann)] = .ok (.bl true) [] := by rfl
theorem isname1 : F_is_name [.val (.str "bob")] = .ok (.bl true) [] := by rfl
theorem isname2 : F_is_name [.val (.str "cy")] = .ok (.bl true) [] := by rfl
theorem isname3 : F_is_name [.val (.str "dan")] = .ok (.bl true) [] := by rfl
theorem isname4 : F_is_name [.val (.str "eve")] = .ok (.bl true) [] := by rfl
theorem isname {x : Str} (h : x ∈ ann :: N4) : F_is_name [.val (.str x)] = .ok (.bl true) [] := by
  simp only [N4, List.mem_cons, List.not_mem_nil, or_false] at h
  rcases h with rfl | rfl | rfl | rfl | rfl
  · exact isname0
  · exact isname1
  · exact isname2
  · exact isname3
  · exact isname4
theorem ckname (p : D) {x : Str} (h : x ∈ ann :: N4) : F_check_name [.val p, .val (.str x)] = .ok .non [] := by
  have h := isname h
  simp [F_check_name, m_check_name, ev_runF, startE, toWs, h, dTru, finE, outsE]
theorem xkname (p : D) {x : Str} (h : x ∈ ann :: N4) : X_check_name [.val p, .val (.str x)] = .ok .non [] := runF_ok (ckname p h)
theorem mksale {s : Sl} (h : SOk s) : F_Sale_init [.inn (.ob 0 []), .val (.str s.b), .val (.int s.p), .val (.int s.r), .val (.int s.f)] = .ok .non [.ob 0 [.str s.b, .int s.p, .int s.r, .int s.f]] := by
  have h1 := xkname (.str "buyer") (x := s.b) (List.mem_cons_of_mem _ h.b)
  have h2 := xknum (.str "price") s.p 0 9999 h.p1 h.p2
  have h3 := xknum (.str "risk") s.r 0 9 h.r1 h.r2
  have h4 := xknum (.str "freight") s.f 0 9 h.f1 h.f2
  simp [F_Sale_init, m_Sale_init, ev_runF, startE, toWs, c_MOST_LEGS, h1, h2, h3, h4, cFld, holds, W.put, finE, outsE]
@[simp] theorem line1 : (1 : Nat) ≤ sizeLine := by decide
@[simp] theorem line2' : (2 : Nat) ≤ sizeLine := by decide
@[simp] theorem line3 : (3 : Nat) ≤ sizeLine := by decide
@[simp] theorem line4 : (4 : Nat) ≤ sizeLine := by decide
theorem ne_int (a b : Int) : dNe (.int a) (.int b) = some (.bl (!decide (a = b))) := by simp [dNe, eqB, D.sc, scal]
theorem eq_intD (a b : Int) : dEq (.int a) (.int b) = some (.bl (decide (a = b))) := by simp [dEq, eqB, D.sc, scal]
theorem isrowL (l : List D) : F_is_row [.val (.lst l)] = .ok (.bl true) [] := by
  simp [F_is_row, m_is_row, ev_runF, startE, isTys, D.ty, Ty.sub, finE, outsE]
theorem isrowT (l : List D) : F_is_row [.val (.tup l)] = .ok (.bl true) [] := by
  simp [F_is_row, m_is_row, ev_runF, startE, isTys, D.ty, Ty.sub, finE, outsE]
theorem isrowN : F_is_row [.val .non] = .ok (.bl false) [] := by
  simp [F_is_row, m_is_row, ev_runF, startE, isTys, D.ty, Ty.sub, finE, outsE]
abbrev sD (l : List Str) : List D := l.map D.str
/-! ### check_chain -/
theorem chloop {A B C : Option W} : ∀ (ss : List Sl) (k : Nat) (met : List Str) (x4 x5 : Option D), (∀ s ∈ ss, s.b ∉ met) → (ss.map (·.b)).Nodup → met.length + ss.length ≤ 9 →
    ∃ y4 y5 : Option D, forGo (mTT (mTCons (mTN 4) (mTCons (mTN 5) mTNil))) b_check_chain_1 (enumD k (ss.map slD)) [A, B, C, some (.own (.lst (sD met))), x4.map .val, x5.map .val] = .ok .nx [A, B, C, some (.own (.lst (sD (met ++ ss.map (·.b))))), y4.map .val, y5.map .val]
  | [], k, met, x4, x5, _, _, _ => ⟨x4, x5, by simp [enumD, forGo]⟩
  | s :: ss, k, met, x4, x5, hm, hn, hl => by
    rw [List.map_cons, List.nodup_cons] at hn
    obtain ⟨y4, y5, ih⟩ := chloop ss (k + 1) (met ++ [s.b]) (some (.int k)) (some (slD s)) (fun q hq => by
      intro hh
      rcases List.mem_append.mp hh with e | e
      · exact hm q (by simp [hq]) e
      · exact hn.1 (List.mem_map.mpr ⟨q, hq, List.mem_singleton.mp e⟩)) hn.2 (by simp at hl ⊢; omega)
    refine ⟨y4, y5, ?_⟩
    rw [List.append_assoc] at ih
    show _ = Res.ok Fl.nx [A, B, C, some (.own (.lst (sD (met ++ ([s.b] ++ ss.map (·.b)))))), y4.map .val, y5.map .val]
    rw [← ih]
    show forGo _ _ (.tup [.int k, slD s] :: enumD (k + 1) (ss.map slD)) _ = _
    conv => lhs; unfold forGo
    have h1 : dIn (.str s.b) (.lst (sD met)) = some (.bl false) := by
      have := hm s (by simp)
      simp [dIn, inB, D.seq, D.sc, scs_strs, inV_strs, this]
    have h2 : (sD met).length < sizeLine := Nat.lt_of_lt_of_le (by rw [List.length_map]; simp at hl; omega) (sizeL (n := 10) (by decide))
    have h3 : sD (met ++ [s.b]) = sD met ++ [.str s.b] := by simp [sD]
    rw [h3]
    generalize sD met = M at *
    simp [b_check_chain_1, slD, isCl, dTru, dFld, h1, holds, cApp, h2, W.put, Ct.toD]
theorem N4_ann {x : Str} (h : x ∈ N4) : x ∉ [ann] := by
  simp only [N4, List.mem_cons, List.not_mem_nil, or_false] at h
  rcases h with rfl | rfl | rfl | rfl <;> decide
theorem ckchain {ss : List Sl} {k : Int} (h : Ch ss) (k1 : 1 ≤ k) (k2 : k ≤ 9) : F_check_chain [.val (.str ann), .val (ssD ss), .val (.int k)] = .ok .non [] := by
  have h1 := xkname (.str "maker") (x := ann) (by simp)
  have h2 := xknum (.str "legs") k 1 9 k1 k2
  have h3 := isrowL (ss.map slD)
  obtain ⟨y4, y5, h4⟩ := chloop (A := some (.val (.str ann))) (B := some (.val (ssD ss))) (C := some (.val (.int k))) ss 0 [ann] none none (fun s hs => N4_ann (h.ok s hs).b) h.nd (by have := h.len; simp; omega)
  generalize sD ([ann] ++ ss.map (·.b)) = R at *
  have e : sD [ann] = [.str ann] := rfl
  rw [e] at h4
  simp only [ssD, Option.map_none] at *
  generalize ss.map slD = L at *
  have hs : (D.lst L).seq = some L := rfl
  simp [F_check_chain, m_check_chain, ev_runF, startE, toWs, h1, h2, h3, h4, c_MOST_LEGS, dTru, finE, outsE]
theorem xkchain {ss : List Sl} {k : Int} (h : Ch ss) (k1 : 1 ≤ k) (k2 : k ≤ 9) : X_check_chain [.val (.str ann), .val (ssD ss), .val (.int k)] = .ok .non [] := runF_ok (ckchain h k1 k2)
/-! ### hands_of -/
def hands (ss : List Sl) : List Str := ann :: ss.map (·.b)
theorem sz {n : Nat} (h : n ≤ 1000) : n ≤ sizeLine := sizeL h
theorem handsof {ss : List Sl} (h : Ch ss) : F_hands_of [.val (.str ann), .val (ssD ss)] = .ok (.tup (sD (hands ss))) [] := by
  have h1 := xkchain h (k := 1) (by decide) (by decide)
  have hf : lcs (lcIt [2] (mTN 2) mTrue e_hands_of_1) (ss.map slD) [some (.val (.str ann)), some (.val (ssD ss)), none] = .ok ((ss.map (·.b)).map D.str) [some (.val (.str ann)), some (.val (ssD ss)), none] :=
    lcs_map slD D.str (·.b) ss fun s hs => by
      have h4 : dFld [(0, 0)] (slD s) = some (.str s.b) := rfl
      generalize ssD ss = PS
      generalize slD s = q at h4
      simp [lcIt, e_hands_of_1, wipeE, restore, toWs, h4]
  have hlen : (ss.map slD).length ≤ sizeLine := sz (by rw [List.length_map]; have := h.len; omega)
  have e : sD (hands ss) = .str ann :: (ss.map (·.b)).map D.str := rfl
  have hl2 : ((ss.map (·.b)).map D.str).length + 1 ≤ sizeLine := sz (by rw [List.length_map, List.length_map]; have := h.len; omega)
  rw [e]
  generalize (ss.map (·.b)).map D.str = R at *
  simp only [ssD] at *
  generalize ss.map slD = L at *
  simp [F_hands_of, m_hands_of, ev_runF, startE, toWs, h1, hf, hlen, hl2, fTup, notOwn_eq, finE, outsE]
theorem xhandsof {ss : List Sl} (h : Ch ss) : X_hands_of [.val (.str ann), .val (ssD ss)] = .ok (.tup (sD (hands ss))) [] := runF_ok (handsof h)
/-! ### those who bear -/
/-- those on whom it is, and on the next it isn't: the k-th of them being h -/
def des (g : Nat → Bool) : Nat → List Str → List Str
  | _, [] => []
  | k, h :: hs => (if (g k && !g (k + 1)) = true then [h] else []) ++ des g (k + 1) hs
theorem des_filter (g : Nat → Bool) : ∀ (hs : List Str) (k : Nat), ((hs.zipIdx k).filter fun q => g q.2 && !g (q.2 + 1)).map (·.1) = des g k hs
  | [], _ => rfl
  | h :: hs, k => by
    rw [List.zipIdx_cons, List.filter_cons]
    unfold des
    rw [← des_filter g hs (k + 1)]
    by_cases e : (g k && !g (k + 1)) = true
    · simp only [e, if_true]
      rfl
    · simp only [e]
      rfl
/-- from where on, at a leg: the first from the start -/
def on (ps : List Int) (leg : Int) : Nat → Bool
  | 0 => true
  | i + 1 => match ps[i]? with
    | some p => decide (p ≤ leg)
    | none => false
def onL (ps : List Int) (leg : Int) : List Bool := true :: (ps.map fun p => decide (p ≤ leg)) ++ [false]
theorem on_s (ps : List Int) (leg : Int) (i : Nat) : on ps leg (i + 1) = match ps[i]? with
    | some p => decide (p ≤ leg)
    | none => false := rfl
theorem onL_at (ps : List Int) (leg : Int) (i : Nat) (h : i ≤ ps.length + 1) : (onL ps leg)[i]? = some (on ps leg i) := by
  unfold onL
  cases i with
  | zero => rfl
  | succ i =>
    rw [List.cons_append, List.getElem?_cons_succ, on_s]
    by_cases hi : i < ps.length
    · rw [List.getElem?_append_left (by rw [List.length_map]; exact hi), List.getElem?_map, List.getElem?_eq_getElem hi]
      rfl
    · have e : i = ps.length := by omega
      subst e
      rw [List.getElem?_append_right (by rw [List.length_map]; exact Nat.le_refl _), List.length_map, Nat.sub_self, List.getElem?_eq_none (l := ps) (Nat.le_refl _)]
      rfl
def those (hs : List Str) (ps : List Int) (leg : Int) : List Str := des (on ps leg) 0 hs
theorem len_those (hs : List Str) (ps : List Int) (leg : Int) : (those hs ps leg).length ≤ hs.length := by
  unfold those
  rw [← des_filter, List.length_map]
  exact Nat.le_trans (List.length_filter_le _ _) (by rw [List.length_zipIdx]; exact Nat.le_refl _)
theorem bl_at {l : List Bool} {i : Nat} {x : Bool} (h : l[i]? = some x) : dIx (.lst (l.map D.bl)) (.int i) = some (.bl x) := by
  show L2.atI (l.map D.bl) (i : Int) = _
  rw [atI_map]
  have hi : i < l.length := by
    have := List.getElem?_eq_some_iff.mp h
    obtain ⟨h1, _⟩ := this
    exact h1
  unfold L2.atI L2.ixN
  rw [if_pos (by omega), if_pos (by omega)]
  show Option.map D.bl (l[(i : Int).toNat]?) = _
  rw [Int.toNat_natCast, h]
  rfl
theorem thosefrom (hs : List Str) (ps : List Int) (leg : Int) (h : hs.length = ps.length + 1) (hl : hs.length ≤ 9) : F_those_from [.val (.tup (sD hs)), .val (.lst (ps.map D.int)), .val (.int leg)] = .ok (.tup (sD (those hs ps leg))) [] := by
  have hf : lcs (lcIt [6] (mTN 6) mTrue e_those_from_1) (ps.map D.int) [some (.val (.tup (sD hs))), some (.val (.lst (ps.map D.int))), some (.val (.int leg)), none, none, none, none] = .ok ((ps.map fun p => decide (p ≤ leg)).map D.bl) [some (.val (.tup (sD hs))), some (.val (.lst (ps.map D.int))), some (.val (.int leg)), none, none, none, none] :=
    lcs_map D.int D.bl (fun p => decide (p ≤ leg)) ps fun p hp => by
      generalize sD hs = HS
      generalize ps.map D.int = PS
      simp [lcIt, e_those_from_1, wipeE, restore, toWs, dGe]
  have hlen : (ps.map D.int).length ≤ sizeLine := sz (by rw [List.length_map]; omega)
  have hl2 : ((ps.map fun p => decide (p ≤ leg)).map D.bl).length + 1 + 1 ≤ sizeLine := sz (by rw [List.length_map, List.length_map]; omega)
  have e : (onL ps leg).map D.bl = .bl true :: ((ps.map fun p => decide (p ≤ leg)).map D.bl ++ [.bl false]) := by
    unfold onL
    rw [List.cons_append, List.map_cons, List.map_append]
    rfl
  have hg : lcs (lcIt [4, 5] (mTT (mTCons (mTN 4) (mTCons (mTN 5) mTNil))) t_those_from_1 (mVar 5)) ((hs.zipIdx 0).map fun q => .tup [.int (q.2 : Nat), .str q.1]) [some (.val (.tup (sD hs))), some (.val (.lst (ps.map D.int))), some (.val (.int leg)), some (.val (.lst ((onL ps leg).map D.bl))), none, none, none] =
      .ok ((((hs.zipIdx 0).filter fun q => on ps leg q.2 && !on ps leg (q.2 + 1)).map (·.1)).map D.str) [some (.val (.tup (sD hs))), some (.val (.lst (ps.map D.int))), some (.val (.int leg)), some (.val (.lst ((onL ps leg).map D.bl))), none, none, none] :=
    lcs_filter (fun q : Str × Nat => D.tup [.int (q.2 : Nat), .str q.1]) D.str (fun q => on ps leg q.2 && !on ps leg (q.2 + 1)) (·.1) (hs.zipIdx 0) fun q hq => by
      obtain ⟨x, i⟩ := q
      have hi := List.snd_lt_of_mem_zipIdx hq
      simp only [Nat.add_zero] at hi
      have h1 := bl_at (onL_at ps leg i (by omega))
      have h2 : dIx (.lst ((onL ps leg).map D.bl)) (.int ((i : Int) + 1)) = _ := bl_at (onL_at ps leg (i + 1) (by omega))
      have h3 : dAdd (.int (i : Nat)) (.int 1) = some (.int ((i : Int) + 1)) := rfl
      generalize sD hs = HS
      generalize ps.map D.int = PS
      generalize (onL ps leg).map D.bl = OL at *
      cases e1 : on ps leg i <;> cases e2 : on ps leg (i + 1) <;> rw [e1] at h1 <;> rw [e2] at h2 <;> simp [lcIt, t_those_from_1, wipeE, restore, toWs, h1, h2, h3, dTru, e1, e2]
  rw [des_filter] at hg
  have hen : enumD 0 (sD hs) = (hs.zipIdx 0).map fun q => .tup [.int (q.2 : Nat), .str q.1] := enumD_map D.str hs 0
  have hl3 : ((hs.zipIdx 0).map fun q => D.tup [.int (q.2 : Nat), .str q.1]).length ≤ sizeLine := sz (by rw [List.length_map, List.length_zipIdx]; omega)
  have ht : (des (on ps leg) 0 hs).map D.str = sD (those hs ps leg) := rfl
  rw [ht] at hg
  rw [e] at hg
  generalize ((hs.zipIdx 0).map fun q => D.tup [.int (q.2 : Nat), .str q.1]) = ZI at *
  generalize sD (those hs ps leg) = TH at *
  generalize sD hs = HS at *
  generalize (ps.map fun p => decide (p ≤ leg)).map D.bl = BL at *
  generalize ps.map D.int = PS at *
  simp [F_those_from, m_those_from, ev_runF, startE, toWs, hf, hlen, hl2, hen, hl3, hg, fTup, notOwn_eq, finE, outsE]
end T43
set_option Elab.async false
set_option linter.all false
set_option maxRecDepth 100000
set_option maxHeartbeats 1000000
namespace T43
open PySem PySem.Spec PyProof.Rows L2 DL
theorem lst_at {α : Type} (e : α → D) {l : List α} {i : Nat} {x : α} (h : l[i]? = some x) : dIx (.lst (l.map e)) (.int i) = some (e x) := by
  show L2.atI (l.map e) (i : Int) = _
  rw [atI_map]
  have hi : i < l.length := (List.getElem?_eq_some_iff.mp h).1
  unfold L2.atI L2.ixN
  rw [if_pos (by omega), if_pos (by omega)]
  show Option.map e (l[(i : Int).toNat]?) = _
  rw [Int.toNat_natCast, h]
  rfl
theorem fLen_lst (l : List D) : fLen [.lst l] = some (.int l.length) := rfl
theorem fLen_tup (l : List D) : fLen [.tup l] = some (.int l.length) := rfl
theorem tloop (ss : List Sl) (pt : Sl → Int) (at_ leg : Int) (hat : ∀ s, dIx (rwD s) (.int at_) = some (.int (pt s))) (hss : ss.length ≤ 9) (A : Option W) : ∀ (hs : List Str) (k : Nat) (acc : List Str) (x5 x6 x7 x8 x9 : Option D), k + hs.length = ss.length + 1 → acc.length + hs.length ≤ 10 →
    ∃ y5 y6 y7 y8 : Option D, forGo (mTT (mTCons (mTN 5) (mTCons (mTN 6) mTNil))) b_law_those_1 (enumD k (sD hs)) [some (.val (.lst (ss.map rwD))), some (.val (.int at_)), some (.val (.int leg)), A, some (.val (.lst (sD acc))), x5.map .val, x6.map .val, x7.map .val, x8.map .val, x9.map .val] =
      .ok .nx [some (.val (.lst (ss.map rwD))), some (.val (.int at_)), some (.val (.int leg)), A, some (.val (.lst (sD (acc ++ des (on (ss.map pt) leg) k hs)))), y5.map .val, y6.map .val, y7.map .val, y8.map .val, x9.map .val]
  | [], k, acc, x5, x6, x7, x8, x9, _, _ => ⟨x5, x6, x7, x8, by simp [enumD, forGo, des]⟩
  | h :: hs, k, acc, x5, x6, x7, x8, x9, hk, ha => by
    obtain ⟨y5, y6, y7, y8, ih⟩ := tloop ss pt at_ leg hat hss A hs (k + 1) (acc ++ (if (on (ss.map pt) leg k && !on (ss.map pt) leg (k + 1)) = true then [h] else [])) (some (.int k)) (some (.str h)) (some (.bl (on (ss.map pt) leg k))) (some (.bl (on (ss.map pt) leg (k + 1)))) x9 (by simp at hk; omega) (by
        simp only [List.length_append, List.length_cons] at ha ⊢
        split <;> simp <;> omega)
    refine ⟨y5, y6, y7, y8, ?_⟩
    have e : acc ++ des (on (ss.map pt) leg) k (h :: hs) = acc ++ (if (on (ss.map pt) leg k && !on (ss.map pt) leg (k + 1)) = true then [h] else []) ++ des (on (ss.map pt) leg) (k + 1) hs := by
      rw [List.append_assoc]
      rfl
    rw [e, ← ih]
    show forGo _ _ (.tup [.int k, .str h] :: enumD (k + 1) (sD hs)) _ = _
    conv => lhs; unfold forGo
    -- what stands at the two places
    have g1 : (mOrV (m2 dEq (mVar 5) (mC (.int 0))) (m2 dGe (mVar 2) (m2 dIx (m2 dIx (mVar 0) (m2 dSub (mVar 5) (mC (.int 1)))) (mVar 1)))) [some (.val (.lst (ss.map rwD))), some (.val (.int at_)), some (.val (.int leg)), A, some (.val (.lst (sD acc))), some (.val (.int k)), some (.val (.str h)), x7.map .val, x8.map .val, x9.map .val] =
        .ok (.bl (on (ss.map pt) leg k)) [some (.val (.lst (ss.map rwD))), some (.val (.int at_)), some (.val (.int leg)), A, some (.val (.lst (sD acc))), some (.val (.int k)), some (.val (.str h)), x7.map .val, x8.map .val, x9.map .val] := by
      cases k with
      | zero =>
        generalize (D.lst (ss.map rwD)) = RW
        simp [eq_intD, dTru, on]
      | succ i =>
        have hi : i < ss.length := by simp at hk; omega
        have q1 := lst_at rwD (List.getElem?_eq_getElem hi)
        have q2 : on (ss.map pt) leg (i + 1) = decide (pt ss[i] ≤ leg) := by rw [on_s, List.getElem?_map, List.getElem?_eq_getElem hi]; rfl
        have q3 := hat ss[i]
        have q4 : dEq (.int ((i + 1 : Nat) : Int)) (.int 0) = some (.bl false) := by rw [eq_intD, decide_eq_false (by omega)]
        have q5 : dSub (.int ((i + 1 : Nat) : Int)) (.int 1) = some (.int (i : Int)) := by
          show some (D.int _) = _
          congr 2
          omega
        rw [q2]
        generalize rwD ss[i] = RI at *
        generalize ((i + 1 : Nat) : Int) = II at *
        generalize (D.lst (ss.map rwD)) = RW at *
        simp [q4, q5, q1, q3, dTru, dGe]
    have g2 : ∀ V : D, (mAndV (m2 dLt (mVar 5) (mCa fLen (mCons (mVar 0) mNil))) (m2 dGe (mVar 2) (m2 dIx (m2 dIx (mVar 0) (mVar 5)) (mVar 1)))) [some (.val (.lst (ss.map rwD))), some (.val (.int at_)), some (.val (.int leg)), A, some (.val (.lst (sD acc))), some (.val (.int k)), some (.val (.str h)), some (.val V), x8.map .val, x9.map .val] =
        .ok (.bl (on (ss.map pt) leg (k + 1))) [some (.val (.lst (ss.map rwD))), some (.val (.int at_)), some (.val (.int leg)), A, some (.val (.lst (sD acc))), some (.val (.int k)), some (.val (.str h)), some (.val V), x8.map .val, x9.map .val] := fun V => by
      have ql : fLen [.lst (ss.map rwD)] = some (.int ss.length) := by rw [fLen_lst, List.length_map]
      by_cases hi : k < ss.length
      · have q1 := lst_at rwD (List.getElem?_eq_getElem hi)
        have q2 : on (ss.map pt) leg (k + 1) = decide (pt ss[k] ≤ leg) := by rw [on_s, List.getElem?_map, List.getElem?_eq_getElem hi]; rfl
        have q3 := hat ss[k]
        have q4 : (k : Int) < ss.length := by omega
        rw [q2]
        generalize rwD ss[k] = RI at *
        generalize (D.lst (ss.map rwD)) = RW at *
        simp [ql, q1, q3, dTru, dGe, dLt, hi]
      · have q2 : on (ss.map pt) leg (k + 1) = false := by rw [on_s, List.getElem?_eq_none (by rw [List.length_map]; omega)]
        rw [q2]
        generalize (D.lst (ss.map rwD)) = RW at *
        simp [ql, dTru, dGe, dLt, hi]
    have g3 : dAdd (.lst (sD acc)) (.lst [.str h]) = some (.lst (sD (acc ++ [h]))) := by
      have q : (sD acc).length + 1 ≤ sizeLine := sz (by simp at ha ⊢; omega)
      have e3 : sD (acc ++ [h]) = sD acc ++ [.str h] := by simp
      rw [e3]
      generalize sD acc = AA at *
      simp [dAdd, q]
    have g4 : dAdd (.lst (sD acc)) (.lst []) = some (.lst (sD (acc ++ []))) := by
      have q : (sD acc).length ≤ sizeLine := sz (by simp at ha ⊢; omega)
      rw [List.append_nil]
      generalize sD acc = AA at *
      simp [dAdd, q]
    unfold b_law_those_1
    generalize (mOrV (m2 dEq (mVar 5) (mC (.int 0))) (m2 dGe (mVar 2) (m2 dIx (m2 dIx (mVar 0) (m2 dSub (mVar 5) (mC (.int 1)))) (mVar 1)))) = W1 at *
    generalize (mAndV (m2 dLt (mVar 5) (mCa fLen (mCons (mVar 0) mNil))) (m2 dGe (mVar 2) (m2 dIx (m2 dIx (mVar 0) (mVar 5)) (mVar 1)))) = W2 at *
    generalize (D.lst (ss.map rwD)) = RW at *
    cases e1 : on (ss.map pt) leg k <;> cases e2 : on (ss.map pt) leg (k + 1) <;> rw [e1] at g1 <;> simp only [e2] at g2
    · generalize enumD (k + 1) (sD hs) = EN at *
      simp [g1, g2, g4, dTru]
    · generalize enumD (k + 1) (sD hs) = EN at *
      simp [g1, g2, g4, dTru]
    · generalize enumD (k + 1) (sD hs) = EN at *
      simp only [Bool.not_false, Bool.and_true, Bool.and_self, if_true]
      generalize sD (acc ++ [h]) = SA at *
      generalize sD acc = AA at *
      simp [g1, g2, g3, dTru]
    · generalize enumD (k + 1) (sD hs) = EN at *
      simp [g1, g2, g4, dTru]
theorem lawthose {ss : List Sl} (pt : Sl → Int) (at_ leg : Int) (hat : ∀ s, dIx (rwD s) (.int at_) = some (.int (pt s))) (hss : ss.length ≤ 4) : F_law_those [.val (.lst (ss.map rwD)), .val (.int at_), .val (.int leg)] = .ok (.tup (sD (those (hands ss) (ss.map pt) leg))) [] := by
  have hf : lcs (lcIt [9] (mTN 9) mTrue e_law_those_1) (ss.map rwD) [some (.val (.lst (ss.map rwD))), some (.val (.int at_)), some (.val (.int leg)), none, none, none, none, none, none, none] = .ok ((ss.map (·.b)).map D.str) [some (.val (.lst (ss.map rwD))), some (.val (.int at_)), some (.val (.int leg)), none, none, none, none, none, none, none] :=
    lcs_map rwD D.str (·.b) ss fun s hs => by
      have h4 : dIx (rwD s) (.int 0) = some (.str s.b) := rfl
      generalize rwD s = q at h4
      generalize (D.lst (ss.map rwD)) = RW at *
      simp [lcIt, e_law_those_1, wipeE, restore, toWs, h4]
  have hadd : dAdd (.lst [.str ann]) (.lst ((ss.map (·.b)).map D.str)) = some (.lst (sD (hands ss))) := by
    have q : 1 + ((ss.map (·.b)).map D.str).length ≤ sizeLine := sz (by rw [List.length_map, List.length_map]; omega)
    have e : sD (hands ss) = .str ann :: (ss.map (·.b)).map D.str := rfl
    rw [e]
    generalize (ss.map (·.b)).map D.str = R at *
    simp [dAdd, q]
  obtain ⟨y5, y6, y7, y8, h⟩ := tloop ss pt at_ leg hat (by omega) (some (.val (.lst (sD (hands ss))))) (hands ss) 0 [] none none none none none (by simp [hands]) (by simp [hands]; omega)
  have hlen : (ss.map rwD).length ≤ sizeLine := sz (by rw [List.length_map]; omega)
  have ht : sD ([] ++ des (on (ss.map pt) leg) 0 (hands ss)) = sD (those (hands ss) (ss.map pt) leg) := rfl
  rw [ht] at h
  have e0 : sD [] = [] := rfl
  rw [e0] at h
  generalize sD (those (hands ss) (ss.map pt) leg) = TH at *
  generalize sD (hands ss) = HS at *
  generalize (ss.map (·.b)).map D.str = R at *
  generalize ss.map rwD = L at *
  simp only [Option.map_none] at h
  simp [F_law_those, m_law_those, ev_runF, startE, toWs, hf, hlen, hadd, h, fTup, notOwn_eq, finE, outsE]
/-! ### bearers, payers -/
theorem hands_len (ss : List Sl) : (hands ss).length = ss.length + 1 := by simp [hands]
theorem bearers {ss : List Sl} {leg : Int} (h : Ch ss) (l1 : 0 ≤ leg) (l2 : leg ≤ 8) : F_bearers [.val (.str ann), .val (ssD ss), .val (.int leg)] = .ok (.tup (sD (those (hands ss) (ss.map (·.r)) leg))) [] := by
  have h1 := xknum (.str "leg") leg 0 8 l1 l2
  have h2 := xhandsof h
  have hf : lcs (lcIt [3] (mTN 3) mTrue e_bearers_1) (ss.map slD) [some (.val (.str ann)), some (.val (ssD ss)), some (.val (.int leg)), none] = .ok ((ss.map (·.r)).map D.int) [some (.val (.str ann)), some (.val (ssD ss)), some (.val (.int leg)), none] :=
    lcs_map slD D.int (·.r) ss fun s hs => by
      have h4 : dFld [(0, 2)] (slD s) = some (.int s.r) := rfl
      generalize ssD ss = PS
      generalize slD s = q at h4
      simp [lcIt, e_bearers_1, wipeE, restore, toWs, h4]
  have h3 := thosefrom (hands ss) (ss.map (·.r)) leg (by simp [hands]) (by rw [hands_len]; have := h.len; omega)
  have hlen : (ss.map slD).length ≤ sizeLine := sz (by rw [List.length_map]; have := h.len; omega)
  generalize sD (those (hands ss) (ss.map (·.r)) leg) = TH at *
  generalize sD (hands ss) = HS at *
  generalize (ss.map (·.r)).map D.int = R at *
  simp only [ssD] at *
  generalize ss.map slD = L at *
  simp [F_bearers, m_bearers, ev_runF, startE, toWs, h1, h2, h3, hf, hlen, c_MOST_LEGS, dSub, notOwn_eq, finE, outsE]
theorem payers {ss : List Sl} {leg : Int} (h : Ch ss) (l1 : 0 ≤ leg) (l2 : leg ≤ 8) : F_payers [.val (.str ann), .val (ssD ss), .val (.int leg)] = .ok (.tup (sD (those (hands ss) (ss.map (·.f)) leg))) [] := by
  have h1 := cknum (.str "leg") leg 0 8 l1 l2
  have h2 := handsof h
  have hf : lcs (lcIt [3] (mTN 3) mTrue e_payers_1) (ss.map slD) [some (.val (.str ann)), some (.val (ssD ss)), some (.val (.int leg)), none] = .ok ((ss.map (·.f)).map D.int) [some (.val (.str ann)), some (.val (ssD ss)), some (.val (.int leg)), none] :=
    lcs_map slD D.int (·.f) ss fun s hs => by
      have h4 : dFld [(0, 3)] (slD s) = some (.int s.f) := rfl
      generalize ssD ss = PS
      generalize slD s = q at h4
      simp [lcIt, e_payers_1, wipeE, restore, toWs, h4]
  have h3 := thosefrom (hands ss) (ss.map (·.f)) leg (by simp [hands]) (by rw [hands_len]; have := h.len; omega)
  have hlen : (ss.map slD).length ≤ sizeLine := sz (by rw [List.length_map]; have := h.len; omega)
  generalize sD (those (hands ss) (ss.map (·.f)) leg) = TH at *
  generalize sD (hands ss) = HS at *
  generalize (ss.map (·.f)).map D.int = R at *
  simp only [ssD] at *
  generalize ss.map slD = L at *
  simp [F_payers, m_payers, ev_runF, startE, toWs, h1, h2, h3, hf, hlen, c_MOST_LEGS, dSub, notOwn_eq, finE, outsE]
end T43
set_option Elab.async false
set_option linter.all false
set_option maxRecDepth 100000
set_option maxHeartbeats 1000000
namespace T43
open PySem PySem.Spec PyProof.Rows L2 DL
/-! ### how many bear it -/
theorem des_ne {g : Nat → Bool} : ∀ {hs : List Str} {k : Nat}, g k = true → g (k + hs.length) = false → des g k hs ≠ []
  | [], k, h1, h2 => by
    rw [List.length_nil, Nat.add_zero, h1] at h2
    cases h2
  | h :: hs, k, h1, h2 => by
    unfold des
    cases e : g (k + 1) with
    | false => simp [h1, e]
    | true =>
      have := des_ne (hs := hs) e (by rw [List.length_cons] at h2; rw [← h2]; congr 1; omega)
      simp [h1, e, this]
theorem des_cons (g : Nat → Bool) (k : Nat) (h : Str) (hs : List Str) : des g k (h :: hs) = (if (g k && !g (k + 1)) = true then [h] else []) ++ des g (k + 1) hs := rfl
theorem des_app (g : Nat → Bool) : ∀ (a b : List Str) (k : Nat), des g k (a ++ b) = des g k a ++ des g (k + a.length) b
  | [], b, k => rfl
  | h :: a, b, k => by
    rw [List.cons_append, des_cons, des_cons, des_app g a b (k + 1), List.append_assoc, List.length_cons, show k + (a.length + 1) = k + 1 + a.length from by omega]
theorem des_off {g : Nat → Bool} (hm : ∀ i, g (i + 1) = true → g i = true) : ∀ {hs : List Str} {k : Nat}, g k = false → des g k hs = []
  | [], _, _ => rfl
  | h :: hs, k, h1 => by
    unfold des
    have h2 : g (k + 1) = false := by
      cases e : g (k + 1) with
      | false => rfl
      | true => rw [hm k e] at h1; cases h1
    rw [des_off hm h2, h1]
    rfl
theorem des_one {g : Nat → Bool} (hm : ∀ i, g (i + 1) = true → g i = true) : ∀ {hs : List Str} {k : Nat}, (des g k hs).length ≤ 1
  | [], _ => Nat.zero_le _
  | h :: hs, k => by
    unfold des
    cases e : g (k + 1) with
    | false =>
      rw [des_off hm e]
      cases g k <;> simp
    | true =>
      have := des_one hm (hs := hs) (k := k + 1)
      simpa using this
theorem des_sub {g : Nat → Bool} : ∀ {hs : List Str} {k : Nat} {x : Str}, x ∈ des g k hs → x ∈ hs
  | [], _, _, h => by cases h
  | h :: hs, k, x, hx => by
    unfold des at hx
    rcases List.mem_append.mp hx with e | e
    · split at e
      · rw [List.mem_singleton.mp e]
        simp
      · cases e
    · exact List.mem_cons_of_mem _ (des_sub e)
theorem on_end (ps : List Int) (leg : Int) : on ps leg (ps.length + 1) = false := by
  rw [on_s, List.getElem?_eq_none (Nat.le_refl _)]
theorem those_ne {hs : List Str} {ps : List Int} (h : hs.length = ps.length + 1) (leg : Int) : those hs ps leg ≠ [] := des_ne rfl (by rw [Nat.zero_add, h]; exact on_end ps leg)
/-- each no greater than the next -/
def adj : List Int → Bool
  | a :: b :: r => decide (a ≤ b) && adj (b :: r)
  | _ => true
theorem adj_at : ∀ {ps : List Int}, adj ps = true → ∀ {i : Nat} {p q : Int}, ps[i]? = some p → ps[i + 1]? = some q → p ≤ q
  | [], _, i, p, q, h1, _ => by simp at h1
  | [a], _, i, p, q, _, h2 => by simp at h2
  | a :: b :: r, h, i, p, q, h1, h2 => by
    obtain ⟨k1, k2⟩ := He.ba h
    cases i with
    | zero =>
      simp at h1 h2
      subst h1 h2
      exact of_decide_eq_true k1
    | succ i => exact adj_at k2 (by simpa using h1) (by simpa using h2)
theorem adj_no : ∀ {ps : List Int}, adj ps = false → ∃ (i : Nat) (p q : Int), ps[i]? = some p ∧ ps[i + 1]? = some q ∧ q < p
  | [], h => by cases h
  | [a], h => by cases h
  | a :: b :: r, h => by
    by_cases e : a ≤ b
    · have h2 : adj (b :: r) = false := by
        unfold adj at h
        rw [decide_eq_true e, Bool.true_and] at h
        exact h
      obtain ⟨i, p, q, h3, h4, h5⟩ := adj_no h2
      exact ⟨i + 1, p, q, by simpa using h3, by simpa using h4, h5⟩
    · exact ⟨0, a, b, rfl, rfl, by omega⟩
theorem those_one {hs : List Str} {ps : List Int} (h : adj ps = true) (leg : Int) : (those hs ps leg).length ≤ 1 := des_one fun i hi => by
  cases i with
  | zero => rfl
  | succ i =>
    rw [on_s] at hi ⊢
    cases e2 : ps[i + 1]? with
    | none => rw [e2] at hi; cases hi
    | some q =>
      rw [e2] at hi
      have hlt : i + 1 < ps.length := (List.getElem?_eq_some_iff.mp e2).1
      have e1 := List.getElem?_eq_getElem (l := ps) (i := i) (by omega)
      rw [e1]
      have := adj_at h e1 e2
      have := of_decide_eq_true hi
      exact decide_eq_true (by omega)
theorem those_two {hs : List Str} {ps : List Int} (hl : hs.length = ps.length + 1) (h : adj ps = false) (hr : ∀ p ∈ ps, 0 ≤ p ∧ p ≤ 9) : ∃ leg : Int, 0 ≤ leg ∧ leg ≤ 8 ∧ 1 < (those hs ps leg).length := by
  obtain ⟨i, p, q, h1, h2, h3⟩ := adj_no h
  have hlt : i + 1 < ps.length := (List.getElem?_eq_some_iff.mp h2).1
  have hp := hr p (List.mem_of_getElem? h1)
  have hq := hr q (List.mem_of_getElem? h2)
  refine ⟨q, hq.1, by omega, ?_⟩
  have g1 : on ps q (i + 1) = false := by rw [on_s, h1]; exact decide_eq_false (by omega)
  have g2 : on ps q (i + 2) = true := by rw [on_s, h2]; exact decide_eq_true (Int.le_refl _)
  unfold those
  rw [← List.take_append_drop (i + 1) hs, des_app, List.length_append]
  have t1 : (hs.take (i + 1)).length = i + 1 := by rw [List.length_take]; omega
  have n1 : des (on ps q) 0 (hs.take (i + 1)) ≠ [] := des_ne rfl (by rw [t1, Nat.zero_add]; exact g1)
  have hd : hs.drop (i + 1) = hs[i + 1]'(by omega) :: hs.drop (i + 2) := List.drop_eq_getElem_cons (by omega)
  have n2 : des (on ps q) (i + 2) (hs.drop (i + 2)) ≠ [] := des_ne g2 (by
    rw [List.length_drop, show i + 2 + (hs.length - (i + 2)) = ps.length + 1 from by omega]
    exact on_end ps q)
  rw [t1, hd]
  have e : des (on ps q) (0 + (i + 1)) (hs[i + 1]'(by omega) :: hs.drop (i + 2)) = (if (on ps q (i + 1) && !on ps q (i + 2)) = true then [hs[i + 1]'(by omega)] else []) ++ des (on ps q) (i + 2) (hs.drop (i + 2)) := by
    rw [Nat.zero_add]
    rfl
  rw [e, List.length_append]
  have := List.length_pos_iff.mpr n1
  have := List.length_pos_iff.mpr n2
  omega
/-! ### legs -/
def thR (ss : List Sl) (leg : Int) : List Str := those (hands ss) (ss.map (·.r)) leg
def thF (ss : List Sl) (leg : Int) : List Str := those (hands ss) (ss.map (·.f)) leg
theorem thR_ne (ss : List Sl) (leg : Int) : thR ss leg ≠ [] := those_ne (by simp [hands]) leg
def tD (l : List Str) : D := .tup (sD l)
def thN (ss : List Sl) (i : Nat) : List Str := thR ss (i : Int)
def rowsR (ss : List Sl) (n : Nat) : List (List Str) := (List.range n).map (thN ss)
theorem rng_nat (n : Nat) : rngD 0 n = (List.range n).map fun i : Nat => D.int (i : Int) := by
  unfold rngD
  exact List.map_congr_left fun i _ => by simp
theorem enum_range' {α : Type} (e : α → D) (f : Nat → α) : ∀ (n k : Nat), enumD k ((List.range' k n).map fun i => e (f i)) = (List.range' k n).map fun i : Nat => .tup [.int (i : Int), e (f i)]
  | 0, _ => rfl
  | n + 1, k => by
    rw [List.range'_succ, List.map_cons, List.map_cons]
    show D.tup [.int (k : Int), e (f k)] :: enumD (k + 1) _ = _
    rw [enum_range' e f n (k + 1)]
theorem enum_range {α : Type} (e : α → D) (f : Nat → α) (n : Nat) : enumD 0 (((List.range n).map f).map e) = (List.range n).map fun i : Nat => .tup [.int (i : Int), e (f i)] := by
  rw [List.map_map, List.range_eq_range']
  exact enum_range' e f n 0
theorem rowsR_take (ss : List Sl) {n m : Nat} (h : n ≤ m) : (rowsR ss m).take n = rowsR ss n := by
  unfold rowsR
  rw [← List.map_take, List.take_range, Nat.min_eq_left h]
theorem mem_thR {ss : List Sl} {leg : Int} {x : Str} (h : x ∈ thR ss leg) : x ∈ hands ss := des_sub h
/-- the legs on which more than one bears it -/
def badL (ss : List Sl) (n : Nat) : List Nat := (List.range n).filter fun i => decide (1 < (thN ss i).length)
theorem badL_nil {ss : List Sl} (h : Ch ss) : badL ss 9 = [] ↔ adj (ss.map (·.r)) = true := by
  unfold badL
  rw [List.filter_eq_nil_iff]
  constructor
  · intro k
    cases e : adj (ss.map (·.r)) with
    | true => rfl
    | false =>
      obtain ⟨leg, l1, l2, l3⟩ := those_two (hs := hands ss) (by simp [hands]) e (fun p hp => by
        obtain ⟨s, hs, rfl⟩ := List.mem_map.mp hp
        exact ⟨(h.ok s hs).r1, (h.ok s hs).r2⟩)
      have := k leg.toNat (List.mem_range.mpr (by omega))
      unfold thN at this
      rw [show ((leg.toNat : Nat) : Int) = leg from by omega] at this
      exact absurd (decide_eq_true l3) this
  · intro e i _ hi
    have := those_one (hs := hands ss) e (i : Int)
    have h2 := of_decide_eq_true hi
    unfold thN thR at h2
    omega
end T43
set_option Elab.async false
set_option linter.all false
set_option maxRecDepth 100000
set_option maxHeartbeats 1000000
namespace T43
open PySem PySem.Spec PyProof.Rows L2 DL
theorem comp_run {vs : List Nat} {mi : M (List D)} {g : MT} {t : M Bool} {m : M D} {ρ : DL.Env} {ds l : List D} (h1 : mi ρ = .ok ds ρ) (h2 : vs.all (notOwn ρ) = true) (h3 : ds.length ≤ sizeLine) (h4 : lcs (lcIt vs g t m) ds ρ = .ok l ρ) : mLcD (mComp vs mi g t m) ρ = .ok (.lst l) ρ := by
  have e : mComp vs mi g t m ρ = .ok l ρ := by
    unfold mComp
    rw [h1]
    show (if _ then _ else _) = _
    rw [h2, decide_eq_true h3]
    exact h4
  rw [ev_mLcD, e]
  rfl
theorem set_run {i : Nat} {m : M D} {ρ : DL.Env} {d : D} (h : m ρ = .ok d ρ) : mSet i m ρ = .ok .nx (ρ.set i (some (.val d))) := by
  rw [ev_mSet, h]
  rfl
theorem no1 (ρ : DL.Env) (i : Nat) (o : Option D) (h : ρ[i]? = some (o.map W.val)) : [i].all (notOwn ρ) = true := by
  simp only [List.all_cons, List.all_nil, Bool.and_true]
  exact ofVal ρ i o h
theorem no2 (ρ : DL.Env) (i j : Nat) (o o' : Option D) (h : ρ[i]? = some (o.map W.val)) (h' : ρ[j]? = some (o'.map W.val)) : [i, j].all (notOwn ρ) = true := by
  simp only [List.all_cons, List.all_nil, Bool.and_true, Bool.and_eq_true]
  exact ⟨ofVal ρ i o h, ofVal ρ j o' h'⟩
/-! ### the makers -/
abbrev evD (d : D) : D := .ob 1 [d]
abbrev unD (leg : Int) (r : List Str) : D := .ob 2 [.int leg, tD r]
theorem mkeven (l : List D) : F_Even_init [.inn (.ob 1 []), .val (.lst l)] = .ok .non [.ob 1 [.tup l]] := by
  have h1 := isrowL l
  simp [F_Even_init, m_Even_init, ev_runF, startE, toWs, h1, dTru, fTup, cFld, holds, W.put, finE, outsE]
theorem mkevenN : F_Even_init [.inn (.ob 1 []), .val .non] = .ok .non [.ob 1 [.non]] := by
  have h1 := isrowN
  simp [F_Even_init, m_Even_init, ev_runF, startE, toWs, h1, dTru, fTup, cFld, holds, W.put, finE, outsE]
theorem mkun (d : D) (l : List D) : F_Uneven_init [.inn (.ob 2 []), .val d, .val (.tup l)] = .ok .non [.ob 2 [d, .tup l]] := by
  have h1 := isrowT l
  simp [F_Uneven_init, m_Uneven_init, ev_runF, startE, toWs, h1, dTru, fTup, cFld, holds, W.put, finE, outsE]
/-! ### judge_chain -/
def hd (l : List Str) : Str := l.headD ""
theorem row_at0 {l : List Str} (h : l ≠ []) : dIx (tD l) (.int 0) = some (.str (hd l)) := by
  cases l with
  | nil => exact absurd rfl h
  | cons a r =>
    show L2.atI (sD (a :: r)) 0 = _
    unfold L2.atI L2.ixN
    rw [if_pos (by decide), if_pos (by simp)]
    rfl
theorem thN_ne (ss : List Sl) (i : Nat) : thN ss i ≠ [] := thR_ne ss i
def headR (ss : List Sl) (n : Nat) : List Str := (rowsR ss n).map hd
theorem int_gt (a b : Int) : dGt (.int a) (.int b) = some (.bl (decide (a > b))) := rfl
theorem len_t (l : List Str) : fLen [tD l] = some (.int l.length) := by
  show some (D.int _) = _
  rw [List.length_map]
theorem badL_head (ss : List Sl) (n : Nat) : (badL ss n).head? = (List.range n).find? fun i : Nat => decide (1 < (thN ss i).length) := List.head?_filter
def judged (ss : List Sl) (n : Nat) : D := match badL ss n with
  | [] => .ob 1 [tD (headR ss n)]
  | i :: _ => unD i (thN ss i)
theorem heads (ss : List Sl) (n : Nat) {vs : List Nat} {v : Nat} {e : M D} {ρ : DL.Env} (h : ∀ d : D, ∀ x, dIx d (.int 0) = some x → lcIt vs (mTN v) mTrue e d ρ = .ok (some x) ρ) : lcs (lcIt vs (mTN v) mTrue e) ((rowsR ss n).map tD) ρ = .ok (sD (headR ss n)) ρ :=
  lcs_map tD D.str hd (rowsR ss n) fun r hr => by
    obtain ⟨i, _, rfl⟩ := List.mem_map.mp hr
    exact h _ _ (row_at0 (thN_ne ss i))
theorem judgechain {ss : List Sl} {n : Nat} (h : Ch ss) (n1 : 1 ≤ n) (n2 : n ≤ 9) : F_judge_chain [.val (.str ann), .val (ssD ss), .val (.int n)] = .ok (judged ss n) [] := by
  have h1 := xkchain h (k := n) (by omega) (by omega)
  have hf : lcs (lcIt [4] (mTN 4) mTrue e_judge_chain_1) ((List.range n).map fun i : Nat => D.int (i : Int)) [some (.val (.str ann)), some (.val (ssD ss)), some (.val (.int n)), none, none, none] = .ok ((rowsR ss n).map tD) [some (.val (.str ann)), some (.val (ssD ss)), some (.val (.int n)), none, none, none] :=
    lcs_map (f := lcIt [4] (mTN 4) mTrue e_judge_chain_1) (ρ := [some (.val (.str ann)), some (.val (ssD ss)), some (.val (.int n)), none, none, none]) (fun i : Nat => D.int (i : Int)) tD (thN ss) (List.range n) (fun i hi => by
      have hi := List.mem_range.mp hi
      have h2 : F_bearers [.val (.str ann), .val (ssD ss), .val (.int i)] = .ok (tD (thN ss i)) [] := bearers h (leg := i) (by omega) (by omega)
      generalize tD (thN ss i) = TH at *
      generalize ssD ss = PS at *
      simp [lcIt, e_judge_chain_1, wipeE, restore, toWs, h2])
  have hc := comp_run (mi := mRng1 (mVar 2)) (ds := (List.range n).map fun i : Nat => D.int (i : Int)) (by
    have hlim : lim62 (n : Int) = true := decide_eq_true ⟨by omega, by omega⟩
    have hr := rng_nat n
    simp [hlim, hr]) (no1 _ 4 none rfl) (sz (by simp; omega)) hf
  have hen : enumD 0 ((rowsR ss n).map tD) = (List.range n).map fun i : Nat => .tup [.int (i : Int), tD (thN ss i)] := enum_range tD (thN ss) n
  have h2 := for_find (α := Nat) (g := mTT (mTCons (mTN 4) (mTCons (mTN 5) mTNil))) (b := b_judge_chain_1) (fun ρ => ∃ y4 y5 : Option D, ρ = [some (.val (.str ann)), some (.val (ssD ss)), some (.val (.int n)), some (.val (.lst ((rowsR ss n).map tD))), y4.map .val, y5.map .val]) (fun i => decide (1 < (thN ss i).length)) (fun i => unD i (thN ss i)) (fun i : Nat => .tup [.int (i : Int), tD (thN ss i)]) (List.range n) (fun i hi ρ ⟨y4, y5, e⟩ => by
    subst e
    refine ⟨[some (.val (.str ann)), some (.val (ssD ss)), some (.val (.int n)), some (.val (.lst ((rowsR ss n).map tD))), some (.val (.int i)), some (.val (tD (thN ss i)))], [some (.val (.str ann)), some (.val (ssD ss)), some (.val (.int n)), some (.val (.lst ((rowsR ss n).map tD))), some (.val (.int i)), some (.val (tD (thN ss i)))], by simp, ?_⟩
    have h3 := len_t (thN ss i)
    have h4 : F_Uneven_init [.inn (.ob 2 []), .val (.int i), .val (tD (thN ss i))] = .ok .non [.ob 2 [.int i, tD (thN ss i)]] := mkun (.int i) (sD (thN ss i))
    by_cases hk : 1 < (thN ss i).length
    · right
      refine ⟨decide_eq_true hk, ?_⟩
      have hk2 : decide ((((thN ss i).length : Nat) : Int) > 1) = true := decide_eq_true (by omega)
      have h5 : dGt (.int ((thN ss i).length : Nat)) (.int 1) = some (.bl true) := by rw [int_gt, hk2]
      generalize ((thN ss i).length : Int) = LL at *
      unfold unD
      generalize tD (thN ss i) = TH at *
      generalize (rowsR ss n).map tD = RR at *
      generalize ssD ss = PS at *
      simp [b_judge_chain_1, toWs, h3, h5, dTru, h4]
    · left
      refine ⟨decide_eq_false hk, ?_, some (.int i), some (tD (thN ss i)), rfl⟩
      have hk2 : decide ((((thN ss i).length : Nat) : Int) > 1) = false := decide_eq_false (by omega)
      have h5 : dGt (.int ((thN ss i).length : Nat)) (.int 1) = some (.bl false) := by rw [int_gt, hk2]
      generalize ((thN ss i).length : Int) = LL at *
      generalize tD (thN ss i) = TH at *
      generalize (rowsR ss n).map tD = RR at *
      generalize ssD ss = PS at *
      simp [b_judge_chain_1, toWs, h3, h5, dTru]) [some (.val (.str ann)), some (.val (ssD ss)), some (.val (.int n)), some (.val (.lst ((rowsR ss n).map tD))), none, none] ⟨none, none, rfl⟩
  have hbl := badL_head ss n
  have hrl : ((rowsR ss n).map tD).length ≤ sizeLine := sz (by simp [rowsR]; omega)
  unfold judged
  rcases h2 with ⟨ρ', hn, h2, y4, y5, rfl⟩ | ⟨i, ρ', hs, h2⟩
  · rw [hn] at hbl
    have e : badL ss n = [] := List.head?_eq_none_iff.mp hbl
    rw [e]
    have hh : lcs (lcIt [5] (mTN 5) mTrue e_judge_chain_2) ((rowsR ss n).map tD) [some (.val (.str ann)), some (.val (ssD ss)), some (.val (.int n)), some (.val (.lst ((rowsR ss n).map tD))), y4.map .val, y5.map .val] = .ok (sD (headR ss n)) [some (.val (.str ann)), some (.val (ssD ss)), some (.val (.int n)), some (.val (.lst ((rowsR ss n).map tD))), y4.map .val, y5.map .val] := heads ss n fun d x hx => by
      generalize (rowsR ss n).map tD = RR at *
      generalize ssD ss = PS at *
      cases y5 <;> simp [lcIt, e_judge_chain_2, wipeE, restore, hx]
    have hc2 := comp_run (mi := mItLT (mVar 3)) (by rfl) (no1 _ 5 y5 rfl) hrl hh
    have h4 := mkeven (sD (headR ss n))
    show _ = FR.ok (.ob 1 [.tup (sD (headR ss n))]) []
    generalize sD (headR ss n) = HR at *
    rw [← hen] at h2
    unfold F_judge_chain m_judge_chain
    generalize mLcD (mComp [4] (mRng1 (mVar 2)) (mTN 4) mTrue e_judge_chain_1) = W1 at *
    generalize mLcD (mComp [5] (mItLT (mVar 3)) (mTN 5) mTrue e_judge_chain_2) = W2 at *
    generalize (rowsR ss n).map tD = RR at *
    generalize ssD ss = PS at *
    simp [ev_runF, startE, toWs, h1, hc, h2, hc2, h4, finE, outsE]
  · rw [hs] at hbl
    cases hb : badL ss n with
    | nil => rw [hb] at hbl; cases hbl
    | cons j r =>
      rw [hb] at hbl
      simp only [List.head?_cons, Option.some.injEq] at hbl
      subst hbl
      show _ = FR.ok (unD j (thN ss j)) []
      generalize unD j (thN ss j) = UU at *
      rw [← hen] at h2
      unfold F_judge_chain m_judge_chain
      generalize mLcD (mComp [4] (mRng1 (mVar 2)) (mTN 4) mTrue e_judge_chain_1) = W1 at *
      generalize mLcD (mComp [5] (mItLT (mVar 3)) (mTN 5) mTrue e_judge_chain_2) = W2 at *
      generalize (rowsR ss n).map tD = RR at *
      generalize ssD ss = PS at *
      simp [ev_runF, startE, toWs, h1, hc, h2, finE, outsE]
end T43
set_option Elab.async false
set_option linter.all false
set_option maxRecDepth 100000
set_option maxHeartbeats 1000000
namespace T43
open PySem PySem.Spec PyProof.Rows L2 DL
/-! ### equality -/
def AN : List Str := ann :: N4
theorem an_ok {x : Str} (h : x ∈ AN) : PyData.strOk x = true := by
  simp only [AN, N4, List.mem_cons, List.not_mem_nil, or_false] at h
  rcases h with rfl | rfl | rfl | rfl | rfl <;> decide +kernel
theorem zed_ok : PyData.strOk ("zed" : Str) = true := by decide +kernel
theorem hands_an {ss : List Sl} (h : Ch ss) {x : Str} (hx : x ∈ hands ss) : x ∈ AN := by
  rcases List.mem_cons.mp hx with e | e
  · rw [e]
    exact List.mem_cons_self
  · obtain ⟨s, hs, rfl⟩ := List.mem_map.mp e
    exact List.mem_cons_of_mem _ (h.ok s hs).b
theorem thN_ok {ss : List Sl} (h : Ch ss) (i : Nat) : ∀ x ∈ thN ss i, eStr.ok x := fun x hx => an_ok (hands_an h (mem_thR hx))
theorem headR_ok {ss : List Sl} (h : Ch ss) (n : Nat) : ∀ x ∈ headR ss n, eStr.ok x := fun x hx => by
  obtain ⟨r, hr, rfl⟩ := List.mem_map.mp hx
  obtain ⟨i, _, rfl⟩ := List.mem_map.mp hr
  have hne := thN_ne ss i
  have : hd (thN ss i) ∈ thN ss i := by
    cases e : thN ss i with
    | nil => exact absurd e hne
    | cons a r => exact List.mem_cons_self
  exact thN_ok h i _ this
theorem eq_tD {l r : List Str} (hl : ∀ x ∈ l, eStr.ok x) (hr : ∀ x ∈ r, eStr.ok x) : eqB (tD l) (tD r) = some (decide (l = r)) := eq_tup eStr hl hr (by decide)
theorem eq_even {l : List Str} (hl : ∀ x ∈ l, eStr.ok x) : eqOb gs_eq (.ob 1 [tD l]) (.ob 1 [tD l]) = some true := by
  have h := eq_tD hl hl
  rw [decide_eq_true rfl] at h
  generalize tD l = T at *
  simp [eqOb, gs_eq, List.lookup, F_Even_eq, m_Even_eq, ev_runF, startE, isCl, dFld, dEq, h, finE, outsE, dTru]
theorem eq_evenN {l : List Str} (hl : ∀ x ∈ l, eStr.ok x) : eqOb gs_eq (.ob 1 [tD l]) (.ob 1 [.non]) = some false := by
  have h : eqB (tD l) .non = some false := by
    have k1 : toPy (tD l) = some ((eTup eStr).p l) := (eTup eStr).py l
    have k2 : SeqAt.shaped ((eTup eStr).p l) = true := (eTup eStr).shaped hl (by decide)
    have k3 : SeqAt.shaped PyData.none = true := by decide
    unfold eqB
    simp only [tD, D.sc]
    unfold eqDeep
    have k1' : toPy (.tup (sD l)) = some ((eTup eStr).p l) := k1
    rw [k1']
    simp only [toPy, k2, k3, Bool.and_self, if_true]
    rfl
  generalize tD l = T at *
  simp [eqOb, gs_eq, List.lookup, F_Even_eq, m_Even_eq, ev_runF, startE, isCl, dFld, dEq, h, finE, outsE, dTru]
theorem eq_unN (x y : D) : eqOb gs_eq (.ob 2 [x, y]) (.ob 1 [.non]) = some false := by
  simp [eqOb, gs_eq, List.lookup, F_Uneven_eq, m_Uneven_eq, ev_runF, startE, isCl, dFld, dEq, finE, outsE, dTru]
theorem eq_un (d : Int) {l : List Str} (hl : ∀ x ∈ l, eStr.ok x) : eqOb gs_eq (unD d l) (unD d l) = some true := by
  have h : eqB (.tup [.int d, tD l]) (.tup [.int d, tD l]) = some true := by
    have h := (ePr eInt (eTup eStr)).eqDeep (a := (d, l)) (b := (d, l)) ⟨trivial, hl⟩ ⟨trivial, hl⟩ (by decide)
    have h' : eqB (.tup [.int d, tD l]) (.tup [.int d, tD l]) = _ := h
    rw [h']
    simp
  unfold unD
  generalize tD l = T at *
  simp [eqOb, gs_eq, List.lookup, F_Uneven_eq, m_Uneven_eq, ev_runF, startE, isCl, dFld, dEq, h, finE, outsE, dTru]
/-- a sale as a row -/
def eSl : Enc Sl where
  d := rwD
  p := fun s => .tuple [.str s.b, .int s.p, .int s.r, .int s.f]
  ok := fun s => PyData.strOk s.b = true
  dep := 1
  py := fun s => by simp [rwD, toPy, toPys]
  lay := fun s h => by simp [PyData.canLay0, PyData.canLayAll0, h]
  depth := fun s => by simp [PyData.depth, PyData.depthAll]
  eqv := fun a b => by
    cases a
    cases b
    simp [PyData.eqv, PyData.eqvAll]
theorem eq_rw {s : Sl} (h : s.b ∈ N4) : eqB (rwD s) (rwD s) = some true := by
  have k := an_ok (List.mem_cons_of_mem _ h)
  have h' : eqB (rwD s) (rwD s) = _ := eSl.eqDeep (a := s) (b := s) k k (by decide)
  rw [h']
  simp
theorem eq_sale {s : Sl} (h : s.b ∈ N4) : eqOb gs_eq (slD s) (slD s) = some true := by
  have h := eq_rw h
  unfold rwD at h
  unfold slD
  simp [eqOb, gs_eq, List.lookup, F_Sale_eq, m_Sale_eq, ev_runF, startE, isCl, dFld, dEq, h, finE, outsE, dTru]
theorem bo1 (d : D) : fBoolO bs [.ob 1 [d]] = some (.bl true) := by
  simp [fBoolO, obTru, bs, List.lookup, F_Even_bool, m_Even_bool, ev_runF, startE, finE, outsE]
theorem bo2 (x y : D) : fBoolO bs [.ob 2 [x, y]] = some (.bl false) := by
  simp [fBoolO, obTru, bs, List.lookup, F_Uneven_bool, m_Uneven_bool, ev_runF, startE, finE, outsE]
/-! ### shows -/
theorem even_shows {ss : List Sl} {n : Int} {q j : D} {k : Bool} (hj : F_judge_chain [.val (.str ann), .val (ssD ss), .val (.int n)] = .ok j []) (he : dEqO gs_eq j q = some (.bl k)) : F_Even_shows [.val q, .val (.str ann), .val (ssD ss), .val (.int n)] = .ok (.bl k) [] := by
  generalize ssD ss = PS at *
  simp [F_Even_shows, m_Even_shows, ev_runF, startE, toWs, hj, he, finE, outsE]
theorem un_shows_off {ss : List Sl} {n : Int} {x y : D} (h : Ch ss) (n1 : 1 ≤ n) (n2 : n ≤ 9) (hx : F_is_number [.val x, .val (.int 0), .val (.int (n - 1))] = .ok (.bl false) []) : F_Uneven_shows [.val (.ob 2 [x, y]), .val (.str ann), .val (ssD ss), .val (.int n)] = .ok (.bl false) [] := by
  have h1 := ckchain h n1 n2
  generalize ssD ss = PS at *
  simp [F_Uneven_shows, m_Uneven_shows, ev_runF, startE, toWs, h1, hx, dFld, dSub, dTru, finE, outsE]
theorem un_shows {ss : List Sl} {n i : Nat} {l : List Str} (h : Ch ss) (n1 : 1 ≤ n) (n2 : n ≤ 9) (hi : i < n) (hl : ∀ x ∈ l, eStr.ok x) : F_Uneven_shows [.val (unD i l), .val (.str ann), .val (ssD ss), .val (.int n)] = .ok (.bl (decide (l = thN ss i) && decide (1 < l.length))) [] := by
  have h1 := ckchain h (k := n) (by omega) (by omega)
  have h2 := isnum i 0 ((n : Int) - 1)
  rw [decide_eq_true (by omega : (0 : Int) ≤ i), decide_eq_true (by omega : (i : Int) ≤ n - 1), Bool.true_and] at h2
  have h3 : F_bearers [.val (.str ann), .val (ssD ss), .val (.int i)] = .ok (tD (thN ss i)) [] := bearers h (leg := i) (by omega) (by omega)
  have h4 := eq_tD hl (thN_ok h i)
  have h5 := len_t l
  have h6 : dGt (.int (l.length : Nat)) (.int 1) = some (.bl (decide (1 < l.length))) := by
    rw [int_gt]
    congr 2
    exact decide_eq_decide.mpr (by omega)
  generalize decide (l = thN ss i) = B1 at *
  generalize decide (1 < l.length) = B2 at *
  generalize (l.length : Int) = LL at *
  unfold unD
  generalize tD (thN ss i) = TT at *
  generalize tD l = TL at *
  generalize ssD ss = PS at *
  cases B1 <;> simp [F_Uneven_shows, m_Uneven_shows, ev_runF, startE, toWs, h1, h2, h3, h4, h5, h6, dFld, List.lookup, dSub, dEq, dTru, finE, outsE]
/-! ### legs_of -/
theorem in_tD {x : Str} (l : List Str) : inB (.str x) (tD l) = some (decide (x ∈ l)) := by
  unfold tD
  simp [inB, D.seq, D.sc, scs_strs, inV_strs]
def legsL (ss : List Sl) (n : Nat) (x : Str) : List Int := ((List.range n).filter fun i => decide (x ∈ thN ss i)).map fun i : Nat => (i : Int)
theorem legsof {ss : List Sl} {n : Nat} {x : Str} (h : Ch ss) (n1 : 1 ≤ n) (n2 : n ≤ 9) (hx : x ∈ hands ss) : F_legs_of [.val (.str ann), .val (ssD ss), .val (.int n), .val (.str x)] = .ok (.tup ((legsL ss n x).map D.int)) [] := by
  have h1 := xkchain h (k := n) (by omega) (by omega)
  have h2 : X_hands_of [.val (.str ann), .val (ssD ss)] = .ok (tD (hands ss)) [] := xhandsof h
  have h3 : dNotIn (.str x) (tD (hands ss)) = some (.bl false) := by
    unfold dNotIn
    rw [in_tD, decide_eq_true hx]
    rfl
  have hf : lcs (lcIt [4] (mTN 4) t_legs_of_1 (mVar 4)) ((List.range n).map fun i : Nat => D.int (i : Int)) [some (.val (.str ann)), some (.val (ssD ss)), some (.val (.int n)), some (.val (.str x)), none] = .ok ((legsL ss n x).map D.int) [some (.val (.str ann)), some (.val (ssD ss)), some (.val (.int n)), some (.val (.str x)), none] := by
    have := lcs_filter (f := lcIt [4] (mTN 4) t_legs_of_1 (mVar 4)) (ρ := [some (.val (.str ann)), some (.val (ssD ss)), some (.val (.int n)), some (.val (.str x)), none]) (fun i : Nat => D.int (i : Int)) D.int (fun i => decide (x ∈ thN ss i)) (fun i : Nat => (i : Int)) (List.range n) (fun i hi => by
      have hi := List.mem_range.mp hi
      have h4 : F_bearers [.val (.str ann), .val (ssD ss), .val (.int i)] = .ok (tD (thN ss i)) [] := bearers h (leg := i) (by omega) (by omega)
      have h5 : dIn (.str x) (tD (thN ss i)) = some (.bl (decide (x ∈ thN ss i))) := by
        unfold dIn
        rw [in_tD]
        rfl
      generalize decide (x ∈ thN ss i) = B1 at *
      generalize tD (thN ss i) = TH at *
      generalize ssD ss = PS at *
      cases B1 <;> simp [lcIt, t_legs_of_1, wipeE, restore, toWs, h4, h5, dTru])
    exact this
  have hc := comp_run (mi := mRng1 (mVar 2)) (ds := (List.range n).map fun i : Nat => D.int (i : Int)) (by
    have hlim : lim62 (n : Int) = true := decide_eq_true ⟨by omega, by omega⟩
    have hr := rng_nat n
    simp [hlim, hr]) (no1 _ 4 none rfl) (sz (by simp; omega)) hf
  generalize (legsL ss n x).map D.int = LG at *
  unfold F_legs_of m_legs_of
  generalize mLcD (mComp [4] (mRng1 (mVar 2)) (mTN 4) t_legs_of_1 (mVar 4)) = W1 at *
  generalize tD (hands ss) = HS at *
  generalize ssD ss = PS at *
  simp [ev_runF, startE, toWs, h1, h2, h3, hc, fTup, dTru, finE, outsE]
/-! ### mended -/
def rnn (R F : Int) : List Sl → List Sl
  | [] => []
  | s :: ss => ⟨s.b, s.p, max R s.r, max F s.f⟩ :: rnn (max R s.r) (max F s.f) ss
theorem rnn_len : ∀ (ss : List Sl) (R F : Int), (rnn R F ss).length = ss.length
  | [], _, _ => rfl
  | s :: ss, R, F => by simp [rnn, rnn_len ss]
theorem rnn_b : ∀ (ss : List Sl) (R F : Int), (rnn R F ss).map (·.b) = ss.map (·.b)
  | [], _, _ => rfl
  | s :: ss, R, F => by simp [rnn, rnn_b ss]
theorem rnn_ok : ∀ {ss : List Sl} {R F : Int}, (∀ s ∈ ss, SOk s) → 0 ≤ R → R ≤ 9 → 0 ≤ F → F ≤ 9 → ∀ s ∈ rnn R F ss, SOk s
  | [], _, _, _, _, _, _, _, s, hs => by cases hs
  | a :: ss, R, F, ok, r1, r2, f1, f2, s, hs => by
    have h := ok a (by simp)
    have := h.r1
    have := h.r2
    have := h.f1
    have := h.f2
    rcases List.mem_cons.mp hs with e | e
    · subst e
      exact ⟨h.b, h.p1, h.p2, by show 0 ≤ max R a.r; omega, by show max R a.r ≤ 9; omega, by show 0 ≤ max F a.f; omega, by show max F a.f ≤ 9; omega⟩
    · exact rnn_ok (fun q hq => ok q (by simp [hq])) (by omega) (by omega) (by omega) (by omega) s e
theorem rnn_adj : ∀ (ss : List Sl) (R F : Int), adj ((rnn R F ss).map (·.r)) = true ∧ ∀ p, ((rnn R F ss).map (·.r)).head? = some p → R ≤ p
  | [], _, _ => ⟨rfl, fun p h => by cases h⟩
  | [s], R, F => ⟨rfl, fun p h => by
      have e : max R s.r = p := by simpa [rnn] using h
      omega⟩
  | s :: t :: ss, R, F => by
    obtain ⟨h1, h2⟩ := rnn_adj (t :: ss) (max R s.r) (max F s.f)
    refine ⟨?_, fun p h => ?_⟩
    · have h3 := h2 (max (max R s.r) t.r) rfl
      show (decide (max R s.r ≤ max (max R s.r) t.r) && adj ((rnn (max R s.r) (max F s.f) (t :: ss)).map (·.r))) = true
      rw [h1, decide_eq_true h3]
      rfl
    · have e : max R s.r = p := by simpa [rnn] using h
      omega
theorem rnn_ch {ss : List Sl} (h : Ch ss) : Ch (rnn 0 0 ss) := ⟨rnn_ok h.ok (by decide) (by decide) (by decide) (by decide), by rw [rnn_b]; exact h.nd, by rw [rnn_len]; exact h.len⟩
theorem max2 (a b : Int) : fMax [.int a, .int b] = some (.int (max a b)) := by
  simp only [fMax]
  congr 2
  split <;> omega
theorem mloop {A B : Option W} : ∀ (ss : List Sl) (acc : List Sl) (R F : Int) (x5 : Option W), (∀ s ∈ ss, SOk s) → 0 ≤ R → R ≤ 9 → 0 ≤ F → F ≤ 9 → acc.length + ss.length ≤ 9 →
    ∃ (y3 y4 y5 : Option W), forGo (mTN 5) b_mended_1 (ss.map slD) [A, B, some (.own (.lst (acc.map slD))), some (.val (.int R)), some (.val (.int F)), x5] = .ok .nx [A, B, some (.own (.lst ((acc ++ rnn R F ss).map slD))), y3, y4, y5]
  | [], acc, R, F, x5, _, _, _, _, _, _ => ⟨some (.val (.int R)), some (.val (.int F)), x5, by simp [forGo, rnn]⟩
  | s :: ss, acc, R, F, x5, ok, r1, r2, f1, f2, hl => by
    have h := ok s (by simp)
    have q1 := h.r1
    have q2 := h.r2
    have q3 := h.f1
    have q4 := h.f2
    have hn : SOk ⟨s.b, s.p, max R s.r, max F s.f⟩ := ⟨h.b, h.p1, h.p2, by show 0 ≤ max R s.r; omega, by show max R s.r ≤ 9; omega, by show 0 ≤ max F s.f; omega, by show max F s.f ≤ 9; omega⟩
    obtain ⟨y3, y4, y5, ih⟩ := mloop ss (acc ++ [⟨s.b, s.p, max R s.r, max F s.f⟩]) (max R s.r) (max F s.f) (some (.val (slD s))) (fun q hq => ok q (by simp [hq])) (by omega) (by omega) (by omega) (by omega) (by simp at hl ⊢; omega)
    refine ⟨y3, y4, y5, ?_⟩
    have e : acc ++ rnn R F (s :: ss) = acc ++ [⟨s.b, s.p, max R s.r, max F s.f⟩] ++ rnn (max R s.r) (max F s.f) ss := by simp [rnn]
    rw [e, ← ih, List.map_cons]
    conv => lhs; unfold forGo
    have h1 := mksale hn
    have h2 : (acc.map slD).length < sizeLine := Nat.lt_of_lt_of_le (by rw [List.length_map]; simp at hl; omega) (sizeL (n := 10) (by decide))
    have h3 : (acc ++ [(⟨s.b, s.p, max R s.r, max F s.f⟩ : Sl)]).map slD = acc.map slD ++ [.ob 0 [.str s.b, .int s.p, .int (max R s.r), .int (max F s.f)]] := by simp [slD]
    rw [h3]
    have m1 := max2 R s.r
    have m2 := max2 F s.f
    simp only at h1
    generalize acc.map slD = AA at *
    generalize max R s.r = R' at *
    generalize max F s.f = F' at *
    simp [b_mended_1, slD, dFld, toWs, m1, m2, h1, holds, cApp, h2, W.put]
theorem mended {ss : List Sl} (h : Ch ss) : F_mended [.val (.str ann), .val (ssD ss)] = .ok (ssD (rnn 0 0 ss)) [] := by
  have h1 := ckchain h (k := 1) (by decide) (by decide)
  obtain ⟨y3, y4, y5, h2⟩ := mloop (A := some (.val (.str ann))) (B := some (.val (ssD ss))) ss [] 0 0 none h.ok (by decide) (by decide) (by decide) (by decide) (by have := h.len; simp; omega)
  rw [List.nil_append] at h2
  have e0 : ([] : List Sl).map slD = [] := rfl
  rw [e0] at h2
  simp only [ssD] at *
  generalize (rnn 0 0 ss).map slD = R at *
  generalize ss.map slD = L at *
  simp [F_mended, m_mended, ev_runF, startE, toWs, h1, h2, Ct.toD, finE, outsE]
/-! ### _law_sales, _law_chain -/
theorem rw_ix (s : Sl) : dIx (rwD s) (.int 0) = some (.str s.b) ∧ dIx (rwD s) (.int 1) = some (.int s.p) ∧ dIx (rwD s) (.int 2) = some (.int s.r) ∧ dIx (rwD s) (.int 3) = some (.int s.f) := ⟨rfl, rfl, rfl, rfl⟩
theorem lawsales {ss : List Sl} (h : Ch ss) : F_law_sales [.val (.lst (ss.map rwD))] = .ok (ssD ss) [] := by
  have hf : lcs (lcIt [1] (mTN 1) mTrue e_law_sales_1) (ss.map rwD) [some (.val (.lst (ss.map rwD))), none] = .ok (ss.map slD) [some (.val (.lst (ss.map rwD))), none] := by
    have := lcs_map (f := lcIt [1] (mTN 1) mTrue e_law_sales_1) (ρ := [some (.val (.lst (ss.map rwD))), none]) rwD slD id ss (fun s hs => by
      have h1 := mksale (h.ok s hs)
      obtain ⟨i0, i1, i2, i3⟩ := rw_ix s
      show _ = Res.ok (some (slD s)) _
      unfold slD
      generalize rwD s = q at *
      generalize ss.map rwD = L at *
      simp [lcIt, e_law_sales_1, wipeE, restore, toWs, i0, i1, i2, i3, h1])
    rw [List.map_id] at this
    exact this
  have hlen : (ss.map rwD).length ≤ sizeLine := sz (by rw [List.length_map]; have := h.len; omega)
  generalize ss.map rwD = L at *
  simp [F_law_sales, m_law_sales, ev_runF, startE, toWs, hf, hlen, notOwn_eq, finE, outsE]
end T43
set_option Elab.async false
set_option linter.all false
set_option maxRecDepth 100000
set_option maxHeartbeats 1000000
namespace T43
open PySem PySem.Spec PyProof.Rows L2 DL
def SD (ns : List Int) : D := .rol (ns.map D.int)
theorem take (ns : List Int) (hl : ns.length ≤ 63) (n many : Int) (hm : 0 < many) : ∃ r, F_law_take [.inn (.lst [SD ns, .int n]), .val (.int many)] = .ok (.int r) [.lst [SD ns, .int (n + 1)]] ∧ 0 ≤ r ∧ r < many := lawtake ns hl n many hm
/-! ### _law_chain -/
theorem cut4 {k : Int} (h0 : 0 ≤ k) (h1 : k < 5) : dCut (.lst (sD N4)) none (some k) = some (.lst (sD (N4.take k.toNat))) := by
  have h : k = 0 ∨ k = 1 ∨ k = 2 ∨ k = 3 ∨ k = 4 := by omega
  rcases h with rfl | rfl | rfl | rfl | rfl <;> rfl
theorem chloop2 (ns : List Int) (hl : ns.length ≤ 63) : ∀ (l : List Str) (n : Int), (∀ x ∈ l, x ∈ N4) → ∃ (ss : List Sl) (n' : Int), lcs (lcIt [1] (mTN 1) mTrue e_law_chain_1) (sD l) [some (.inn (.lst [SD ns, .int n])), none] = .ok (ss.map rwD) [some (.inn (.lst [SD ns, .int n'])), none] ∧ ss.map (·.b) = l ∧ ∀ s ∈ ss, SOk s
  | [], n, _ => ⟨[], n, rfl, rfl, by simp⟩
  | x :: l, n, hx => by
    obtain ⟨p, hp, p0, p1⟩ := take ns hl n 300 (by decide)
    obtain ⟨r, hr, r0, r1⟩ := take ns hl (n + 1) 10 (by decide)
    obtain ⟨f, hf, f0, f1⟩ := take ns hl (n + 1 + 1) 10 (by decide)
    obtain ⟨ss, n', h1, h2, h3⟩ := chloop2 ns hl l (n + 1 + 1 + 1) (fun y hy => hx y (by simp [hy]))
    refine ⟨⟨x, p, r, f⟩ :: ss, n', ?_, by rw [List.map_cons, h2], fun s hs => ?_⟩
    · have e : lcIt [1] (mTN 1) mTrue e_law_chain_1 (.str x) [some (.inn (.lst [SD ns, .int n])), none] = .ok (some (rwD ⟨x, p, r, f⟩)) [some (.inn (.lst [SD ns, .int (n + 1 + 1 + 1)])), none] := by
        unfold rwD
        generalize SD ns = S at *
        simp [lcIt, e_law_chain_1, wipeE, restore, toWs, holds, W.put, hp, hr, hf]
      show lcs _ (.str x :: sD l) _ = _
      unfold lcs
      rw [e]
      simp only [h1]
      rfl
    · rcases List.mem_cons.mp hs with e | e
      · subst e
        exact ⟨hx x (by simp), p0, by show p ≤ 9999; omega, r0, by show r ≤ 9; omega, f0, by show f ≤ 9; omega⟩
      · exact h3 s e
theorem lawchain (ns : List Int) (hl : ns.length ≤ 63) (n : Int) : ∃ (ss : List Sl) (n' : Int), F_law_chain [.inn (.lst [SD ns, .int n])] = .ok (.lst (ss.map rwD)) [.lst [SD ns, .int n']] ∧ Ch ss := by
  obtain ⟨k, hk, k0, k1⟩ := take ns hl n 5 (by decide)
  obtain ⟨ss, n', h1, h2, h3⟩ := chloop2 ns hl (N4.take k.toNat) (n + 1) (fun x hx => List.mem_of_mem_take hx)
  have hc := cut4 k0 k1
  have hlen : (sD (N4.take k.toNat)).length ≤ sizeLine := sz (by rw [List.length_map, List.length_take]; simp [N4]; omega)
  refine ⟨ss, n', ?_, h3, ?_, ?_⟩
  · have e : sD N4 = [.str "bob", .str "cy", .str "dan", .str "eve"] := rfl
    rw [e] at hc
    generalize sD (N4.take k.toNat) = NT at *
    generalize SD ns = S at *
    generalize ss.map rwD = L at *
    simp [F_law_chain, m_law_chain, ev_runF, startE, toWs, holds, W.put, hk, hc, hlen, h1, notOwn_eq, finE, outsE, mOpt]
  · rw [h2]
    exact (List.take_sublist _ _).nodup (by decide +kernel)
  · rw [← List.length_map (f := (·.b)), h2, List.length_take]
    simp [N4]
    omega
/-! ### the law's turn -/
def ev (S : D) (n : Int) (x2 : Option W) (x3 : Option D) (x6 x7 x8 x9 x10 x11 x12 : Option W) (x13 x14 x15 x16 x17 x18 : Option D) : DL.Env :=
  [some (.val S), some (.own (.lst [S, .int n])), x2, x3.map .val, none, none, x6, x7, x8, x9, x10, x11, x12, x13.map .val, x14.map .val, x15.map .val, x16.map .val, x17.map .val, x18.map .val, none]
abbrev rwsD (ss : List Sl) : D := .lst (ss.map rwD)
section
variable {x2 x6 x7 x8 x9 x10 x11 x12 : Option W} {x3 x13 x14 x15 x16 x17 x18 : Option D} {n : Int} {S : D} {ss : List Sl} {g : Nat}
theorem st1 (ns : List Int) (hl : ns.length ≤ 63) : ∃ (ss : List Sl) (g : Nat) (n' : Int), s_law_1 (ev (SD ns) n x2 x3 x6 x7 x8 x9 x10 x11 x12 x13 x14 x15 x16 x17 x18) = .ok .nx (ev (SD ns) n' x2 x3 (some (.val (rwsD ss))) (some (.val (.int g))) x8 x9 x10 x11 x12 x13 x14 x15 x16 x17 x18) ∧ Ch ss ∧ 1 ≤ g ∧ g ≤ 9 := by
  obtain ⟨ss, n', h1, hc⟩ := lawchain ns hl n
  obtain ⟨r, hr, r0, r1⟩ := take ns hl n' 9 (by decide)
  refine ⟨ss, (1 + r).toNat, n' + 1, ?_, hc, by omega, by omega⟩
  have e : (((1 + r).toNat : Nat) : Int) = 1 + r := by omega
  rw [e]
  simp only [rwsD]
  generalize SD ns = S at *
  generalize ss.map rwD = L at *
  simp [ev, s_law_1, toWs, holds, W.put, h1, hr, dAdd]
theorem st2 (h : Ch ss) : s_law_2 (ev S n x2 x3 (some (.val (rwsD ss))) x7 x8 x9 x10 x11 x12 x13 x14 x15 x16 x17 x18) = .ok .nx (ev S n x2 x3 (some (.val (rwsD ss))) x7 (some (.val (ssD ss))) (some (.val (.lst (sD (hands ss))))) x10 x11 x12 x13 x14 x15 x16 x17 x18) := by
  have h1 := lawsales h
  have hf : lcs (lcIt [15] (mTN 15) mTrue e_law_1) (ss.map rwD) (ev S n x2 x3 (some (.val (rwsD ss))) x7 x8 x9 x10 x11 x12 x13 x14 x15 x16 x17 x18) = .ok ((ss.map (·.b)).map D.str) (ev S n x2 x3 (some (.val (rwsD ss))) x7 x8 x9 x10 x11 x12 x13 x14 x15 x16 x17 x18) :=
    lcs_map rwD D.str (·.b) ss fun s hs => by
      have h4 : dIx (rwD s) (.int 0) = some (.str s.b) := rfl
      generalize rwD s = q at h4
      generalize rwsD ss = RW at *
      cases x15 <;> simp [ev, lcIt, e_law_1, wipeE, restore, toWs, h4]
  have hlen : (ss.map rwD).length ≤ sizeLine := sz (by rw [List.length_map]; have := h.len; omega)
  have hc := comp_run (mi := mItLT (mVar 6)) (by rfl) (no1 _ 15 x15 rfl) hlen hf
  have hadd : dAdd (.lst [.str ann]) (.lst ((ss.map (·.b)).map D.str)) = some (.lst (sD (hands ss))) := by
    have q : 1 + ((ss.map (·.b)).map D.str).length ≤ sizeLine := sz (by rw [List.length_map, List.length_map]; have := h.len; omega)
    have e : sD (hands ss) = .str ann :: (ss.map (·.b)).map D.str := rfl
    rw [e]
    generalize (ss.map (·.b)).map D.str = R at *
    simp [dAdd, q]
  unfold s_law_2
  unfold ev at hc ⊢
  generalize mLcD (mComp [15] (mItLT (mVar 6)) (mTN 15) mTrue e_law_1) = WW at *
  generalize sD (hands ss) = HS at *
  generalize (ss.map (·.b)).map D.str = R at *
  generalize ssD ss = SS at *
  simp only [rwsD] at *
  generalize ss.map rwD = L at *
  simp [toWs, h1, hc, hadd]
theorem zip_same {α : Type} (f g : α → D) : ∀ l : List α, zipD (l.map f) (l.map g) = l.map fun a => .tup [f a, g a]
  | [] => rfl
  | a :: l => by
    rw [List.map_cons, List.map_cons, List.map_cons]
    unfold zipD
    rw [zip_same f g l]
theorem any_off {α : Type} (l : List α) : fAny [.lst ((l.map fun _ => false).map D.bl)] = some (.bl false) := by
  simp only [fAny, D.lis, Option.bind_some, dBls_map, Option.map_some]
  congr 2
  rw [List.any_map, List.any_eq_false]
  simp
theorem ne_strs {l : List Str} (h : ∀ x ∈ l, eStr.ok x) : dNe (.lst (sD l)) (.lst (sD l)) = some (.bl false) := by
  have k := eq_lst eStr (l := l) (r := l) h h (by decide)
  have k' : eqB (.lst (sD l)) (.lst (sD l)) = _ := k
  unfold dNe
  rw [k']
  simp
theorem st3 (h : Ch ss) : s_law_3 (ev S n x2 x3 (some (.val (rwsD ss))) x7 (some (.val (ssD ss))) (some (.val (.lst (sD (hands ss))))) x10 x11 x12 x13 x14 x15 x16 x17 x18) = .ok .nx (ev S n x2 x3 (some (.val (rwsD ss))) x7 (some (.val (ssD ss))) (some (.val (.lst (sD (hands ss))))) x10 x11 x12 x13 x14 x15 x16 x17 x18) := by
  have h1 := handsof h
  have h2 := ne_strs (l := hands ss) fun x hx => an_ok (hands_an h hx)
  have hf : lcs (lcIt [3, 15] (mTT (mTCons (mTN 3) (mTCons (mTN 15) mTNil))) mTrue e_law_2) (ss.map fun s => .tup [slD s, rwD s]) (ev S n x2 x3 (some (.val (rwsD ss))) x7 (some (.val (ssD ss))) (some (.val (.lst (sD (hands ss))))) x10 x11 x12 x13 x14 x15 x16 x17 x18) = .ok ((ss.map fun _ => false).map D.bl) (ev S n x2 x3 (some (.val (rwsD ss))) x7 (some (.val (ssD ss))) (some (.val (.lst (sD (hands ss))))) x10 x11 x12 x13 x14 x15 x16 x17 x18) :=
    lcs_map (fun s => D.tup [slD s, rwD s]) D.bl (fun _ => false) ss fun s hs => by
      obtain ⟨i0, i1, i2, i3⟩ := rw_ix s
      have f0 : dFld [(0, 0)] (slD s) = some (.str s.b) := rfl
      have f1 : dFld [(0, 1)] (slD s) = some (.int s.p) := rfl
      have f2 : dFld [(0, 2)] (slD s) = some (.int s.r) := rfl
      have f3 : dFld [(0, 3)] (slD s) = some (.int s.f) := rfl
      have k1 : dNe (.tup [.str s.b, .int s.p, .int s.r, .int s.f]) (rwD s) = some (.bl false) := by
        show dNe (rwD s) (rwD s) = _
        unfold dNe
        rw [eq_rw (h.ok s hs).b]
        rfl
      have k2 := mksale (h.ok s hs)
      have k3 : dNeO gs_eq (slD s) (.ob 0 [.str s.b, .int s.p, .int s.r, .int s.f]) = some (.bl false) := by
        show dNeO gs_eq (slD s) (slD s) = _
        unfold slD
        rw [dNeO_ob]
        have := eq_sale (h.ok s hs).b
        unfold slD at this
        rw [this]
        rfl
      generalize rwD s = q at *
      generalize slD s = q2 at *
      generalize rwsD ss = RW at *
      generalize ssD ss = SS at *
      generalize sD (hands ss) = HS at *
      cases x3 <;> cases x15 <;> simp [ev, lcIt, e_law_2, wipeE, restore, toWs, i0, i1, i2, i3, f0, f1, f2, f3, k1, k2, k3, dTru]
  have hz := zip_same slD rwD ss
  have hlen : (ss.map fun s => D.tup [slD s, rwD s]).length ≤ sizeLine := sz (by rw [List.length_map]; have := h.len; omega)
  have hc := comp_run (mi := mZipX (mVar 8) (mVar 6)) (by
    rw [← hz]
    rfl) (no2 _ 3 15 x3 x15 rfl rfl) hlen hf
  have ha := any_off ss
  have hl : fLst [.tup (sD (hands ss))] = some (.lst (sD (hands ss))) := rfl
  unfold s_law_3
  unfold ev at hc ⊢
  generalize mLcD (mComp [3, 15] (mZipX (mVar 8) (mVar 6)) (mTT (mTCons (mTN 3) (mTCons (mTN 15) mTNil))) mTrue e_law_2) = WW at *
  generalize (ss.map fun _ => false).map D.bl = AF at *
  generalize sD (hands ss) = HS at *
  generalize ssD ss = SS at *
  generalize rwsD ss = RW at *
  simp [toWs, h1, hl, h2, hc, ha, dTru]
theorem rng9 (ρ : DL.Env) : mRng1 (mC (.int 9)) ρ = .ok ((List.range 9).map fun i : Nat => D.int (i : Int)) ρ := by
  show Res.ok (rngD 0 9) ρ = _
  rw [rng_nat]
theorem len9 : ((List.range 9).map fun i : Nat => D.int (i : Int)).length ≤ sizeLine := sz (by simp)
abbrev rkD (ss : List Sl) : D := .lst ((rowsR ss 9).map tD)
theorem st4 (h : Ch ss) : s_law_4 (ev S n x2 x3 (some (.val (rwsD ss))) x7 x8 x9 x10 x11 x12 x13 x14 x15 x16 x17 x18) = .ok .nx (ev S n x2 x3 (some (.val (rwsD ss))) x7 x8 x9 (some (.val (rkD ss))) x11 x12 x13 x14 x15 x16 x17 x18) := by
  have hf : lcs (lcIt [13] (mTN 13) mTrue e_law_3) ((List.range 9).map fun i : Nat => D.int (i : Int)) (ev S n x2 x3 (some (.val (rwsD ss))) x7 x8 x9 x10 x11 x12 x13 x14 x15 x16 x17 x18) = .ok ((rowsR ss 9).map tD) (ev S n x2 x3 (some (.val (rwsD ss))) x7 x8 x9 x10 x11 x12 x13 x14 x15 x16 x17 x18) :=
    lcs_map (fun i : Nat => D.int (i : Int)) tD (thN ss) (List.range 9) fun i hi => by
      have h1 : F_law_those [.val (rwsD ss), .val (.int 2), .val (.int i)] = .ok (tD (thN ss i)) [] := lawthose (·.r) 2 i (fun s => (rw_ix s).2.2.1) h.len
      generalize tD (thN ss i) = TH at *
      generalize rwsD ss = RW at *
      cases x13 <;> simp [ev, lcIt, e_law_3, wipeE, restore, toWs, h1]
  exact set_run (comp_run (rng9 _) (no1 _ 13 x13 rfl) len9 hf)
end
end T43
set_option Elab.async false
set_option linter.all false
set_option maxRecDepth 100000
set_option maxHeartbeats 1000000
namespace T43
open PySem PySem.Spec PyProof.Rows L2 DL
theorem in_enc {α : Type} [DecidableEq α] (e : Enc α) (hd : e.dep ≤ 63) (hs : ∀ a, (e.d a).sc = none) {l : List α} {q : α} (h1 : ∀ x ∈ l, e.ok x) (h2 : e.ok q) : inB (e.d q) (.lst (l.map e.d)) = some (decide (q ∈ l)) := by
  have e1 := e.py q
  have e2 := e.pys l
  have k1 : SeqAt.shaped (e.p q) = true := e.shaped h2 (by omega)
  have k2 : SeqAt.shaped (.list (l.map e.p)) = true := (eLst e).shaped (a := l) h1 (by show e.dep + 1 ≤ 64; omega)
  unfold inB
  simp only [D.seq, hs q, D.lis, e1, e2, k1, k2, Bool.and_self, if_true]
  rw [List.any_map]
  congr 1
  rw [Bool.eq_iff_iff]
  simp only [List.any_eq_true, Function.comp, decide_eq_true_eq]
  constructor
  · rintro ⟨x, hx, e3⟩
    have := (e.eqv x q).mp e3
    rwa [this] at hx
  · exact fun h => ⟨q, h, (e.eqv q q).mpr rfl⟩
section
variable {x2 x6 x7 x8 x9 x10 x11 x12 : Option W} {x3 x13 x14 x15 x16 x17 x18 : Option D} {n : Int} {S : D} {ss : List Sl} {g : Nat}
theorem rowsR_ok (h : Ch ss) (n : Nat) : ∀ r ∈ rowsR ss n, (eTup eStr).ok r := fun r hr => by
  obtain ⟨i, _, rfl⟩ := List.mem_map.mp hr
  exact thN_ok h i
theorem ne_rows {l : List (List Str)} (h : ∀ r ∈ l, (eTup eStr).ok r) : dNe (.lst (l.map tD)) (.lst (l.map tD)) = some (.bl false) := by
  have k := eq_lst (eTup eStr) (l := l) (r := l) h h (by decide)
  have k' : eqB (.lst (l.map tD)) (.lst (l.map tD)) = _ := k
  unfold dNe
  rw [k']
  simp
def rowsF (ss : List Sl) (n : Nat) : List (List Str) := (List.range n).map fun i : Nat => thF ss (i : Int)
theorem rowsF_ok (h : Ch ss) (n : Nat) : ∀ r ∈ rowsF ss n, (eTup eStr).ok r := fun r hr => by
  obtain ⟨i, _, rfl⟩ := List.mem_map.mp hr
  exact fun x hx => an_ok (hands_an h (des_sub hx))
theorem fTup_t (l : List Str) : fTup [tD l] = some (tD l) := rfl
theorem st5 (h : Ch ss) : s_law_5 (ev S n x2 x3 (some (.val (rwsD ss))) x7 (some (.val (ssD ss))) x9 (some (.val (rkD ss))) x11 x12 x13 x14 x15 x16 x17 x18) = .ok .nx (ev S n x2 x3 (some (.val (rwsD ss))) x7 (some (.val (ssD ss))) x9 (some (.val (rkD ss))) x11 x12 x13 x14 x15 x16 x17 x18) := by
  have hf4 : lcs (lcIt [13] (mTN 13) mTrue e_law_4) ((List.range 9).map fun i : Nat => D.int (i : Int)) (ev S n x2 x3 (some (.val (rwsD ss))) x7 (some (.val (ssD ss))) x9 (some (.val (rkD ss))) x11 x12 x13 x14 x15 x16 x17 x18) = .ok ((rowsR ss 9).map tD) (ev S n x2 x3 (some (.val (rwsD ss))) x7 (some (.val (ssD ss))) x9 (some (.val (rkD ss))) x11 x12 x13 x14 x15 x16 x17 x18) :=
    lcs_map (fun i : Nat => D.int (i : Int)) tD (thN ss) (List.range 9) fun i hi => by
      have hi := List.mem_range.mp hi
      have h1 : F_bearers [.val (.str ann), .val (ssD ss), .val (.int i)] = .ok (tD (thN ss i)) [] := bearers h (leg := i) (by omega) (by omega)
      have h2 := fTup_t (thN ss i)
      generalize tD (thN ss i) = TH at *
      generalize rwsD ss = RW at *
      generalize ssD ss = SS at *
      generalize rkD ss = RK at *
      cases x13 <;> simp [ev, lcIt, e_law_4, wipeE, restore, toWs, h1, h2]
  have hf5 : lcs (lcIt [13] (mTN 13) mTrue e_law_5) ((List.range 9).map fun i : Nat => D.int (i : Int)) (ev S n x2 x3 (some (.val (rwsD ss))) x7 (some (.val (ssD ss))) x9 (some (.val (rkD ss))) x11 x12 x13 x14 x15 x16 x17 x18) = .ok ((rowsF ss 9).map tD) (ev S n x2 x3 (some (.val (rwsD ss))) x7 (some (.val (ssD ss))) x9 (some (.val (rkD ss))) x11 x12 x13 x14 x15 x16 x17 x18) :=
    lcs_map (fun i : Nat => D.int (i : Int)) tD (fun i : Nat => thF ss (i : Int)) (List.range 9) fun i hi => by
      have hi := List.mem_range.mp hi
      have h1 : F_payers [.val (.str ann), .val (ssD ss), .val (.int i)] = .ok (tD (thF ss i)) [] := payers h (leg := i) (by omega) (by omega)
      have h2 := fTup_t (thF ss i)
      generalize tD (thF ss i) = TH at *
      generalize rwsD ss = RW at *
      generalize ssD ss = SS at *
      generalize rkD ss = RK at *
      cases x13 <;> simp [ev, lcIt, e_law_5, wipeE, restore, toWs, h1, h2]
  have hf6 : lcs (lcIt [13] (mTN 13) mTrue e_law_6) ((List.range 9).map fun i : Nat => D.int (i : Int)) (ev S n x2 x3 (some (.val (rwsD ss))) x7 (some (.val (ssD ss))) x9 (some (.val (rkD ss))) x11 x12 x13 x14 x15 x16 x17 x18) = .ok ((rowsF ss 9).map tD) (ev S n x2 x3 (some (.val (rwsD ss))) x7 (some (.val (ssD ss))) x9 (some (.val (rkD ss))) x11 x12 x13 x14 x15 x16 x17 x18) :=
    lcs_map (fun i : Nat => D.int (i : Int)) tD (fun i : Nat => thF ss (i : Int)) (List.range 9) fun i hi => by
      have h1 : F_law_those [.val (rwsD ss), .val (.int 3), .val (.int i)] = .ok (tD (thF ss i)) [] := lawthose (·.f) 3 i (fun s => (rw_ix s).2.2.2) h.len
      generalize tD (thF ss i) = TH at *
      generalize rwsD ss = RW at *
      generalize ssD ss = SS at *
      generalize rkD ss = RK at *
      cases x13 <;> simp [ev, lcIt, e_law_6, wipeE, restore, toWs, h1]
  have hc4 := comp_run (rng9 _) (no1 _ 13 x13 rfl) len9 hf4
  have hc5 := comp_run (rng9 _) (no1 _ 13 x13 rfl) len9 hf5
  have hc6 := comp_run (rng9 _) (no1 _ 13 x13 rfl) len9 hf6
  have n1 := ne_rows (rowsR_ok h 9)
  have n2 := ne_rows (rowsF_ok h 9)
  have n3 : dIn (.tup []) (rkD ss) = some (.bl false) := by
    have k := in_enc (eTup eStr) (by decide) (fun _ => rfl) (l := rowsR ss 9) (q := []) (rowsR_ok h 9) (fun x hx => by cases hx)
    have k' : inB (.tup []) (rkD ss) = _ := k
    unfold dIn
    rw [k']
    have : ¬ [] ∈ rowsR ss 9 := fun hm => by
      obtain ⟨i, _, e⟩ := List.mem_map.mp hm
      exact thN_ne ss i e
    simp [this]
  unfold s_law_5
  unfold ev at hc4 hc5 hc6 ⊢
  generalize mLcD (mComp [13] (mRng1 (mC (.int 9))) (mTN 13) mTrue e_law_4) = W4 at *
  generalize mLcD (mComp [13] (mRng1 (mC (.int 9))) (mTN 13) mTrue e_law_5) = W5 at *
  generalize mLcD (mComp [13] (mRng1 (mC (.int 9))) (mTN 13) mTrue e_law_6) = W6 at *
  simp only [rkD] at *
  generalize (rowsR ss 9).map tD = RR at *
  generalize (rowsF ss 9).map tD = RF at *
  generalize ssD ss = SS at *
  generalize rwsD ss = RW at *
  simp [hc4, hc5, hc6, n1, n2, n3, dTru]
/-! the bad ones -/
def bdD (ss : List Sl) (i : Nat) : D := .tup [.int (i : Int), tD (thN ss i)]
abbrev badD (ss : List Sl) (g : Nat) : D := .lst ((badL ss g).map (bdD ss))
theorem cut_rows (ss : List Sl) {g : Nat} (hg : g ≤ 9) : dCut (rkD ss) none (some (g : Int)) = some (.lst ((rowsR ss g).map tD)) := by
  show some (D.lst (cutD ((rowsR ss 9).map tD) none (some (g : Int)))) = _
  rw [cutD_map, ← rowsR_take ss hg]
  congr 2
  have e0 : HT.sIx (rowsR ss 9).length 0 none = 0 := rfl
  have e1 : HT.sIx (rowsR ss 9).length (rowsR ss 9).length (some (g : Int)) = g := by
    have : (rowsR ss 9).length = 9 := by simp [rowsR]
    rw [this]
    have hn : ¬ ((g : Int) < 0) := by omega
    unfold HT.sIx
    simp [hn]
    omega
  rw [e0, e1]
  rfl
theorem st6 (hg : g ≤ 9) : s_law_6 (ev S n x2 x3 x6 (some (.val (.int g))) x8 x9 (some (.val (rkD ss))) x11 x12 x13 x14 x15 x16 x17 x18) = .ok .nx (ev S n x2 x3 x6 (some (.val (.int g))) x8 x9 (some (.val (rkD ss))) (some (.val (badD ss g))) x12 x13 x14 x15 x16 x17 x18) := by
  have hen : enumD 0 ((rowsR ss g).map tD) = (List.range g).map fun i : Nat => .tup [.int (i : Int), tD (thN ss i)] := enum_range tD (thN ss) g
  have hcut := cut_rows ss hg
  have hf : lcs (lcIt [13, 15] (mTT (mTCons (mTN 13) (mTCons (mTN 15) mTNil))) t_law_1 e_law_7) ((List.range g).map fun i : Nat => .tup [.int (i : Int), tD (thN ss i)]) (ev S n x2 x3 x6 (some (.val (.int g))) x8 x9 (some (.val (rkD ss))) x11 x12 x13 x14 x15 x16 x17 x18) = .ok (((badL ss g).map id).map (bdD ss)) (ev S n x2 x3 x6 (some (.val (.int g))) x8 x9 (some (.val (rkD ss))) x11 x12 x13 x14 x15 x16 x17 x18) :=
    lcs_filter (fun i : Nat => .tup [.int (i : Int), tD (thN ss i)]) (bdD ss) (fun i => decide (1 < (thN ss i).length)) id (List.range g) fun i hi => by
      have h3 := len_t (thN ss i)
      have h6 : dGt (.int ((thN ss i).length : Nat)) (.int 1) = some (.bl (decide (1 < (thN ss i).length))) := by
        rw [int_gt]
        congr 2
        exact decide_eq_decide.mpr (by omega)
      unfold bdD
      simp only [id]
      generalize decide (1 < (thN ss i).length) = B1 at *
      generalize ((thN ss i).length : Int) = LL at *
      generalize tD (thN ss i) = TH at *
      generalize rkD ss = RK at *
      cases B1 <;> cases x13 <;> cases x15 <;> simp [ev, lcIt, t_law_1, e_law_7, wipeE, restore, toWs, h3, h6, dTru]
  rw [List.map_id] at hf
  have hc := comp_run (mi := mEnumX (mSl (mVar 10) none (some (mVar 7)))) (by
    rw [← hen]
    generalize rkD ss = RK at *
    simp [ev, mOpt, hcut]) (no2 _ 13 15 x13 x15 rfl rfl) (sz (by simp; omega)) hf
  exact set_run hc
theorem st7 (h : Ch ss) (g1 : 1 ≤ g) (g9 : g ≤ 9) : s_law_7 (ev S n x2 x3 x6 (some (.val (.int g))) (some (.val (ssD ss))) x9 x10 x11 x12 x13 x14 x15 x16 x17 x18) = .ok .nx (ev S n x2 x3 x6 (some (.val (.int g))) (some (.val (ssD ss))) x9 x10 x11 (some (.val (judged ss g))) x13 x14 x15 x16 x17 x18) := by
  have h1 := judgechain h g1 g9
  generalize judged ss g = J at *
  generalize ssD ss = SS at *
  simp [ev, s_law_7, toWs, h1]
theorem eBad (h : Ch ss) (l : List Nat) : ∀ q ∈ l.map (fun i : Nat => ((i : Int), thN ss i)), (ePr eInt (eTup eStr)).ok q := fun q hq => by
  obtain ⟨i, _, rfl⟩ := List.mem_map.mp hq
  exact ⟨trivial, thN_ok h i⟩
theorem bad_map (ss : List Sl) (l : List Nat) : l.map (bdD ss) = (l.map fun i : Nat => ((i : Int), thN ss i)).map (ePr eInt (eTup eStr)).d := by
  rw [List.map_map]
  rfl
theorem bad_eq (h : Ch ss) (g : Nat) : eqB (badD ss g) (.lst []) = some (decide (badL ss g = [])) := by
  have k := eq_lst (ePr eInt (eTup eStr)) (l := (badL ss g).map fun i : Nat => ((i : Int), thN ss i)) (r := []) (eBad h _) (by simp) (by decide)
  rw [← bad_map] at k
  have k' : eqB (badD ss g) (.lst []) = _ := k
  rw [k']
  simp
end
end T43
set_option Elab.async false
set_option linter.all false
set_option maxRecDepth 100000
set_option maxHeartbeats 1000000
namespace T43
open PySem PySem.Spec PyProof.Rows L2 DL
section
variable {x2 x6 x7 x8 x9 x10 x11 x12 : Option W} {x3 x13 x14 x15 x16 x17 x18 : Option D} {n : Int} {S : D} {ss : List Sl} {g : Nat}
theorem st8 (h : Ch ss) (g1 : 1 ≤ g) (g9 : g ≤ 9) : s_law_8 (ev S n x2 x3 x6 (some (.val (.int g))) (some (.val (ssD ss))) x9 (some (.val (rkD ss))) (some (.val (badD ss g))) (some (.val (judged ss g))) x13 x14 x15 x16 x17 x18) = .ok .nx (ev S n x2 x3 x6 (some (.val (.int g))) (some (.val (ssD ss))) x9 (some (.val (rkD ss))) (some (.val (badD ss g))) (some (.val (judged ss g))) x13 x14 x15 x16 x17 x18) := by
  have hj := judgechain h g1 g9
  have hbe : dEq (badD ss g) (.lst []) = some (.bl (decide (badL ss g = []))) := by
    unfold dEq
    rw [bad_eq h]
    rfl
  have hbb : ∀ k : Bool, dNe (.bl k) (.bl k) = some (.bl false) := fun k => by simp [dNe]
  have hun := mkun .non (sD [ann])
  have hen := mkevenN
  have e1 : sD [ann] = [.str ann] := rfl
  rw [e1] at hun
  have hsu := un_shows_off (x := .non) (y := .tup [.str ann]) h (n := g) (by omega) (by omega) (isnumN _ _)
  have hcut := cut_rows ss g9
  have hlen : ((rowsR ss g).map tD).length ≤ sizeLine := sz (by simp [rowsR]; omega)
  cases hbl : badL ss g with
  | nil =>
    have ej : judged ss g = .ob 1 [tD (headR ss g)] := by
      unfold judged
      rw [hbl]
    rw [ej] at hj ⊢
    rw [decide_eq_true hbl] at hbe
    have hok := headR_ok h g
    have hse := even_shows (q := .ob 1 [tD (headR ss g)]) (k := true) hj (by rw [dEqO_ob, eq_even hok]; rfl)
    have hsn := even_shows (q := .ob 1 [.non]) (k := false) hj (by rw [dEqO_ob, eq_evenN hok]; rfl)
    have h0 := bo1 (tD (headR ss g))
    have hne : dNeO gs_eq (.ob 1 [tD (headR ss g)]) (.ob 1 [tD (headR ss g)]) = some (.bl false) := by rw [dNeO_ob, eq_even hok]; rfl
    have hmk : F_Even_init [.inn (.ob 1 []), .val (.lst (sD (headR ss g)))] = .ok .non [.ob 1 [tD (headR ss g)]] := mkeven _
    have hf : lcs (lcIt [15] (mTN 15) mTrue e_law_8) ((rowsR ss g).map tD) (ev S n x2 x3 x6 (some (.val (.int g))) (some (.val (ssD ss))) x9 (some (.val (rkD ss))) (some (.val (badD ss g))) (some (.val (.ob 1 [tD (headR ss g)]))) x13 x14 x15 x16 x17 x18) = .ok (sD (headR ss g)) (ev S n x2 x3 x6 (some (.val (.int g))) (some (.val (ssD ss))) x9 (some (.val (rkD ss))) (some (.val (badD ss g))) (some (.val (.ob 1 [tD (headR ss g)]))) x13 x14 x15 x16 x17 x18) := heads ss g fun d x hx => by
      generalize badD ss g = BD at *
      generalize rkD ss = RK at *
      generalize ssD ss = SS at *
      generalize tD (headR ss g) = TH at *
      cases x15 <;> simp [ev, lcIt, e_law_8, wipeE, restore, hx]
    have hc := comp_run (mi := mItLT (mSl (mVar 10) none (some (mVar 7)))) (by
      generalize rkD ss = RK at *
      generalize (rowsR ss g).map tD = RR at *
      simp [ev, mOpt, hcut]) (no1 _ 15 x15 rfl) hlen hf
    unfold s_law_8
    unfold ev at hc ⊢
    generalize mLcD (mComp [15] (mItLT (mSl (mVar 10) none (some (mVar 7)))) (mTN 15) mTrue e_law_8) = WW at *
    generalize badD ss g = BD at *
    generalize rkD ss = RK at *
    generalize ssD ss = SS at *
    generalize sD (headR ss g) = HH at *
    generalize tD (headR ss g) = TH at *
    have hb2 := hbb true
    simp [toWs, h0, hbe, hb2, dTru, hc, hmk, hne, hse, hen, hsn, hun, hsu, gs_shows, List.lookup]
  | cons i r =>
    have hm : i ∈ badL ss g := by rw [hbl]; simp
    have hm2 := List.mem_filter.mp hm
    have hi := List.mem_range.mp hm2.1
    have ej : judged ss g = unD i (thN ss i) := by
      unfold judged
      rw [hbl]
    rw [ej] at hj ⊢
    rw [decide_eq_false (by rw [hbl]; simp)] at hbe
    have hse := un_shows h g1 g9 hi (thN_ok h i)
    rw [decide_eq_true rfl, hm2.2, Bool.and_self] at hse
    have hsn := even_shows (q := .ob 1 [.non]) (k := false) hj (by
      unfold unD
      rw [dEqO_ob, eq_unN]
      rfl)
    have h0 := bo2 (.int i) (tD (thN ss i))
    have hne : dNeO gs_eq (unD i (thN ss i)) (unD i (thN ss i)) = some (.bl false) := by
      unfold unD
      rw [dNeO_ob]
      have := eq_un i (thN_ok h i)
      unfold unD at this
      rw [this]
      rfl
    have hmk : F_Uneven_init [.inn (.ob 2 []), .val (.int i), .val (tD (thN ss i))] = .ok .non [.ob 2 [.int i, tD (thN ss i)]] := mkun _ _
    have hix : dIx (badD ss g) (.int 0) = some (bdD ss i) := by
      have := lst_at (bdD ss) (l := badL ss g) (i := 0) (x := i) (by rw [hbl]; rfl)
      exact this
    have hi0 : dIx (bdD ss i) (.int 0) = some (.int i) := rfl
    have hi1 : dIx (bdD ss i) (.int 1) = some (tD (thN ss i)) := rfl
    unfold s_law_8
    unfold ev
    generalize mLcD (mComp [15] (mItLT (mSl (mVar 10) none (some (mVar 7)))) (mTN 15) mTrue e_law_8) = WW at *
    unfold unD at *
    generalize bdD ss i = BI at *
    generalize badD ss g = BD at *
    generalize rkD ss = RK at *
    generalize ssD ss = SS at *
    generalize tD (thN ss i) = TH at *
    have hb2 := hbb false
    simp [toWs, h0, hbe, hb2, dTru, hix, hi0, hi1, hmk, hne, hse, hen, hsn, hun, hsu, gs_shows, List.lookup]
theorem mem_badL {i : Nat} (hi : i < 9) : i ∈ badL ss g ↔ i < g ∧ 1 < (thN ss i).length := by
  unfold badL
  rw [List.mem_filter, List.mem_range, decide_eq_true_eq]
theorem zed_no (h : Ch ss) (i : Nat) : ¬ [("zed" : Str), ann] = thN ss i := fun e => by
  have : ("zed" : Str) ∈ thN ss i := by rw [← e]; simp
  have := hands_an h (mem_thR this)
  simp only [AN, N4, List.mem_cons, List.not_mem_nil, or_false] at this
  revert this
  decide +kernel
theorem turn9 (h : Ch ss) (g1 : 1 ≤ g) (g9 : g ≤ 9) (i : Nat) (hi : i < 9) : b_law_1 (ev S n x2 x3 x6 (some (.val (.int g))) (some (.val (ssD ss))) x9 (some (.val (rkD ss))) (some (.val (badD ss g))) x12 (some (.int i)) x14 x15 x16 x17 x18) = .ok .nx (ev S n x2 x3 x6 (some (.val (.int g))) (some (.val (ssD ss))) x9 (some (.val (rkD ss))) (some (.val (badD ss g))) x12 (some (.int i)) x14 x15 x16 x17 x18) := by
  have hix : dIx (rkD ss) (.int i) = some (tD (thN ss i)) := by
    have := lst_at tD (l := rowsR ss 9) (i := i) (x := thN ss i) (by
      unfold rowsR
      rw [List.getElem?_map, List.getElem?_range hi]
      rfl)
    exact this
  have hmk : F_Uneven_init [.inn (.ob 2 []), .val (.int i), .val (tD (thN ss i))] = .ok .non [.ob 2 [.int i, tD (thN ss i)]] := mkun _ _
  have hmz : F_Uneven_init [.inn (.ob 2 []), .val (.int i), .val (.tup [.str "zed", .str "ann"])] = .ok .non [.ob 2 [.int i, .tup [.str "zed", .str "ann"]]] := mkun _ _
  have hin : dIn (.tup [.int i, tD (thN ss i)]) (badD ss g) = some (.bl (decide (i < g ∧ 1 < (thN ss i).length))) := by
    have k := in_enc (ePr eInt (eTup eStr)) (by decide) (fun _ => rfl) (l := (badL ss g).map fun i : Nat => ((i : Int), thN ss i)) (q := ((i : Int), thN ss i)) (eBad h _) ⟨trivial, thN_ok h i⟩
    rw [← bad_map] at k
    have k' : inB (.tup [.int i, tD (thN ss i)]) (badD ss g) = _ := k
    unfold dIn
    rw [k', Option.map_some]
    congr 2
    refine decide_eq_decide.mpr ?_
    rw [← mem_badL hi, List.mem_map]
    constructor
    · rintro ⟨j, hj, e⟩
      have : j = i := by
        have q : (j : Int) = (i : Int) := congrArg Prod.fst e
        omega
      rwa [this] at hj
    · exact fun hm => ⟨i, hm, rfl⟩
  have hsh : ∃ k, k = decide (i < g ∧ 1 < (thN ss i).length) ∧ F_Uneven_shows [.val (.ob 2 [.int i, tD (thN ss i)]), .val (.str ann), .val (ssD ss), .val (.int g)] = .ok (.bl k) [] ∧ F_Uneven_shows [.val (.ob 2 [.int i, .tup [.str "zed", .str "ann"]]), .val (.str ann), .val (ssD ss), .val (.int g)] = .ok (.bl false) [] := by
    by_cases hig : i < g
    · have q1 := un_shows h g1 g9 hig (thN_ok h i)
      have q2 := un_shows (l := [("zed" : Str), ann]) h g1 g9 hig (fun x hx => by
        simp only [List.mem_cons, List.not_mem_nil, or_false] at hx
        rcases hx with rfl | rfl
        · exact zed_ok
        · exact an_ok List.mem_cons_self)
      rw [decide_eq_false (zed_no h i), Bool.false_and] at q2
      rw [decide_eq_true rfl, Bool.true_and] at q1
      refine ⟨_, ?_, q1, q2⟩
      exact decide_eq_decide.mpr (by simp [hig])
    · have q0 : F_is_number [.val (.int i), .val (.int 0), .val (.int ((g : Int) - 1))] = .ok (.bl false) [] := by
        rw [isnum, decide_eq_false (p := (i : Int) ≤ g - 1) (by omega), Bool.and_false]
      have q1 := un_shows_off (x := .int i) (y := tD (thN ss i)) h (n := g) (by omega) (by omega) q0
      have q2 := un_shows_off (x := .int i) (y := .tup [.str "zed", .str "ann"]) h (n := g) (by omega) (by omega) q0
      refine ⟨false, ?_, q1, q2⟩
      exact (decide_eq_false (by simp [hig])).symm
  obtain ⟨k, hk, hs1, hs2⟩ := hsh
  rw [← hk] at hin
  have hbb : dNe (.bl k) (.bl k) = some (.bl false) := by simp [dNe]
  generalize badD ss g = BD at *
  generalize rkD ss = RK at *
  generalize ssD ss = SS at *
  generalize tD (thN ss i) = TH at *
  simp [ev, b_law_1, toWs, hix, hmk, hmz, hin, hs1, hs2, hbb, dTru, gs_shows, List.lookup]
theorem st9 (h : Ch ss) (g1 : 1 ≤ g) (g9 : g ≤ 9) : ∃ y13 : Option D, s_law_9 (ev S n x2 x3 x6 (some (.val (.int g))) (some (.val (ssD ss))) x9 (some (.val (rkD ss))) (some (.val (badD ss g))) x12 x13 x14 x15 x16 x17 x18) = .ok .nx (ev S n x2 x3 x6 (some (.val (.int g))) (some (.val (ssD ss))) x9 (some (.val (rkD ss))) (some (.val (badD ss g))) x12 y13 x14 x15 x16 x17 x18) := by
  obtain ⟨ρ', h1, y13, rfl⟩ := for_keep (g := mTN 13) (b := b_law_1) (fun ρ => ∃ y13 : Option D, ρ = ev S n x2 x3 x6 (some (.val (.int g))) (some (.val (ssD ss))) x9 (some (.val (rkD ss))) (some (.val (badD ss g))) x12 y13 x14 x15 x16 x17 x18) ((List.range 9).map fun i : Nat => D.int (i : Int)) (fun d hd ρ ⟨y13, e⟩ => by
    subst e
    obtain ⟨i, hi, rfl⟩ := List.mem_map.mp hd
    exact ⟨ev S n x2 x3 x6 (some (.val (.int g))) (some (.val (ssD ss))) x9 (some (.val (rkD ss))) (some (.val (badD ss g))) x12 (some (.int i)) x14 x15 x16 x17 x18, _, rfl, turn9 h g1 g9 i (List.mem_range.mp hi), _, rfl⟩) _ ⟨x13, rfl⟩
  refine ⟨y13, ?_⟩
  unfold s_law_9
  rw [ev_mFor, rng9]
  exact h1
end
end T43
set_option Elab.async false
set_option linter.all false
set_option maxRecDepth 100000
set_option maxHeartbeats 1000000
namespace T43
open PySem PySem.Spec PyProof.Rows L2 DL
/-! ### late ones -/
def mx (f : Sl → Int) (l : List Sl) : Int := (l.map f).foldl max 0
theorem mx_app (f : Sl → Int) (l : List Sl) (s : Sl) : mx f (l ++ [s]) = max (mx f l) (f s) := by
  unfold mx
  rw [List.map_append, List.foldl_append]
  rfl
theorem late_run (ss0 : List Sl) : ∀ (ss pre : List Sl), ss0 = pre ++ ss → ((ss.zipIdx pre.length).map fun q => (⟨q.1.b, q.1.p, mx (·.r) (ss0.take (q.2 + 1)), mx (·.f) (ss0.take (q.2 + 1))⟩ : Sl)) = rnn (mx (·.r) pre) (mx (·.f) pre) ss
  | [], pre, _ => rfl
  | s :: ss, pre, e => by
    rw [List.zipIdx_cons, List.map_cons]
    have e2 : ss0 = (pre ++ [s]) ++ ss := by rw [e, List.append_assoc]; rfl
    have ih := late_run ss0 ss (pre ++ [s]) e2
    rw [List.length_append, List.length_singleton] at ih
    rw [ih]
    have ht : ss0.take (pre.length + 1) = pre ++ [s] := by
      rw [e2, List.take_append_of_le_length (by simp)]
      exact List.take_of_length_le (by simp)
    show _ :: _ = _ :: _
    simp only [ht, mx_app]
theorem foldl_max : ∀ (l : List Int) (a : Int), a ≤ l.foldl max a
  | [], a => Int.le_refl _
  | x :: l, a => by
    have := foldl_max l (max a x)
    simp only [List.foldl_cons]
    omega
theorem maxI_nn {l : List Int} (hn : l ≠ []) (h : ∀ x ∈ l, 0 ≤ x) : maxI l = some (l.foldl max 0) := by
  cases l with
  | nil => exact absurd rfl hn
  | cons a r =>
    show some (r.foldl max a) = some (r.foldl max (max 0 a))
    rw [Int.max_eq_right (h a (by simp))]
theorem fmax_mx (f : Sl → Int) {l : List Sl} (hn : l ≠ []) (h : ∀ s ∈ l, 0 ≤ f s) : fMax [.lst ((l.map f).map D.int)] = some (.int (mx f l)) := by
  simp only [fMax, D.lis, Option.bind_some, dInts_map]
  rw [maxI_nn (by simpa using hn) (fun x hx => by obtain ⟨s, hs, rfl⟩ := List.mem_map.mp hx; exact h s hs)]
  rfl
theorem cut_take {α : Type} (e : α → D) (l : List α) (i : Nat) (hi : i < l.length) : dCut (.lst (l.map e)) none (some ((i : Int) + 1)) = some (.lst ((l.take (i + 1)).map e)) := by
  show some (D.lst (cutD (l.map e) none (some ((i : Int) + 1)))) = _
  rw [cutD_map]
  congr 2
  have e0 : HT.sIx l.length 0 none = 0 := rfl
  have e1 : HT.sIx l.length l.length (some ((i : Int) + 1)) = i + 1 := by
    have hn : ¬ ((i : Int) + 1 < 0) := by omega
    unfold HT.sIx
    simp [hn]
    omega
  rw [e0, e1]
  rfl
theorem cut_drop {α : Type} (e : α → D) (l : List α) : dCut (.lst (l.map e)) (some 1) none = some (.lst ((l.drop 1).map e)) := by
  show some (D.lst (cutD (l.map e) (some 1) none)) = _
  rw [cutD_map]
  have e0 : HT.sIx l.length l.length none = l.length := rfl
  have e1 : HT.sIx l.length 0 (some 1) = min 1 l.length := by
    unfold HT.sIx
    simp
  rw [e0, e1]
  cases l with
  | nil => rfl
  | cons a r =>
    have : min 1 (a :: r).length = 1 := by simp
    rw [this]
    simp
theorem adj_zip : ∀ ss : List Sl, ((ss.zip (ss.drop 1)).map fun q => decide (q.1.r ≤ q.2.r)).all id = adj (ss.map (·.r))
  | [] => rfl
  | [a] => rfl
  | a :: b :: r => by
    have ih := adj_zip (b :: r)
    show (decide (a.r ≤ b.r) && (((b :: r).zip r).map fun q => decide (q.1.r ≤ q.2.r)).all id) = (decide (a.r ≤ b.r) && adj ((b :: r).map (·.r)))
    rw [← ih]
    rfl
section
variable {x2 x6 x7 x8 x9 x10 x11 x12 : Option W} {x3 x13 x14 x15 x16 x17 x18 : Option D} {n : Int} {S : D} {ss : List Sl} {g : Nat}
theorem judged_bool (ss : List Sl) (n : Nat) : fBoolO bs [judged ss n] = some (.bl (decide (badL ss n = []))) := by
  unfold judged
  cases h : badL ss n with
  | nil => exact bo1 _
  | cons i r => exact bo2 _ _
theorem st10 (h : Ch ss) : s_law_10 (ev S n x2 x3 (some (.val (rwsD ss))) x7 (some (.val (ssD ss))) x9 x10 x11 x12 x13 x14 x15 x16 x17 x18) = .ok .nx (ev S n x2 x3 (some (.val (rwsD ss))) x7 (some (.val (ssD ss))) x9 x10 x11 x12 x13 x14 x15 x16 x17 x18) := by
  have hj : F_judge_chain [.val (.str ann), .val (ssD ss), .val (.int 9)] = .ok (judged ss 9) [] := judgechain (n := 9) h (by decide) (by decide)
  have h0 := judged_bool ss 9
  have hz : zipD (ss.map rwD) ((ss.drop 1).map rwD) = (ss.zip (ss.drop 1)).map fun q => .tup [rwD q.1, rwD q.2] := zipD_map rwD rwD ss (ss.drop 1)
  have hcut := cut_drop rwD ss
  have hf : lcs (lcIt [18, 14] (mTT (mTCons (mTN 18) (mTCons (mTN 14) mTNil))) mTrue e_law_9) ((ss.zip (ss.drop 1)).map fun q => .tup [rwD q.1, rwD q.2]) (ev S n x2 x3 (some (.val (rwsD ss))) x7 (some (.val (ssD ss))) x9 x10 x11 x12 x13 x14 x15 x16 x17 x18) = .ok (((ss.zip (ss.drop 1)).map fun q => decide (q.1.r ≤ q.2.r)).map D.bl) (ev S n x2 x3 (some (.val (rwsD ss))) x7 (some (.val (ssD ss))) x9 x10 x11 x12 x13 x14 x15 x16 x17 x18) :=
    lcs_map (fun q : Sl × Sl => .tup [rwD q.1, rwD q.2]) D.bl (fun q => decide (q.1.r ≤ q.2.r)) (ss.zip (ss.drop 1)) fun q hq => by
      have i1 := (rw_ix q.1).2.2.1
      have i2 := (rw_ix q.2).2.2.1
      generalize rwD q.1 = q1 at *
      generalize rwD q.2 = q2 at *
      generalize rwsD ss = RW at *
      generalize ssD ss = SS at *
      cases x14 <;> cases x18 <;> simp [ev, lcIt, e_law_9, wipeE, restore, i1, i2, dLe]
  have hlen : ((ss.zip (ss.drop 1)).map fun q => D.tup [rwD q.1, rwD q.2]).length ≤ sizeLine := sz (by rw [List.length_map, List.length_zip]; have := h.len; omega)
  have hc := comp_run (mi := mZipX (mVar 6) (mSl (mVar 6) (some (mC (.int 1))) none)) (by
    rw [← hz]
    generalize (ss.drop 1).map rwD = R2 at *
    simp only [rwsD]
    generalize ss.map rwD = R1 at *
    simp [ev, mOpt, hcut]) (no2 _ 18 14 x18 x14 rfl rfl) hlen hf
  have ha : fAll [.lst (((ss.zip (ss.drop 1)).map fun q => decide (q.1.r ≤ q.2.r)).map D.bl)] = some (.bl (adj (ss.map (·.r)))) := by
    simp only [fAll, D.lis, Option.bind_some, dBls_map, Option.map_some]
    rw [adj_zip]
  have hb : decide (badL ss 9 = []) = adj (ss.map (·.r)) := by
    cases e : adj (ss.map (·.r)) with
    | true => exact decide_eq_true ((badL_nil h).mpr e)
    | false => exact decide_eq_false fun z => by rw [(badL_nil h).mp z] at e; cases e
  rw [hb] at h0
  have hbb : ∀ k : Bool, dNe (.bl k) (.bl k) = some (.bl false) := fun k => by simp [dNe]
  have hbb := hbb (adj (ss.map (·.r)))
  unfold s_law_10
  unfold ev at hc ⊢
  generalize mLcD (mComp [18, 14] (mZipX (mVar 6) (mSl (mVar 6) (some (mC (.int 1))) none)) (mTT (mTCons (mTN 18) (mTCons (mTN 14) mTNil))) mTrue e_law_9) = WW at *
  generalize adj (ss.map (·.r)) = AD at *
  generalize ((ss.zip (ss.drop 1)).map fun q => decide (q.1.r ≤ q.2.r)).map D.bl = BL at *
  generalize judged ss 9 = J at *
  generalize ssD ss = SS at *
  generalize rwsD ss = RW at *
  simp [toWs, hj, h0, hc, ha, hbb, dTru]
theorem ne_ints (l : List Int) : dNe (.tup (l.map D.int)) (.tup (l.map D.int)) = some (.bl false) := by
  have k := eq_tup eInt (l := l) (r := l) (fun _ _ => trivial) (fun _ _ => trivial) (by decide)
  have k' : eqB (.tup (l.map D.int)) (.tup (l.map D.int)) = _ := k
  unfold dNe
  rw [k']
  simp
theorem st11 (h : Ch ss) (g1 : 1 ≤ g) (g9 : g ≤ 9) : s_law_11 (ev S n x2 x3 x6 (some (.val (.int g))) (some (.val (ssD ss))) (some (.val (.lst (sD (hands ss))))) (some (.val (rkD ss))) x11 x12 x13 x14 x15 x16 x17 x18) = .ok .nx (ev S n x2 x3 x6 (some (.val (.int g))) (some (.val (ssD ss))) (some (.val (.lst (sD (hands ss))))) (some (.val (rkD ss))) x11 x12 x13 x14 x15 x16 x17 x18) := by
  have hlim : lim62 (g : Int) = true := decide_eq_true ⟨by omega, by omega⟩
  have hr := rng_nat g
  have hlg : ((List.range g).map fun i : Nat => D.int (i : Int)).length ≤ sizeLine := sz (by simp; omega)
  have hf : lcs (lcIt [17] (mTN 17) mTrue e_law_10) (sD (hands ss)) (ev S n x2 x3 x6 (some (.val (.int g))) (some (.val (ssD ss))) (some (.val (.lst (sD (hands ss))))) (some (.val (rkD ss))) x11 x12 x13 x14 x15 x16 x17 x18) = .ok (((hands ss).map fun _ => false).map D.bl) (ev S n x2 x3 x6 (some (.val (.int g))) (some (.val (ssD ss))) (some (.val (.lst (sD (hands ss))))) (some (.val (rkD ss))) x11 x12 x13 x14 x15 x16 x17 x18) :=
    lcs_map D.str D.bl (fun _ => false) (hands ss) fun x hx => by
      have h1 := legsof h g1 g9 hx
      have hg : ∀ F : Option W, lcs (lcIt [13] (mTN 13) t_law_2 (mVar 13)) ((List.range g).map fun i : Nat => D.int (i : Int)) (ev S n x2 x3 x6 (some (.val (.int g))) (some (.val (ssD ss))) F (some (.val (rkD ss))) x11 x12 x13 x14 x15 x16 (some (.str x)) x18) = .ok ((legsL ss g x).map D.int) (ev S n x2 x3 x6 (some (.val (.int g))) (some (.val (ssD ss))) F (some (.val (rkD ss))) x11 x12 x13 x14 x15 x16 (some (.str x)) x18) := fun F =>
        lcs_filter (fun i : Nat => D.int (i : Int)) D.int (fun i => decide (x ∈ thN ss i)) (fun i : Nat => (i : Int)) (List.range g) fun i hi => by
          have hi := List.mem_range.mp hi
          have hix : dIx (rkD ss) (.int i) = some (tD (thN ss i)) := by
            have := lst_at tD (l := rowsR ss 9) (i := i) (x := thN ss i) (by
              unfold rowsR
              rw [List.getElem?_map, List.getElem?_range (by omega)]
              rfl)
            exact this
          have h5 : dIn (.str x) (tD (thN ss i)) = some (.bl (decide (x ∈ thN ss i))) := by
            unfold dIn
            rw [in_tD]
            rfl
          generalize decide (x ∈ thN ss i) = B1 at *
          generalize tD (thN ss i) = TH at *
          generalize rkD ss = RK at *
          generalize ssD ss = SS at *
          cases B1 <;> cases x13 <;> simp [ev, lcIt, t_law_2, wipeE, restore, hix, h5, dTru]
      have h2 := ne_ints (legsL ss g x)
      have t1 : fTup [.tup ((legsL ss g x).map D.int)] = some (.tup ((legsL ss g x).map D.int)) := rfl
      have t2 : fTup [.lst ((legsL ss g x).map D.int)] = some (.tup ((legsL ss g x).map D.int)) := rfl
      generalize (legsL ss g x).map D.int = LG at *
      generalize ((List.range g).map fun i : Nat => D.int (i : Int)) = RG at *
      generalize rkD ss = RK at *
      generalize ssD ss = SS at *
      generalize sD (hands ss) = HS at *
      simp only [ev] at hg ⊢
      cases x13 <;> cases x17 <;> (try simp only [Option.map_none, Option.map_some] at hg) <;> simp [lcIt, e_law_10, wipeE, restore, toWs, h1, t1, t2, h2, hlim, hr, hlg, hg, notOwn_eq]
  have hlen : (sD (hands ss)).length ≤ sizeLine := sz (by rw [List.length_map, hands_len]; have := h.len; omega)
  have hc := comp_run (mi := mItLT (mVar 9)) (by rfl) (no1 _ 17 x17 rfl) hlen hf
  have ha := any_off (hands ss)
  unfold s_law_11
  unfold ev at hc ⊢
  generalize mLcD (mComp [17] (mItLT (mVar 9)) (mTN 17) mTrue e_law_10) = WW at *
  generalize ((hands ss).map fun _ => false).map D.bl = AF at *
  generalize sD (hands ss) = HS at *
  generalize rkD ss = RK at *
  generalize ssD ss = SS at *
  simp [hc, ha, dTru]
end
end T43
set_option Elab.async false
set_option linter.all false
set_option maxRecDepth 100000
set_option maxHeartbeats 1000000
namespace T43
open PySem PySem.Spec PyProof.Rows L2 DL
section
variable {x2 x6 x7 x8 x9 x10 x11 x12 : Option W} {x3 x13 x14 x15 x16 x17 x18 : Option D} {n : Int} {S : D} {ss : List Sl} {g : Nat}
abbrev ltD (ss : List Sl) : D := .lst ((rnn 0 0 ss).map rwD)
theorem st12 (h : Ch ss) : s_law_12 (ev S n x2 x3 (some (.val (rwsD ss))) x7 x8 x9 x10 x11 x12 x13 x14 x15 x16 x17 x18) = .ok .nx (ev S n x2 x3 (some (.val (rwsD ss))) x7 x8 x9 x10 x11 x12 x13 (some (ltD ss)) x15 x16 x17 x18) := by
  have hf : lcs (lcIt [16, 15] (mTT (mTCons (mTN 16) (mTCons (mTN 15) mTNil))) mTrue e_law_13) ((ss.zipIdx 0).map fun q => .tup [.int (q.2 : Nat), rwD q.1]) (ev S n x2 x3 (some (.val (rwsD ss))) x7 x8 x9 x10 x11 x12 x13 x14 x15 x16 x17 x18) = .ok ((rnn 0 0 ss).map rwD) (ev S n x2 x3 (some (.val (rwsD ss))) x7 x8 x9 x10 x11 x12 x13 x14 x15 x16 x17 x18) := by
    have e := late_run ss ss [] rfl
    have e' : rnn 0 0 ss = (ss.zipIdx 0).map fun q => (⟨q.1.b, q.1.p, mx (·.r) (ss.take (q.2 + 1)), mx (·.f) (ss.take (q.2 + 1))⟩ : Sl) := e.symm
    rw [e']
    refine lcs_map (fun q : Sl × Nat => .tup [.int (q.2 : Nat), rwD q.1]) rwD (fun q => (⟨q.1.b, q.1.p, mx (·.r) (ss.take (q.2 + 1)), mx (·.f) (ss.take (q.2 + 1))⟩ : Sl)) (ss.zipIdx 0) fun q hq => ?_
    obtain ⟨s, i⟩ := q
    have hi := List.snd_lt_of_mem_zipIdx hq
    simp only [Nat.add_zero] at hi
    have hcut := cut_take rwD ss i hi
    have hne : ss.take (i + 1) ≠ [] := by
      intro z
      have := congrArg List.length z
      rw [List.length_take, List.length_nil] at this
      omega
    have hm : ∀ s ∈ ss.take (i + 1), SOk s := fun s hs => h.ok s (List.mem_of_mem_take hs)
    have m1 := fmax_mx (·.r) hne (fun s hs => (hm s hs).r1)
    have m2 := fmax_mx (·.f) hne (fun s hs => (hm s hs).f1)
    have hadd : dAdd (.int (i : Nat)) (.int 1) = some (.int ((i : Int) + 1)) := rfl
    obtain ⟨i0, i1, i2, i3⟩ := rw_ix s
    have htl : ((ss.take (i + 1)).map rwD).length ≤ sizeLine := sz (by rw [List.length_map, List.length_take]; have := h.len; omega)
    have g12 : ∀ F G : D, lcs (lcIt [18] (mTN 18) mTrue e_law_12) ((ss.take (i + 1)).map rwD) (ev S n x2 x3 (some (.val (rwsD ss))) x7 x8 x9 x10 x11 x12 x13 x14 (some F) (some G) x17 x18) = .ok (((ss.take (i + 1)).map (·.r)).map D.int) (ev S n x2 x3 (some (.val (rwsD ss))) x7 x8 x9 x10 x11 x12 x13 x14 (some F) (some G) x17 x18) := fun F G =>
      lcs_map rwD D.int (·.r) (ss.take (i + 1)) fun t ht => by
        have j2 := (rw_ix t).2.2.1
        generalize rwD t = q at *
        generalize rwsD ss = RW at *
        cases x18 <;> simp [ev, lcIt, e_law_12, wipeE, restore, j2]
    have g11 : ∀ F G : D, lcs (lcIt [18] (mTN 18) mTrue e_law_11) ((ss.take (i + 1)).map rwD) (ev S n x2 x3 (some (.val (rwsD ss))) x7 x8 x9 x10 x11 x12 x13 x14 (some F) (some G) x17 x18) = .ok (((ss.take (i + 1)).map (·.f)).map D.int) (ev S n x2 x3 (some (.val (rwsD ss))) x7 x8 x9 x10 x11 x12 x13 x14 (some F) (some G) x17 x18) := fun F G =>
      lcs_map rwD D.int (·.f) (ss.take (i + 1)) fun t ht => by
        have j2 := (rw_ix t).2.2.2
        generalize rwD t = q at *
        generalize rwsD ss = RW at *
        cases x18 <;> simp [ev, lcIt, e_law_11, wipeE, restore, j2]
    show lcIt _ _ _ _ (.tup [.int (i : Nat), rwD s]) _ = .ok (some (.tup [.str s.b, .int s.p, .int (mx (·.r) (ss.take (i + 1))), .int (mx (·.f) (ss.take (i + 1)))])) _
    generalize mx (·.r) (ss.take (i + 1)) = M1 at *
    generalize mx (·.f) (ss.take (i + 1)) = M2 at *
    generalize ((ss.take (i + 1)).map (·.r)).map D.int = L1 at *
    generalize ((ss.take (i + 1)).map (·.f)).map D.int = L2 at *
    generalize (ss.take (i + 1)).map rwD = LT at *
    generalize rwD s = q at *
    simp only [rwsD] at *
    generalize ss.map rwD = RW at *
    simp only [ev] at g11 g12 ⊢
    cases x15 <;> cases x16 <;> cases x18 <;> (try simp only [Option.map_none, Option.map_some] at g11 g12) <;> simp [lcIt, e_law_13, wipeE, restore, i0, i1, hadd, hcut, mOpt, htl, g11, g12, m1, m2, notOwn_eq]
  have hen : enumD 0 (ss.map rwD) = (ss.zipIdx 0).map fun q => .tup [.int (q.2 : Nat), rwD q.1] := enumD_map rwD ss 0
  have hc := comp_run (mi := mEnumX (mVar 6)) (by
    rw [← hen]
    rfl) (no2 _ 16 15 x16 x15 rfl rfl) (sz (by rw [List.length_map, List.length_zipIdx]; have := h.len; omega)) hf
  exact set_run hc
theorem eqObs_same : ∀ {l : List Sl}, (∀ s ∈ l, s.b ∈ N4) → eqObs gs_eq (l.map slD) (l.map slD) = true
  | [], _ => rfl
  | s :: l, h => by
    show ((eqOb gs_eq (slD s) (slD s) == some true) && eqObs gs_eq (l.map slD) (l.map slD)) = true
    rw [eq_sale (h s (by simp)), eqObs_same fun t ht => h t (by simp [ht])]
    rfl
theorem neLO_same {l : List Sl} (h : ∀ s ∈ l, s.b ∈ N4) : dNeLO gs_eq (ssD l) (ssD l) = some (.bl false) := by
  cases l with
  | nil => rfl
  | cons s l =>
    have e1 : dNe (ssD (s :: l)) (ssD (s :: l)) = none := by
      simp [dNe, eqB, D.sc, eqDeep, toPy, toPys, slD]
    have e2 : dNeL gs_eq (ssD (s :: l)) (ssD (s :: l)) = some (.bl false) := by
      unfold dNeL
      simp only [D.lis]
      rw [if_pos (eqObs_same h)]
    unfold dNeLO dNeO
    rw [e1]
    exact e2
theorem st13 (h : Ch ss) : s_law_13 (ev S n x2 x3 x6 x7 (some (.val (ssD ss))) x9 x10 x11 x12 x13 (some (ltD ss)) x15 x16 x17 x18) = .ok .nx (ev S n x2 x3 x6 x7 (some (.val (ssD ss))) x9 x10 x11 x12 x13 (some (ltD ss)) x15 x16 x17 x18) := by
  have h1 := mended h
  have h2 := lawsales (rnn_ch h)
  have h3 := neLO_same (l := rnn 0 0 ss) fun s hs => ((rnn_ch h).ok s hs).b
  have hl : fLst [ssD (rnn 0 0 ss)] = some (ssD (rnn 0 0 ss)) := rfl
  have hj : F_judge_chain [.val (.str ann), .val (ssD (rnn 0 0 ss)), .val (.int 9)] = .ok (judged (rnn 0 0 ss) 9) [] := judgechain (n := 9) (rnn_ch h) (by decide) (by decide)
  have hb : badL (rnn 0 0 ss) 9 = [] := (badL_nil (rnn_ch h)).mpr (rnn_adj ss 0 0).1
  have hjd : obTru bs (judged (rnn 0 0 ss) 9) = some true := by
    unfold judged
    rw [hb]
    simp [obTru, bs, List.lookup, F_Even_bool, m_Even_bool, ev_runF, startE, finE, outsE]
  simp only [ltD] at *
  generalize (rnn 0 0 ss).map rwD = LR at *
  generalize judged (rnn 0 0 ss) 9 = J at *
  generalize ssD (rnn 0 0 ss) = SR at *
  generalize ssD ss = SS at *
  simp [ev, s_law_13, toWs, h1, h2, h3, hl, hj, hjd, dTru]
end
/-! ### a whole turn -/
def RL (ns : List Int) (ρ : DL.Env) : Prop := ∃ (n : Int) (x2 : Option W) (x3 : Option D) (x6 x7 x8 x9 x10 x11 x12 : Option W) (x13 x14 x15 x16 x17 x18 : Option D), ρ = ev (SD ns) n x2 x3 x6 x7 x8 x9 x10 x11 x12 x13 x14 x15 x16 x17 x18
theorem turn {ns : List Int} (hl : ns.length ≤ 63) {ρ : DL.Env} (h : RL ns ρ) : ∃ ρ', b_law_2 ρ = .ok .nx ρ' ∧ RL ns ρ' := by
  obtain ⟨n, x2, x3, x6, x7, x8, x9, x10, x11, x12, x13, x14, x15, x16, x17, x18, rfl⟩ := h
  obtain ⟨ss, g, n1, h1, hc, g1, g9⟩ := st1 (n := n) (x2 := x2) (x3 := x3) (x6 := x6) (x7 := x7) (x8 := x8) (x9 := x9) (x10 := x10) (x11 := x11) (x12 := x12) (x13 := x13) (x14 := x14) (x15 := x15) (x16 := x16) (x17 := x17) (x18 := x18) ns hl
  obtain ⟨y13, h9⟩ := st9 (S := SD ns) (n := n1) (x2 := x2) (x3 := x3) (x6 := some (.val (rwsD ss))) (x9 := some (.val (.lst (sD (hands ss))))) (x12 := some (.val (judged ss g))) (x13 := x13) (x14 := x14) (x15 := x15) (x16 := x16) (x17 := x17) (x18 := x18) hc g1 g9
  refine ⟨ev (SD ns) n1 x2 x3 (some (.val (rwsD ss))) (some (.val (.int g))) (some (.val (ssD ss))) (some (.val (.lst (sD (hands ss))))) (some (.val (rkD ss))) (some (.val (badD ss g))) (some (.val (judged ss g))) y13 (some (ltD ss)) x15 x16 x17 x18, ?_, ⟨_, _, _, _, _, _, _, _, _, _, _, _, _, _, _, _, rfl⟩⟩
  unfold b_law_2
  exact seq_nx h1 (seq_nx (st2 hc) (seq_nx (st3 hc) (seq_nx (st4 hc) (seq_nx (st5 hc) (seq_nx (st6 g9) (seq_nx (st7 hc g1 g9) (seq_nx (st8 hc g1 g9) (seq_nx h9 (seq_nx (st10 hc) (seq_nx (st11 hc g1 g9) (seq_nx (st12 hc) (st13 hc))))))))))))
theorem plain (ns : List Int) (h : ns.length ≤ 63) : ∃ ρ1 ρ2, m_law1 (startE 20 [.val (.rol (ns.map D.int))]) = .ok .nx ρ1 ∧ m_law2 ρ1 = .ok .nx ρ2 ∧ ρ2.length = 20 := by
  have h1 : m_law1 (startE 20 [.val (.rol (ns.map D.int))]) = .ok .nx (ev (SD ns) 0 none none none none none none none none none none none none none none none) := by
    show m_law1 (startE 20 [.val (SD ns)]) = _
    generalize SD ns = S
    simp [m_law1, startE, ev]
  obtain ⟨ρ', h2, h3⟩ := for_keep (g := mTN 2) (b := b_law_2) (RL ns) (rngD 0 8) (fun d hd ρ hR => by
    obtain ⟨n, x2, x3, x6, x7, x8, x9, x10, x11, x12, x13, x14, x15, x16, x17, x18, rfl⟩ := hR
    obtain ⟨ρ', h4, h5⟩ := turn h (ρ := ev (SD ns) n (some (.val d)) x3 x6 x7 x8 x9 x10 x11 x12 x13 x14 x15 x16 x17 x18) ⟨_, _, _, _, _, _, _, _, _, _, _, _, _, _, _, _, rfl⟩
    exact ⟨_, ρ', rfl, h4, h5⟩) _ ⟨_, _, none, _, _, _, _, _, _, _, none, none, none, none, none, none, rfl⟩
  refine ⟨_, ρ', h1, ?_, ?_⟩
  · unfold m_law2
    rw [ev_mFor]
    exact h2
  · obtain ⟨n, x2, x3, x6, x7, x8, x9, x10, x11, x12, x13, x14, x15, x16, x17, x18, rfl⟩ := h3
    rfl
end T43
set_option Elab.async false
set_option linter.all false
set_option maxRecDepth 100000
set_option maxHeartbeats 0
namespace T43
open PySem PySem.Spec PyProof.Rows L2 DL
abbrev R : PySem.W.OpenRow := PySem.W.OpenLaw.row PySem.Challenge.rw_goodsbypapers_k43_whole_chains_of_sales
def gd (x : Str) (i : Nat) : He.DefD := ⟨(x, none), x, x, defArgs (top i), defBody (top i), defScope (top i), [], []⟩
def ga2 (x y : Str) (i : Nat) : He.DefD := ⟨(x, none), y, y, defArgs (top i), defBody (top i), defScope (top i), [], []⟩
def md (C m q : Str) (i j : Nat) : He.DefD := ⟨(C, some m), m, q, defArgs (inClass (top i) j), defBody (inClass (top i) j), defScope (inClass (top i) j), [], []⟩
def fn : List He.DefD := [md "Even" "__bool__" "Even.__bool__" 15 1, md "Uneven" "__bool__" "Uneven.__bool__" 16 1, gd "_law_number" 26, gd "_law_take" 27, gd "_law_chain" 28, gd "is_name" 9, gd "check_name" 10, gd "is_integer" 6, gd "is_number" 7, gd "check_number" 8, md "Sale" "__init__" "Sale.__init__" 14 0, gd "_law_sales" 29, gd "is_row" 11, gd "check_chain" 17, gd "hands_of" 18, md "Sale" "__eq__" "Sale.__eq__" 14 1, md "Even" "__eq__" "Even.__eq__" 15 2, md "Uneven" "__eq__" "Uneven.__eq__" 16 2, gd "_law_those" 30, gd "those_from" 19, gd "bearers" 20, gd "payers" 21, md "Uneven" "__init__" "Uneven.__init__" 16 0, md "Even" "__init__" "Even.__init__" 15 0, gd "judge_chain" 22, md "Even" "shows" "Even.shows" 15 3, md "Uneven" "shows" "Uneven.shows" 16 3, gd "legs_of" 23, gd "mended" 24, gd "law" 31]
def cn : List He.DefD := [md "BadPart" "__init__" "BadPart.__init__" 2 0]
def file : Str := (PySem.Challenge.pw_goodsbypapers_k43_whole_chains_of_sales).main.file
def fa : List He.Fa := [.glo "_law_number", .glo "_law_take", .glo "_law_chain", .glo "is_name", .glo "check_name", .glo "is_integer", .glo "is_number", .glo "check_number", .glo "_law_sales", .glo "is_row", .glo "check_chain", .glo "hands_of", .glo "_law_those", .glo "those_from", .glo "bearers", .glo "payers", .glo "judge_chain", .glo "legs_of", .glo "mended", .glo "law", .glo "Even", .glo "Sale", .glo "Uneven", .glo "BadPart", .free "super", .free "all", .free "any", .free "bool", .free "enumerate", .free "int", .free "isinstance", .free "len", .free "list", .free "max", .free "range", .free "str", .free "tuple", .free "zip", .str "FIGURES" "0123456789", .str "SMALL" "abcdefghijklmnopqrstuvwxyz", .mkr "Even", .mkr "Sale", .mkr "Uneven", .meth "Even" "__bool__", .meth "Uneven" "__bool__", .meth "Sale" "__eq__", .meth "Even" "__eq__", .meth "Uneven" "__eq__", .meth "Even" "shows", .meth "Uneven" "shows"]
def ex (K : PySem.W.Frag) : Bool := DL.cfactsB K 3 && DL.constB K "MOST_LEGS" c_MOST_LEGS && DL.eqsB K ["Sale", "Even", "Uneven"] && DL.excB K "BadPart" ["part", "place"] && DL.cellB K file (md "BadPart" "__init__" "BadPart.__init__" 2 0)
abbrev hk : PySem.W.Hook := DL.hookC 5 fa fn [("law", none)] cn ex
def ob (s : PySem.W.SharedT) : DL.AlC := DL.obsC 5 fa fn [("law", none)] cn ex (HandSHeadRun.getT s)
theorem ob_eq (s : PySem.W.SharedT) : ob s = hk.obs s.abs := DL.obsC_eq (HandSHeadRun.getT_eq s)
def loose : List Str := [("GoodsError" : Str), ("BadPart" : Str), ("is_integer" : Str), ("is_number" : Str), ("check_number" : Str), ("is_name" : Str), ("check_name" : Str), ("is_row" : Str), ("Sale" : Str), ("Even" : Str), ("Uneven" : Str), ("check_chain" : Str), ("hands_of" : Str), ("those_from" : Str), ("bearers" : Str), ("payers" : Str), ("judge_chain" : Str), ("legs_of" : Str), ("mended" : Str), ("_law_number" : Str), ("_law_take" : Str), ("_law_chain" : Str), ("_law_sales" : Str), ("_law_those" : Str), ("FIGURES" : Str), ("MOST_LEGS" : Str), ("SMALL" : Str)]
theorem run (w : World) : HandSHeadRun.RunEq R (PySem.W.view R.prog [31]) hk ob 6000 loose w := by
  intro os
  kernel_rfl
theorem facts {w : World} {K : PySem.W.Frag} {h : Heap} {mg : Str → Option Value} {f : Addr} (X : K.In h) (G : h.Ns mainGlobals mg) (hfa : mg ("law" : Str) = some (.ref f)) (c : DL.SaysC fa fn [("law", none)] cn ex w h K) : LamX.LawAtS PySem.Challenge.rw_goodsbypapers_k43_whole_chains_of_sales w K CX0 10 63 "script" mg f h := by
  have d := c.x.t.d
  have hms := He.free_ok X G (d.fact 24 (f := .free "super") rfl)
  have hm := c.x.more
  simp only [ex, Bool.and_eq_true] at hm
  have cf := cfacts_ok hm.1.1.1.1
  obtain ⟨_, D0⟩ := d.def_ 0 (d := md "Even" "__bool__" "Even.__bool__" 15 1) rfl
  obtain ⟨_, D1⟩ := d.def_ 1 (d := md "Uneven" "__bool__" "Uneven.__bool__" 16 1) rfl
  obtain ⟨_, D2⟩ := d.def_ 2 (d := gd "_law_number" 26) rfl
  obtain ⟨_, D3⟩ := d.def_ 3 (d := gd "_law_take" 27) rfl
  obtain ⟨_, D4⟩ := d.def_ 4 (d := gd "_law_chain" 28) rfl
  obtain ⟨_, D5⟩ := d.def_ 5 (d := gd "is_name" 9) rfl
  obtain ⟨_, D6⟩ := d.def_ 6 (d := gd "check_name" 10) rfl
  obtain ⟨_, D7⟩ := d.def_ 7 (d := gd "is_integer" 6) rfl
  obtain ⟨_, D8⟩ := d.def_ 8 (d := gd "is_number" 7) rfl
  obtain ⟨_, D9⟩ := d.def_ 9 (d := gd "check_number" 8) rfl
  obtain ⟨_, D10⟩ := d.def_ 10 (d := md "Sale" "__init__" "Sale.__init__" 14 0) rfl
  obtain ⟨_, D11⟩ := d.def_ 11 (d := gd "_law_sales" 29) rfl
  obtain ⟨_, D12⟩ := d.def_ 12 (d := gd "is_row" 11) rfl
  obtain ⟨_, D13⟩ := d.def_ 13 (d := gd "check_chain" 17) rfl
  obtain ⟨_, D14⟩ := d.def_ 14 (d := gd "hands_of" 18) rfl
  obtain ⟨_, D15⟩ := d.def_ 15 (d := md "Sale" "__eq__" "Sale.__eq__" 14 1) rfl
  obtain ⟨_, D16⟩ := d.def_ 16 (d := md "Even" "__eq__" "Even.__eq__" 15 2) rfl
  obtain ⟨_, D17⟩ := d.def_ 17 (d := md "Uneven" "__eq__" "Uneven.__eq__" 16 2) rfl
  obtain ⟨_, D18⟩ := d.def_ 18 (d := gd "_law_those" 30) rfl
  obtain ⟨_, D19⟩ := d.def_ 19 (d := gd "those_from" 19) rfl
  obtain ⟨_, D20⟩ := d.def_ 20 (d := gd "bearers" 20) rfl
  obtain ⟨_, D21⟩ := d.def_ 21 (d := gd "payers" 21) rfl
  obtain ⟨_, D22⟩ := d.def_ 22 (d := md "Uneven" "__init__" "Uneven.__init__" 16 0) rfl
  obtain ⟨_, D23⟩ := d.def_ 23 (d := md "Even" "__init__" "Even.__init__" 15 0) rfl
  obtain ⟨_, D24⟩ := d.def_ 24 (d := gd "judge_chain" 22) rfl
  obtain ⟨_, D25⟩ := d.def_ 25 (d := md "Even" "shows" "Even.shows" 15 3) rfl
  obtain ⟨_, D26⟩ := d.def_ 26 (d := md "Uneven" "shows" "Uneven.shows" 16 3) rfl
  obtain ⟨_, D27⟩ := d.def_ 27 (d := gd "legs_of" 23) rfl
  obtain ⟨_, D28⟩ := d.def_ 28 (d := gd "mended" 24) rfl
  obtain ⟨_, D29⟩ := d.def_ 29 (d := gd "law" 31) rfl
  have e := hfa.symm.trans (He.glo_ok X G (d.fact 19 (f := .glo "law") rfl))
  cases e
  have b : B K mg := ⟨He.free_ok X G (d.fact 25 (f := .free "all") rfl),
    He.free_ok X G (d.fact 26 (f := .free "any") rfl),
    He.free_ok X G (d.fact 27 (f := .free "bool") rfl),
    He.free_ok X G (d.fact 28 (f := .free "enumerate") rfl),
    He.free_ok X G (d.fact 29 (f := .free "int") rfl),
    He.free_ok X G (d.fact 30 (f := .free "isinstance") rfl),
    He.free_ok X G (d.fact 31 (f := .free "len") rfl),
    He.free_ok X G (d.fact 32 (f := .free "list") rfl),
    He.free_ok X G (d.fact 33 (f := .free "max") rfl),
    He.free_ok X G (d.fact 34 (f := .free "range") rfl),
    He.free_ok X G (d.fact 35 (f := .free "str") rfl),
    He.free_ok X G (d.fact 36 (f := .free "tuple") rfl),
    He.free_ok X G (d.fact 37 (f := .free "zip") rfl),
    He.glo_ok X G (d.fact 20 (f := .glo "Even") rfl),
    He.glo_ok X G (d.fact 21 (f := .glo "Sale") rfl),
    He.glo_ok X G (d.fact 22 (f := .glo "Uneven") rfl),
    (let ⟨t, e⟩ := He.str_ok X G (d.fact 38 (f := .str "FIGURES" "0123456789") rfl); ⟨(.str "0123456789", .str "0123456789" t), e, ⟨t, rfl⟩, fun _ _ => rfl⟩),
    DL.const_ok X G hm.1.1.1.2,
    (let ⟨t, e⟩ := He.str_ok X G (d.fact 39 (f := .str "SMALL" "abcdefghijklmnopqrstuvwxyz") rfl); ⟨(.str "abcdefghijklmnopqrstuvwxyz", .str "abcdefghijklmnopqrstuvwxyz" t), e, ⟨t, rfl⟩, fun _ _ => rfl⟩)⟩
  refine DL.lawAt_of X c (fun s v => FunD.bindsA (ps := ["script"]) D29 (fun _ _ _ _ _ _ us hl => match us, hl with | [_], _ => rfl) s [v] rfl) fun base TB => ?_
  have X_BadPart := DL.excB_ok hm.1.2
  obtain ⟨_, C_BadPart⟩ := DL.funC_of (P := (PySem.Challenge.rw_goodsbypapers_k43_whole_chains_of_sales).prog) (c.def_ 0 (d := md "BadPart" "__init__" "BadPart.__init__" 2 0) rfl) hm.2 rfl (by kernel_rfl)
  have r_BadPart : Raiser (PySem.Challenge.rw_goodsbypapers_k43_whole_chains_of_sales).prog w K mg base 3 2 := DL.raiser_of X_BadPart rfl rfl (k_BadPart C_BadPart X_BadPart hms) (n_BadPart C_BadPart) (He.glo_ok X G (d.fact 23 (f := .glo "BadPart") rfl))
  have t_BadPart : Catch K mg 3 "part" "place" := DL.catch_of X_BadPart rfl (by decide) (He.glo_ok X G (d.fact 23 (f := .glo "BadPart") rfl))
  have hbs : ∀ q ∈ bs, Booler (PySem.Challenge.rw_goodsbypapers_k43_whole_chains_of_sales).prog w K mg base CX0 1 q.1 q.2 := List.forall_mem_cons.mpr ⟨⟨_, _, _, (He.meth_ok (d.fact 43 (f := .meth "Even" "__bool__") rfl)).at_, (He.meth_ok (d.fact 43 (f := .meth "Even" "__bool__") rfl)).fn, k_Even_bool b cf D0, n_Even_bool D0⟩, List.forall_mem_cons.mpr ⟨⟨_, _, _, (He.meth_ok (d.fact 44 (f := .meth "Uneven" "__bool__") rfl)).at_, (He.meth_ok (d.fact 44 (f := .meth "Uneven" "__bool__") rfl)).fn, k_Uneven_bool b cf D1, n_Uneven_bool D1⟩, fun _ z => by cases z⟩⟩
  have h_law_number : Callee (PySem.Challenge.rw_goodsbypapers_k43_whole_chains_of_sales).prog w K mg base CX0 1 "_law_number" 2 F_law_number := ⟨_, _, _, k_law_number b cf D2, He.glo_ok X G (d.fact 0 (f := .glo "_law_number") rfl), D2.kp, n_law_number D2, rfl⟩
  have h_law_take : Callee (PySem.Challenge.rw_goodsbypapers_k43_whole_chains_of_sales).prog w K mg base CX0 2 "_law_take" 2 F_law_take := ⟨_, _, _, k_law_take b cf h_law_number D3, He.glo_ok X G (d.fact 1 (f := .glo "_law_take") rfl), D3.kp, n_law_take D3, rfl⟩
  have h_law_chain : Callee (PySem.Challenge.rw_goodsbypapers_k43_whole_chains_of_sales).prog w K mg base CX0 3 "_law_chain" 1 F_law_chain := ⟨_, _, _, k_law_chain b cf h_law_take D4, He.glo_ok X G (d.fact 2 (f := .glo "_law_chain") rfl), D4.kp, n_law_chain D4, rfl⟩
  have h_is_name : Callee (PySem.Challenge.rw_goodsbypapers_k43_whole_chains_of_sales).prog w K mg base CX0 1 "is_name" 1 F_is_name := ⟨_, _, _, k_is_name b cf D5, He.glo_ok X G (d.fact 3 (f := .glo "is_name") rfl), D5.kp, n_is_name D5, rfl⟩
  have x_check_name : Callee (PySem.Challenge.rw_goodsbypapers_k43_whole_chains_of_sales).prog w K mg base (L2.CX (PySem.Challenge.rw_goodsbypapers_k43_whole_chains_of_sales).prog w) 3 "check_name" 2 X_check_name := ⟨_, _, _, k_check_name b cf h_is_name r_BadPart D6, He.glo_ok X G (d.fact 4 (f := .glo "check_name") rfl), D6.kp, n_check_name D6, rfl⟩
  have h_check_name : Callee (PySem.Challenge.rw_goodsbypapers_k43_whole_chains_of_sales).prog w K mg base CX0 3 "check_name" 2 F_check_name := ⟨_, _, _, fn_nox (k_check_name b cf h_is_name r_BadPart D6), He.glo_ok X G (d.fact 4 (f := .glo "check_name") rfl), D6.kp, n_check_name D6, rfl⟩
  have h_is_integer : Callee (PySem.Challenge.rw_goodsbypapers_k43_whole_chains_of_sales).prog w K mg base CX0 1 "is_integer" 1 F_is_integer := ⟨_, _, _, k_is_integer b cf D7, He.glo_ok X G (d.fact 5 (f := .glo "is_integer") rfl), D7.kp, n_is_integer D7, rfl⟩
  have h_is_number : Callee (PySem.Challenge.rw_goodsbypapers_k43_whole_chains_of_sales).prog w K mg base CX0 2 "is_number" 3 F_is_number := ⟨_, _, _, k_is_number b cf h_is_integer D8, He.glo_ok X G (d.fact 6 (f := .glo "is_number") rfl), D8.kp, n_is_number D8, rfl⟩
  have x_check_number : Callee (PySem.Challenge.rw_goodsbypapers_k43_whole_chains_of_sales).prog w K mg base (L2.CX (PySem.Challenge.rw_goodsbypapers_k43_whole_chains_of_sales).prog w) 3 "check_number" 4 X_check_number := ⟨_, _, _, k_check_number b cf h_is_number r_BadPart D9, He.glo_ok X G (d.fact 7 (f := .glo "check_number") rfl), D9.kp, n_check_number D9, rfl⟩
  have h_check_number : Callee (PySem.Challenge.rw_goodsbypapers_k43_whole_chains_of_sales).prog w K mg base CX0 3 "check_number" 4 F_check_number := ⟨_, _, _, fn_nox (k_check_number b cf h_is_number r_BadPart D9), He.glo_ok X G (d.fact 7 (f := .glo "check_number") rfl), D9.kp, n_check_number D9, rfl⟩
  have x_Sale_init : Maker (PySem.Challenge.rw_goodsbypapers_k43_whole_chains_of_sales).prog w K mg base (L2.CX (PySem.Challenge.rw_goodsbypapers_k43_whole_chains_of_sales).prog w) 4 "Sale" 4 0 X_Sale_init := ⟨rfl, He.glo_ok X G (d.fact 21 (f := .glo "Sale") rfl), _, _, _, He.mkr_ok (d.fact 41 (f := .mkr "Sale") rfl), k_Sale_init b cf x_check_name x_check_number D10, n_Sale_init D10, rfl⟩
  have h_Sale_init : Maker (PySem.Challenge.rw_goodsbypapers_k43_whole_chains_of_sales).prog w K mg base CX0 4 "Sale" 4 0 F_Sale_init := ⟨rfl, He.glo_ok X G (d.fact 21 (f := .glo "Sale") rfl), _, _, _, He.mkr_ok (d.fact 41 (f := .mkr "Sale") rfl), fn_nox (k_Sale_init b cf x_check_name x_check_number D10), n_Sale_init D10, rfl⟩
  have h_law_sales : Callee (PySem.Challenge.rw_goodsbypapers_k43_whole_chains_of_sales).prog w K mg base CX0 6 "_law_sales" 1 F_law_sales := ⟨_, _, _, k_law_sales b cf h_Sale_init D11, He.glo_ok X G (d.fact 8 (f := .glo "_law_sales") rfl), D11.kp, n_law_sales D11, rfl⟩
  have h_is_row : Callee (PySem.Challenge.rw_goodsbypapers_k43_whole_chains_of_sales).prog w K mg base CX0 1 "is_row" 1 F_is_row := ⟨_, _, _, k_is_row b cf D12, He.glo_ok X G (d.fact 9 (f := .glo "is_row") rfl), D12.kp, n_is_row D12, rfl⟩
  have x_check_chain : Callee (PySem.Challenge.rw_goodsbypapers_k43_whole_chains_of_sales).prog w K mg base (L2.CX (PySem.Challenge.rw_goodsbypapers_k43_whole_chains_of_sales).prog w) 4 "check_chain" 3 X_check_chain := ⟨_, _, _, k_check_chain b cf h_is_row r_BadPart x_check_name x_check_number D13, He.glo_ok X G (d.fact 10 (f := .glo "check_chain") rfl), D13.kp, n_check_chain D13, rfl⟩
  have h_check_chain : Callee (PySem.Challenge.rw_goodsbypapers_k43_whole_chains_of_sales).prog w K mg base CX0 4 "check_chain" 3 F_check_chain := ⟨_, _, _, fn_nox (k_check_chain b cf h_is_row r_BadPart x_check_name x_check_number D13), He.glo_ok X G (d.fact 10 (f := .glo "check_chain") rfl), D13.kp, n_check_chain D13, rfl⟩
  have x_hands_of : Callee (PySem.Challenge.rw_goodsbypapers_k43_whole_chains_of_sales).prog w K mg base (L2.CX (PySem.Challenge.rw_goodsbypapers_k43_whole_chains_of_sales).prog w) 5 "hands_of" 2 X_hands_of := ⟨_, _, _, k_hands_of b cf x_check_chain D14, He.glo_ok X G (d.fact 11 (f := .glo "hands_of") rfl), D14.kp, n_hands_of D14, rfl⟩
  have h_hands_of : Callee (PySem.Challenge.rw_goodsbypapers_k43_whole_chains_of_sales).prog w K mg base CX0 5 "hands_of" 2 F_hands_of := ⟨_, _, _, fn_nox (k_hands_of b cf x_check_chain D14), He.glo_ok X G (d.fact 11 (f := .glo "hands_of") rfl), D14.kp, n_hands_of D14, rfl⟩
  have he_eq : ∀ q ∈ gs_eq, Eqer (PySem.Challenge.rw_goodsbypapers_k43_whole_chains_of_sales).prog w K mg base CX0 1 q.1 q.2 := List.forall_mem_cons.mpr ⟨⟨⟨_, _, _, (He.meth_ok (d.fact 45 (f := .meth "Sale" "__eq__") rfl)).at_, (He.meth_ok (d.fact 45 (f := .meth "Sale" "__eq__") rfl)).fn, FnOk.mono (k_Sale_eq b cf D15) (by decide), n_Sale_eq D15⟩, (DL.eqsB_ok hm.1.1.2 (x := "Sale") (by simp)).1, (DL.eqsB_ok hm.1.1.2 (x := "Sale") (by simp)).2.1⟩, List.forall_mem_cons.mpr ⟨⟨⟨_, _, _, (He.meth_ok (d.fact 46 (f := .meth "Even" "__eq__") rfl)).at_, (He.meth_ok (d.fact 46 (f := .meth "Even" "__eq__") rfl)).fn, FnOk.mono (k_Even_eq b cf D16) (by decide), n_Even_eq D16⟩, (DL.eqsB_ok hm.1.1.2 (x := "Even") (by simp)).1, (DL.eqsB_ok hm.1.1.2 (x := "Even") (by simp)).2.1⟩, List.forall_mem_cons.mpr ⟨⟨⟨_, _, _, (He.meth_ok (d.fact 47 (f := .meth "Uneven" "__eq__") rfl)).at_, (He.meth_ok (d.fact 47 (f := .meth "Uneven" "__eq__") rfl)).fn, FnOk.mono (k_Uneven_eq b cf D17) (by decide), n_Uneven_eq D17⟩, (DL.eqsB_ok hm.1.1.2 (x := "Uneven") (by simp)).1, (DL.eqsB_ok hm.1.1.2 (x := "Uneven") (by simp)).2.1⟩, fun _ z => by cases z⟩⟩⟩
  have hn_eq : ∀ q ∈ gs_eq, ∀ q' ∈ gs_eq, PySem.W.notFirst K (He.ga K (cN q.1)) (.ref (He.ga K (cN q'.1))) = true := List.forall_mem_cons.mpr ⟨List.forall_mem_cons.mpr ⟨(DL.eqsB_ok hm.1.1.2 (x := "Sale") (by simp)).2.2 "Sale" (by simp), List.forall_mem_cons.mpr ⟨(DL.eqsB_ok hm.1.1.2 (x := "Sale") (by simp)).2.2 "Even" (by simp), List.forall_mem_cons.mpr ⟨(DL.eqsB_ok hm.1.1.2 (x := "Sale") (by simp)).2.2 "Uneven" (by simp), fun _ z => by cases z⟩⟩⟩, List.forall_mem_cons.mpr ⟨List.forall_mem_cons.mpr ⟨(DL.eqsB_ok hm.1.1.2 (x := "Even") (by simp)).2.2 "Sale" (by simp), List.forall_mem_cons.mpr ⟨(DL.eqsB_ok hm.1.1.2 (x := "Even") (by simp)).2.2 "Even" (by simp), List.forall_mem_cons.mpr ⟨(DL.eqsB_ok hm.1.1.2 (x := "Even") (by simp)).2.2 "Uneven" (by simp), fun _ z => by cases z⟩⟩⟩, List.forall_mem_cons.mpr ⟨List.forall_mem_cons.mpr ⟨(DL.eqsB_ok hm.1.1.2 (x := "Uneven") (by simp)).2.2 "Sale" (by simp), List.forall_mem_cons.mpr ⟨(DL.eqsB_ok hm.1.1.2 (x := "Uneven") (by simp)).2.2 "Even" (by simp), List.forall_mem_cons.mpr ⟨(DL.eqsB_ok hm.1.1.2 (x := "Uneven") (by simp)).2.2 "Uneven" (by simp), fun _ z => by cases z⟩⟩⟩, fun _ z => by cases z⟩⟩⟩
  have h_law_those : Callee (PySem.Challenge.rw_goodsbypapers_k43_whole_chains_of_sales).prog w K mg base CX0 1 "_law_those" 3 F_law_those := ⟨_, _, _, k_law_those b cf D18, He.glo_ok X G (d.fact 12 (f := .glo "_law_those") rfl), D18.kp, n_law_those D18, rfl⟩
  have h_those_from : Callee (PySem.Challenge.rw_goodsbypapers_k43_whole_chains_of_sales).prog w K mg base CX0 1 "those_from" 3 F_those_from := ⟨_, _, _, k_those_from b cf D19, He.glo_ok X G (d.fact 13 (f := .glo "those_from") rfl), D19.kp, n_those_from D19, rfl⟩
  have x_bearers : Callee (PySem.Challenge.rw_goodsbypapers_k43_whole_chains_of_sales).prog w K mg base (L2.CX (PySem.Challenge.rw_goodsbypapers_k43_whole_chains_of_sales).prog w) 6 "bearers" 3 X_bearers := ⟨_, _, _, k_bearers b cf h_those_from x_check_number x_hands_of D20, He.glo_ok X G (d.fact 14 (f := .glo "bearers") rfl), D20.kp, n_bearers D20, rfl⟩
  have h_bearers : Callee (PySem.Challenge.rw_goodsbypapers_k43_whole_chains_of_sales).prog w K mg base CX0 6 "bearers" 3 F_bearers := ⟨_, _, _, fn_nox (k_bearers b cf h_those_from x_check_number x_hands_of D20), He.glo_ok X G (d.fact 14 (f := .glo "bearers") rfl), D20.kp, n_bearers D20, rfl⟩
  have h_payers : Callee (PySem.Challenge.rw_goodsbypapers_k43_whole_chains_of_sales).prog w K mg base CX0 6 "payers" 3 F_payers := ⟨_, _, _, k_payers b cf h_check_number h_hands_of h_those_from D21, He.glo_ok X G (d.fact 15 (f := .glo "payers") rfl), D21.kp, n_payers D21, rfl⟩
  have h_Uneven_init : Maker (PySem.Challenge.rw_goodsbypapers_k43_whole_chains_of_sales).prog w K mg base CX0 2 "Uneven" 2 2 F_Uneven_init := ⟨rfl, He.glo_ok X G (d.fact 22 (f := .glo "Uneven") rfl), _, _, _, He.mkr_ok (d.fact 42 (f := .mkr "Uneven") rfl), k_Uneven_init b cf h_is_row D22, n_Uneven_init D22, rfl⟩
  have h_Even_init : Maker (PySem.Challenge.rw_goodsbypapers_k43_whole_chains_of_sales).prog w K mg base CX0 2 "Even" 1 1 F_Even_init := ⟨rfl, He.glo_ok X G (d.fact 20 (f := .glo "Even") rfl), _, _, _, He.mkr_ok (d.fact 40 (f := .mkr "Even") rfl), k_Even_init b cf h_is_row D23, n_Even_init D23, rfl⟩
  have x_judge_chain : Callee (PySem.Challenge.rw_goodsbypapers_k43_whole_chains_of_sales).prog w K mg base (L2.CX (PySem.Challenge.rw_goodsbypapers_k43_whole_chains_of_sales).prog w) 7 "judge_chain" 3 X_judge_chain := ⟨_, _, _, k_judge_chain b cf h_bearers h_Even_init h_Uneven_init x_check_chain D24, He.glo_ok X G (d.fact 16 (f := .glo "judge_chain") rfl), D24.kp, n_judge_chain D24, rfl⟩
  have h_judge_chain : Callee (PySem.Challenge.rw_goodsbypapers_k43_whole_chains_of_sales).prog w K mg base CX0 7 "judge_chain" 3 F_judge_chain := ⟨_, _, _, fn_nox (k_judge_chain b cf h_bearers h_Even_init h_Uneven_init x_check_chain D24), He.glo_ok X G (d.fact 16 (f := .glo "judge_chain") rfl), D24.kp, n_judge_chain D24, rfl⟩
  have hm_shows : ∀ q ∈ gs_shows, Method (PySem.Challenge.rw_goodsbypapers_k43_whole_chains_of_sales).prog w K mg base CX0 8 "shows" 3 q.1 q.2 := List.forall_mem_cons.mpr ⟨⟨(cf.cls 1 (by decide)).cl, by decide, _, _, _, He.meth_ok (d.fact 48 (f := .meth "Even" "shows") rfl), FnOk.mono (k_Even_shows b cf h_judge_chain he_eq hn_eq D25) (by decide), n_Even_shows D25, rfl⟩, List.forall_mem_cons.mpr ⟨⟨(cf.cls 2 (by decide)).cl, by decide, _, _, _, He.meth_ok (d.fact 49 (f := .meth "Uneven" "shows") rfl), FnOk.mono (k_Uneven_shows b cf h_bearers h_check_chain h_is_number D26) (by decide), n_Uneven_shows D26, rfl⟩, fun _ z => by cases z⟩⟩
  have x_legs_of : Callee (PySem.Challenge.rw_goodsbypapers_k43_whole_chains_of_sales).prog w K mg base (L2.CX (PySem.Challenge.rw_goodsbypapers_k43_whole_chains_of_sales).prog w) 7 "legs_of" 4 X_legs_of := ⟨_, _, _, k_legs_of b cf h_bearers r_BadPart x_check_chain x_hands_of D27, He.glo_ok X G (d.fact 17 (f := .glo "legs_of") rfl), D27.kp, n_legs_of D27, rfl⟩
  have h_legs_of : Callee (PySem.Challenge.rw_goodsbypapers_k43_whole_chains_of_sales).prog w K mg base CX0 7 "legs_of" 4 F_legs_of := ⟨_, _, _, fn_nox (k_legs_of b cf h_bearers r_BadPart x_check_chain x_hands_of D27), He.glo_ok X G (d.fact 17 (f := .glo "legs_of") rfl), D27.kp, n_legs_of D27, rfl⟩
  have h_mended : Callee (PySem.Challenge.rw_goodsbypapers_k43_whole_chains_of_sales).prog w K mg base CX0 6 "mended" 2 F_mended := ⟨_, _, _, k_mended b cf h_check_chain h_Sale_init D28, He.glo_ok X G (d.fact 18 (f := .glo "mended") rfl), D28.kp, n_mended D28, rfl⟩
  exact k_law b cf hbs h_law_chain h_law_sales h_law_take h_law_those h_bearers h_hands_of h_judge_chain h_legs_of h_mended h_payers t_BadPart he_eq hn_eq hm_shows h_Even_init h_Sale_init h_Uneven_init x_bearers x_judge_chain x_legs_of x_Sale_init D29 (DL.funD_code D29) TB plain
end T43
open PySem PySem.W PySem.Calls PyProof.Rows
theorem PySem.Challenge.cw_goodsbypapers_k43_whole_chains_of_sales_holds : PySem.Challenge.rw_goodsbypapers_k43_whole_chains_of_sales.Holds := by
  w_on; o_law
  refine HandSHeadRun.head_any (r := OpenLaw.row PySem.Challenge.rw_goodsbypapers_k43_whole_chains_of_sales) (q := view (OpenLaw.row PySem.Challenge.rw_goodsbypapers_k43_whole_chains_of_sales).prog [31]) (H := T43.hk) (ob := T43.ob) (M := 6000) (loose := T43.loose) (d := HandSHeadRun.topDef (OpenLaw.row PySem.Challenge.rw_goodsbypapers_k43_whole_chains_of_sales).prog 31) (kwd := []) T43.ob_eq
    (by kernel_rfl) (fun s => by kernel_rfl) T43.run (by kernel_rfl) (by kernel_rfl) (by kernel_rfl) (by rfl) (by first | assumption | decide +kernel) (by decide +kernel) ⟨rfl, rfl, rfl, rfl, rfl, by decide +kernel⟩ ?hw ?hc
  case hw => w_witness2
  case hc =>
    refine DL.walk_ofTE (l := PySem.Challenge.rw_goodsbypapers_k43_whole_chains_of_sales) (n := 63) (k := 10) (x := "script") rfl (by decide) (by kernel_rfl) ⟨rfl, by decide, by decide⟩ ?F
    intro w mg fa h Y G hmg0
    obtain ⟨K, KX, c⟩ := Y
    have hmg : mg ("law" : PySem.Str) = some (.ref fa) := by
      have e : (HandSHeadRun.topDef (OpenLaw.row PySem.Challenge.rw_goodsbypapers_k43_whole_chains_of_sales).prog 31).name = ("law" : PySem.Str) := by kernel_rfl
      rw [← e]
      exact hmg0
    exact ⟨K, KX, T43.facts KX G hmg c⟩
