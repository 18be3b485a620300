import PyProof.Rows.All
import Wide.All
import OpenK.AllK
import Wide.FinOn
import KE.KStateDown
import Lean
import HandS.ForMost
import HandS.More
import HandS.Star
import HandS.Style
import HandS.IsInst
import HandS.Zip
import HandS.Walk
import HandS.Conv
import HandS.SortInts
import HandS.Flow
import HandS.Defaults
import HandS.Head0
import HandS.Head1
import HandS.Head2
import HandS.HeadEnd
import HandS.HeadHook1
import HandS.HeadHook2
import HandS.HeadHook3
import HandS.Deep
import HandS.TupAny
import HandS.EndBits
import HandS.OwnEq
import HandS.Records
import HandS.Small
import HandS.DictComp
import HandS.Exc
import HandS.Strs
import HandS.Sort
import PyProof.ListRange
import HandS.Iter
import KE.GoesEnum
import HandS.HeadHook4
import PySem.Challenge.RW_goodsbypapers_k38_across_checks_and_days
set_option Elab.async false
set_option linter.all false
set_option maxRecDepth 100000
set_option maxHeartbeats 4000000
/-! DL: a layer of plain data over HandS. A def's meaning is a function of plain data (D); each construct has one rule. -/
namespace DL
open PySem PySem.Spec PyProof.Rows L2
/-- the program's classes: a name, the fields in the order in which __init__ stores them -/
class CTab where
  ct : Nat → Str × List Str
def cN [CTab] (c : Nat) : Str := (CTab.ct c).1
def cF [CTab] (c : Nat) : List Str := (CTab.ct c).2
/-- plain data -/
inductive D where
  | non
  | bl (b : Bool)
  | int (i : Int)
  | str (x : Str)
  | lst (l : List D)
  | tup (l : List D)
  | dct (ks : List Key) (l : List D)
  | ob (c : Nat) (l : List D)
  /-- a list that is read alone: the script, a list of the module -/
  | rol (l : List D)
/-- what may be changed, in one def's own hands -/
inductive Ct where
  | lst (l : List D)
  | dct (ks : List Key) (l : List D)
  | ob (c : Nat) (l : List D)
def Ct.toD : Ct → D
  | .lst l => .lst l
  | .dct ks l => .dct ks l
  | .ob c l => .ob c l
/-- a slot: data; a thing of this def's own; a thing handed in to be changed -/
inductive W where
  | val (d : D)
  | own (c : Ct)
  | inn (c : Ct)
abbrev Env := List (Option W)
/-- how a run ends: it is not told; a value and the slots; an exception -/
inductive Res (α : Type) where
  | fail
  | ok (a : α) (r : Env)
  | exc (c : Nat) (l : List D) (r : Env)
/-- the flow of statements -/
inductive Fl where
  | nx
  | bk
  | ct
  | rt (d : D)
abbrev M (α : Type) := Env → Res α
def bindR {α β : Type} (r : Res α) (k : α → Env → Res β) : Res β :=
  match r with
  | .fail => .fail
  | .ok a e => k a e
  | .exc c l e => .exc c l e
@[simp] theorem bindR_ok {α β : Type} (a : α) (e : Env) (k : α → Env → Res β) : bindR (.ok a e) k = k a e := rfl
@[simp] theorem bindR_fail {α β : Type} (k : α → Env → Res β) : bindR .fail k = .fail := rfl
@[simp] theorem bindR_exc {α β : Type} (c : Nat) (l : List D) (e : Env) (k : α → Env → Res β) : bindR (.exc c l e) k = .exc c l e := rfl
def liftO {α : Type} (o : Option α) (e : Env) : Res α :=
  match o with
  | some a => .ok a e
  | none => .fail
@[simp] theorem liftO_some {α : Type} (a : α) (e : Env) : liftO (some a) e = .ok a e := rfl
@[simp] theorem liftO_none {α : Type} (e : Env) : liftO (none : Option α) e = .fail := rfl
/-! ### what stands in the heap -/
/-- a list of the written part -/
def KLst (K : PySem.W.Frag) (a : Addr) (xs : List V) : Prop :=
  ∃ (o : Obj) (its : Array Value) (n : Nat), K.lookup a = some o ∧ o.cls = .type "list" ∧ o.dict = none ∧ o.data = .seq its n ∧ its.size ≤ sizeLine ∧ Vals xs its.toList
def KTup (K : PySem.W.Frag) (a : Addr) (xs : List V) : Prop :=
  ∃ (o : Obj) (its : Array Value) (n : Nat), K.lookup a = some o ∧ o.cls = .type "tuple" ∧ o.data = .seq its n ∧ its.size ≤ sizeLine ∧ Vals xs its.toList
def RolAt (K : PySem.W.Frag) (H : Hp) (Z : Addr → Prop) (a : Addr) (xs : List V) : Prop := (¬ Z a ∧ Rd H a (.lst xs)) ∨ KLst K a xs
def TupAt (K : PySem.W.Frag) (H : Hp) (Z : Addr → Prop) (a : Addr) (xs : List V) : Prop := (¬ Z a ∧ Rd H a (.tup xs)) ∨ KTup K a xs
theorem RolAt.sq {K : PySem.W.Frag} {H : Hp} {Z : Addr → Prop} {a : Addr} {xs : List V} (h : RolAt K H Z a xs) : SqL K H a xs := h.elim (fun z => .inl z.2) .inr
theorem TupAt.sq {K : PySem.W.Frag} {H : Hp} {Z : Addr → Prop} {a : Addr} {xs : List V} (h : TupAt K H Z a xs) : SqT K H a xs := h.elim (fun z => .inl z.2) .inr
def LstAt (H : Hp) (Z : Addr → Prop) (a : Addr) (xs : List V) : Prop := ¬ Z a ∧ Rd H a (.lst xs)
theorem LstAt.sq {K : PySem.W.Frag} {H : Hp} {Z : Addr → Prop} {a : Addr} {xs : List V} (h : LstAt H Z a xs) : SqL K H a xs := .inl h.2
section
variable [CTab]
mutual
def Rep (K : PySem.W.Frag) (H : Hp) (Z : Addr → Prop) : D → V → Prop
  | .non, v => v = .non
  | .bl b, v => v = .bl b
  | .int i, v => v = .int i
  | .str x, v => v = .str x
  | .lst l, v => ∃ p vs, v = .ref p ∧ LstAt H Z p vs ∧ Reps K H Z l vs
  | .rol l, v => ∃ p vs, v = .ref p ∧ RolAt K H Z p vs ∧ Reps K H Z l vs
  | .tup l, v => ∃ p vs, v = .ref p ∧ TupAt K H Z p vs ∧ Reps K H Z l vs
  | .dct ks l, v => ∃ p vs, v = .ref p ∧ ¬ Z p ∧ Rd H p (.dK (ks.zip vs)) ∧ ks.length = vs.length ∧ Reps K H Z l vs
  | .ob c l, v => ∃ p dx vs, v = .ref p ∧ ¬ Z p ∧ H p = some (.ins (He.ga K (cN c)) dx ((cF c).zip vs)) ∧ vs.length ≤ (cF c).length ∧ Reps K H Z l vs
def Reps (K : PySem.W.Frag) (H : Hp) (Z : Addr → Prop) : List D → List V → Prop
  | [], vs => vs = []
  | d :: l, vs => ∃ v r, vs = v :: r ∧ Rep K H Z d v ∧ Reps K H Z l r
end
def CtHO (K : PySem.W.Frag) (H : Hp) (Z : Addr → Prop) : Ct → HO → Prop
  | .lst l, o => ∃ vs, o = .lst vs ∧ Reps K H Z l vs
  | .dct ks l, o => ∃ vs, o = .dK (ks.zip vs) ∧ ks.length = vs.length ∧ Reps K H Z l vs
  | .ob c l, o => ∃ dx vs, o = .ins (He.ga K (cN c)) dx ((cF c).zip vs) ∧ vs.length ≤ (cF c).length ∧ Reps K H Z l vs
def RepC (K : PySem.W.Frag) (H : Hp) (Z : Addr → Prop) (t : Ct) (p : Addr) : Prop := ∃ o, H p = some o ∧ CtHO K H Z t o
end
/-- but for what is at Z all is as it was -/
def Ext (Z : Addr → Prop) (H H' : Hp) : Prop := ∀ a o, ¬ Z a → H a = some o → H' a = some o
theorem Ext.refl {Z : Addr → Prop} {H : Hp} : Ext Z H H := fun _ _ _ h => h
theorem Ext.trans {Z : Addr → Prop} {H H1 H2 : Hp} (a : Ext Z H H1) (b : Ext Z H1 H2) : Ext Z H H2 := fun x o n h => b x o n (a x o n h)
theorem Ext.same {Z : Addr → Prop} {H H' : Hp} (s : Same H H') : Ext Z H H' := fun a o _ h => s a o h
theorem Rd.ext {Z : Addr → Prop} {H H' : Hp} {a : Addr} {u : HO} (e : Ext Z H H') (n : ¬ Z a) (h : Rd H a u) : Rd H' a u := h.elim (fun z => .inl (e _ _ n z)) fun ⟨o, z⟩ => .inr ⟨o, e _ _ n z⟩
section
variable [CTab] {K : PySem.W.Frag} {H H' : Hp} {Z Z' : Addr → Prop}
theorem LstAt.ext {a : Addr} {xs : List V} (e : Ext Z H H') (h : LstAt H Z a xs) : LstAt H' Z a xs := ⟨h.1, Rd.ext e h.1 h.2⟩
theorem RolAt.ext {a : Addr} {xs : List V} (e : Ext Z H H') (h : RolAt K H Z a xs) : RolAt K H' Z a xs := h.elim (fun z => .inl ⟨z.1, Rd.ext e z.1 z.2⟩) .inr
theorem TupAt.ext {a : Addr} {xs : List V} (e : Ext Z H H') (h : TupAt K H Z a xs) : TupAt K H' Z a xs := h.elim (fun z => .inl ⟨z.1, Rd.ext e z.1 z.2⟩) .inr
mutual
theorem Rep.ext (e : Ext Z H H') : ∀ (d : D) (v : V), Rep K H Z d v → Rep K H' Z d v
  | .non, _, h => h
  | .bl _, _, h => h
  | .int _, _, h => h
  | .str _, _, h => h
  | .lst l, v, h => by
    simp only [Rep] at h ⊢
    obtain ⟨p, vs, e1, h1, h2⟩ := h
    exact ⟨p, vs, e1, h1.ext e, Reps.ext e l vs h2⟩
  | .rol l, v, h => by
    simp only [Rep] at h ⊢
    obtain ⟨p, vs, e1, h1, h2⟩ := h
    exact ⟨p, vs, e1, h1.ext e, Reps.ext e l vs h2⟩
  | .tup l, v, h => by
    simp only [Rep] at h ⊢
    obtain ⟨p, vs, e1, h1, h2⟩ := h
    exact ⟨p, vs, e1, h1.ext e, Reps.ext e l vs h2⟩
  | .dct ks l, v, h => by
    simp only [Rep] at h ⊢
    obtain ⟨p, vs, e1, n, h1, hl, h2⟩ := h
    exact ⟨p, vs, e1, n, Rd.ext e n h1, hl, Reps.ext e l vs h2⟩
  | .ob c l, v, h => by
    simp only [Rep] at h ⊢
    obtain ⟨p, dx, vs, e1, n, h1, hl, h2⟩ := h
    exact ⟨p, dx, vs, e1, n, e _ _ n h1, hl, Reps.ext e l vs h2⟩
theorem Reps.ext (e : Ext Z H H') : ∀ (l : List D) (vs : List V), Reps K H Z l vs → Reps K H' Z l vs
  | [], _, h => h
  | d :: l, vs, h => by
    simp only [Reps] at h ⊢
    obtain ⟨v, r, e1, h1, h2⟩ := h
    exact ⟨v, r, e1, Rep.ext e d v h1, Reps.ext e l r h2⟩
end
/- other addresses that may be changed, none of them met by the data -/
mutual
theorem Rep.zed (hz : ∀ a o, ¬ Z a → H a = some o → ¬ Z' a) : ∀ (d : D) (v : V), Rep K H Z d v → Rep K H Z' d v
  | .non, _, h => h
  | .bl _, _, h => h
  | .int _, _, h => h
  | .str _, _, h => h
  | .lst l, v, h => by
    simp only [Rep] at h ⊢
    obtain ⟨p, vs, e1, h1, h2⟩ := h
    exact ⟨p, vs, e1, ⟨h1.2.elim (fun q => hz _ _ h1.1 q) (fun ⟨o, q⟩ => hz _ _ h1.1 q), h1.2⟩, Reps.zed hz l vs h2⟩
  | .rol l, v, h => by
    simp only [Rep] at h ⊢
    obtain ⟨p, vs, e1, h1, h2⟩ := h
    exact ⟨p, vs, e1, h1.elim (fun z => .inl ⟨z.2.elim (fun q => hz _ _ z.1 q) (fun ⟨o, q⟩ => hz _ _ z.1 q), z.2⟩) .inr, Reps.zed hz l vs h2⟩
  | .tup l, v, h => by
    simp only [Rep] at h ⊢
    obtain ⟨p, vs, e1, h1, h2⟩ := h
    exact ⟨p, vs, e1, h1.elim (fun z => .inl ⟨z.2.elim (fun q => hz _ _ z.1 q) (fun ⟨o, q⟩ => hz _ _ z.1 q), z.2⟩) .inr, Reps.zed hz l vs h2⟩
  | .dct ks l, v, h => by
    simp only [Rep] at h ⊢
    obtain ⟨p, vs, e1, n, h1, hl, h2⟩ := h
    exact ⟨p, vs, e1, h1.elim (fun q => hz _ _ n q) (fun ⟨o, q⟩ => hz _ _ n q), h1, hl, Reps.zed hz l vs h2⟩
  | .ob c l, v, h => by
    simp only [Rep] at h ⊢
    obtain ⟨p, dx, vs, e1, n, h1, hl, h2⟩ := h
    exact ⟨p, dx, vs, e1, hz _ _ n h1, h1, hl, Reps.zed hz l vs h2⟩
theorem Reps.zed (hz : ∀ a o, ¬ Z a → H a = some o → ¬ Z' a) : ∀ (l : List D) (vs : List V), Reps K H Z l vs → Reps K H Z' l vs
  | [], _, h => h
  | d :: l, vs, h => by
    simp only [Reps] at h ⊢
    obtain ⟨v, r, e1, h1, h2⟩ := h
    exact ⟨v, r, e1, Rep.zed hz d v h1, Reps.zed hz l r h2⟩
end
theorem Reps.len : ∀ {l : List D} {vs : List V}, Reps K H Z l vs → l.length = vs.length
  | [], vs, h => by
    simp only [Reps] at h
    subst h
    rfl
  | d :: l, vs, h => by
    simp only [Reps] at h
    obtain ⟨v, r, e1, h1, h2⟩ := h
    subst e1
    simp only [List.length_cons]
    exact congrArg (· + 1) (Reps.len h2)
theorem Reps.app : ∀ {l l2 : List D} {vs vs2 : List V}, Reps K H Z l vs → Reps K H Z l2 vs2 → Reps K H Z (l ++ l2) (vs ++ vs2)
  | [], l2, vs, vs2, h, h2 => by
    simp only [Reps] at h
    subst h
    exact h2
  | d :: l, l2, vs, vs2, h, h2 => by
    simp only [Reps] at h
    obtain ⟨v, r, e1, h1, h3⟩ := h
    subst e1
    exact ⟨v, r ++ vs2, rfl, h1, Reps.app h3 h2⟩
theorem Reps.get : ∀ {l : List D} {vs : List V} {i : Nat} {d : D}, Reps K H Z l vs → l[i]? = some d → ∃ v, vs[i]? = some v ∧ Rep K H Z d v
  | [], _, _, _, _, e => by simp at e
  | d :: l, vs, 0, x, h, e => by
    simp only [Reps] at h
    obtain ⟨v, r, e1, h1, h3⟩ := h
    subst e1
    simp at e
    subst e
    exact ⟨v, rfl, h1⟩
  | d :: l, vs, i + 1, x, h, e => by
    simp only [Reps] at h
    obtain ⟨v, r, e1, h1, h3⟩ := h
    subst e1
    obtain ⟨u, q, h4⟩ := Reps.get (i := i) (d := x) h3 (by simpa using e)
    exact ⟨u, by simpa using q, h4⟩
theorem Reps.getV : ∀ {l : List D} {vs : List V} {i : Nat} {v : V}, Reps K H Z l vs → vs[i]? = some v → ∃ d, l[i]? = some d ∧ Rep K H Z d v := fun {l vs i v} h e => by
  have hl := h.len
  have hi : i < vs.length := (List.getElem?_eq_some_iff.mp e).1
  obtain ⟨u, q, r⟩ := h.get (i := i) (d := l[i]'(by omega)) (by simp)
  rw [e] at q
  cases q
  exact ⟨_, by simp, r⟩
theorem Reps.one {d : D} {v : V} (h : Rep K H Z d v) : Reps K H Z [d] [v] := ⟨v, [], rfl, h, rfl⟩
theorem Reps.cons {d : D} {v : V} {l : List D} {vs : List V} (h : Rep K H Z d v) (r : Reps K H Z l vs) : Reps K H Z (d :: l) (v :: vs) := ⟨v, vs, rfl, h, r⟩
theorem Reps.nil : Reps K H Z [] [] := rfl
theorem Reps.inv {d : D} {l : List D} {vs : List V} (h : Reps K H Z (d :: l) vs) : ∃ v r, vs = v :: r ∧ Rep K H Z d v ∧ Reps K H Z l r := h
theorem Reps.take : ∀ {l : List D} {vs : List V} (n : Nat), Reps K H Z l vs → Reps K H Z (l.take n) (vs.take n)
  | _, _, 0, _ => by simp only [List.take_zero]; exact rfl
  | [], vs, n + 1, h => by
    simp only [Reps] at h
    subst h
    exact rfl
  | d :: l, vs, n + 1, h => by
    obtain ⟨v, r, e1, h1, h3⟩ := h.inv
    subst e1
    exact Reps.cons h1 (Reps.take n h3)
theorem Reps.drop : ∀ {l : List D} {vs : List V} (n : Nat), Reps K H Z l vs → Reps K H Z (l.drop n) (vs.drop n)
  | _, _, 0, h => h
  | [], vs, n + 1, h => by
    simp only [Reps] at h
    subst h
    exact rfl
  | d :: l, vs, n + 1, h => by
    obtain ⟨v, r, e1, h1, h3⟩ := h.inv
    subst e1
    exact Reps.drop n h3
theorem Reps.rev : ∀ {l : List D} {vs : List V}, Reps K H Z l vs → Reps K H Z l.reverse vs.reverse
  | [], vs, h => by
    simp only [Reps] at h
    subst h
    exact rfl
  | d :: l, vs, h => by
    obtain ⟨v, r, e1, h1, h3⟩ := h.inv
    subst e1
    rw [List.reverse_cons, List.reverse_cons]
    exact (Reps.rev h3).app (Reps.one h1)
theorem Reps.set {d : D} {v : V} (hd : Rep K H Z d v) : ∀ {l : List D} {vs : List V} (i : Nat), Reps K H Z l vs → Reps K H Z (l.set i d) (vs.set i v)
  | [], vs, i, h => by
    simp only [Reps] at h
    subst h
    exact rfl
  | x :: l, vs, 0, h => by
    obtain ⟨u, r, e1, h1, h3⟩ := h.inv
    subst e1
    exact Reps.cons hd h3
  | x :: l, vs, i + 1, h => by
    obtain ⟨u, r, e1, h1, h3⟩ := h.inv
    subst e1
    exact Reps.cons h1 (Reps.set hd i h3)
theorem CtHO.ext {t : Ct} {o : HO} (e : Ext Z H H') (h : CtHO K H Z t o) : CtHO K H' Z t o := by
  cases t with
  | lst l =>
    obtain ⟨vs, h1, h2⟩ := h
    exact ⟨vs, h1, Reps.ext e _ _ h2⟩
  | dct ks l =>
    obtain ⟨vs, h1, hl, h2⟩ := h
    exact ⟨vs, h1, hl, Reps.ext e _ _ h2⟩
  | ob x l =>
    obtain ⟨dx, vs, h1, hl, h2⟩ := h
    exact ⟨dx, vs, h1, hl, Reps.ext e _ _ h2⟩
theorem CtHO.zed {t : Ct} {o : HO} (hz : ∀ a o, ¬ Z a → H a = some o → ¬ Z' a) (h : CtHO K H Z t o) : CtHO K H Z' t o := by
  cases t with
  | lst l =>
    obtain ⟨vs, h1, h2⟩ := h
    exact ⟨vs, h1, Reps.zed hz _ _ h2⟩
  | dct ks l =>
    obtain ⟨vs, h1, hl, h2⟩ := h
    exact ⟨vs, h1, hl, Reps.zed hz _ _ h2⟩
  | ob x l =>
    obtain ⟨dx, vs, h1, hl, h2⟩ := h
    exact ⟨dx, vs, h1, hl, Reps.zed hz _ _ h2⟩
theorem RepC.ext {t : Ct} {p : Addr} (e : Ext Z H H') (hp : H' p = H p) (h : RepC K H Z t p) : RepC K H' Z t p := by
  obtain ⟨o, h1, h2⟩ := h
  exact ⟨o, by rw [hp]; exact h1, h2.ext e⟩
theorem RepC.zed {t : Ct} {p : Addr} (hz : ∀ a o, ¬ Z a → H a = some o → ¬ Z' a) (h : RepC K H Z t p) : RepC K H Z' t p := by
  obtain ⟨o, h1, h2⟩ := h
  exact ⟨o, h1, h2.zed hz⟩
theorem CtHO.toD {t : Ct} {o : HO} {p : Addr} (hz : ¬ Z p) (hp : H p = some o) (h : CtHO K H Z t o) : Rep K H Z t.toD (.ref p) := by
  cases t with
  | lst l =>
    obtain ⟨vs, rfl, h2⟩ := h
    show Rep K H Z (.lst l) (.ref p)
    simp only [Rep]
    exact ⟨p, vs, rfl, ⟨hz, .inl hp⟩, h2⟩
  | dct ks l =>
    obtain ⟨vs, rfl, hl, h2⟩ := h
    show Rep K H Z (.dct ks l) (.ref p)
    simp only [Rep]
    exact ⟨p, vs, rfl, hz, .inl hp, hl, h2⟩
  | ob x l =>
    obtain ⟨dx, vs, rfl, hl, h2⟩ := h
    show Rep K H Z (.ob x l) (.ref p)
    simp only [Rep]
    exact ⟨p, dx, vs, rfl, hz, hp, hl, h2⟩
theorem RepC.some {t : Ct} {p : Addr} (h : RepC K H Z t p) : ∃ o, H p = some o := ⟨_, h.choose_spec.1⟩
end
abbrev St := L2.St
end DL
set_option Elab.async false
set_option linter.all false
set_option maxRecDepth 100000
set_option maxHeartbeats 4000000
namespace DL
open PySem PySem.Spec PyProof.Rows L2
section
variable [CTab]
/-- what stays through a def's body: the cells handed in, the heap at the entry, what callers may change, data that must stand -/
structure Cz where
  P : Nat → Option Addr
  H0 : Hp
  Z0 : Addr → Prop
  ex : List (D × V)
  hid : List (Addr × Ct)
def isOwn (ρ : Env) (i : Nat) : Prop := ∃ t, ρ[i]? = some (some (.own t)) ∨ ρ[i]? = some (some (.inn t))
structure Rel (K : PySem.W.Frag) (c : Cz) (Z : Addr → Prop) (ρ : Env) (σ : St) (H : Hp) : Prop where
  frame : ∀ a o, (∀ i, c.P i ≠ some a) → c.H0 a = some o → H a = some o
  keep : ∀ a, H a = none → c.H0 a = none
  base : ∀ a, c.Z0 a → Z a ∧ c.H0 a ≠ none
  len : ρ.length = σ.length
  dom : ∀ a, Z a → H a ≠ none
  val : ∀ (i : Nat) (d : D), ρ[i]? = some (some (.val d)) → ∃ v, σ[i]? = some (some v) ∧ Rep K H Z d v
  own : ∀ (i : Nat) (t : Ct), ρ[i]? = some (some (.own t)) → ∃ p, σ[i]? = some (some (.ref p)) ∧ Z p ∧ c.H0 p = none ∧ RepC K H Z t p
  inn : ∀ (i : Nat) (t : Ct), ρ[i]? = some (some (.inn t)) → ∃ p, σ[i]? = some (some (.ref p)) ∧ Z p ∧ c.P i = some p ∧ RepC K H Z t p
  inj : ∀ (i j : Nat) (p : Addr), isOwn ρ i → isOwn ρ j → σ[i]? = some (some (.ref p)) → σ[j]? = some (some (.ref p)) → i = j
  xs : ∀ q ∈ c.ex, Rep K H Z q.1 q.2
  hd : ∀ q ∈ c.hid, Z q.1 ∧ RepC K H Z q.2 q.1 ∧ ∀ j, isOwn ρ j → σ[j]? ≠ some (some (.ref q.1))
end
section
variable [CTab] {K : PySem.W.Frag} {c : Cz} {Z : Addr → Prop} {ρ : Env} {σ : St} {H H' : Hp}
theorem same_upd {p : Addr} {o : HO} (h : H p = none) : Same H (upd H p o) := fun a u e => by
  rw [upd_ne (ne_of_none e h)]
  exact e
theorem Rel.zfree (r : Rel K c Z ρ σ H) {p : Addr} (h : H p = none) : ¬ Z p := fun z => r.dom p z h
theorem Rel.same (r : Rel K c Z ρ σ H) (s : Same H H') : Rel K c Z ρ σ H' where
  frame := fun a o n e => s a o (r.frame a o n e)
  keep := fun a e => r.keep a (s.free e)
  base := r.base
  len := r.len
  dom := fun a z e => r.dom a z (s.free e)
  val := fun i d e => by
    obtain ⟨v, h1, h2⟩ := r.val i d e
    exact ⟨v, h1, h2.ext (Ext.same s)⟩
  own := fun i t e => by
    obtain ⟨p, h1, h2, h3, h4⟩ := r.own i t e
    obtain ⟨o, ho⟩ := h4.some
    exact ⟨p, h1, h2, h3, h4.ext (Ext.same s) (by rw [s _ _ ho, ho])⟩
  inn := fun i t e => by
    obtain ⟨p, h1, h2, h3, h4⟩ := r.inn i t e
    obtain ⟨o, ho⟩ := h4.some
    exact ⟨p, h1, h2, h3, h4.ext (Ext.same s) (by rw [s _ _ ho, ho])⟩
  inj := r.inj
  xs := fun q hq => (r.xs q hq).ext (Ext.same s)
  hd := fun q hq => by
    obtain ⟨h1, h2, h3⟩ := r.hd q hq
    obtain ⟨o, ho⟩ := h2.some
    exact ⟨h1, h2.ext (Ext.same s) (by rw [s _ _ ho, ho]), h3⟩
/-- a slot takes data -/
theorem Rel.set (r : Rel K c Z ρ σ H) {i : Nat} {d : D} {v : V} (hd : Rep K H Z d v) : Rel K c Z (ρ.set i (some (.val d))) (σ.set i (some v)) H := by
  have other : ∀ {j : Nat} {w : W}, (ρ.set i (some (.val d)))[j]? = some (some w) → (∀ e, w ≠ .val e) → ρ[j]? = some (some w) ∧ j ≠ i := fun {j w} e hw => by
    by_cases h : i = j
    · subst h
      have hi : i < ρ.length := by
        have := (List.getElem?_eq_some_iff.mp e).1
        simpa using this
      rw [List.getElem?_set_self hi] at e
      exact absurd (Option.some.inj (Option.some.inj e)).symm (hw d)
    · rw [List.getElem?_set_ne h] at e
      exact ⟨e, fun z => h z.symm⟩
  have own' : ∀ j, isOwn (ρ.set i (some (.val d))) j → isOwn ρ j ∧ j ≠ i := fun j ⟨t, h⟩ => by
    rcases h with h | h
    · obtain ⟨h1, h2⟩ := other h (by intro e z; cases z)
      exact ⟨⟨t, .inl h1⟩, h2⟩
    · obtain ⟨h1, h2⟩ := other h (by intro e z; cases z)
      exact ⟨⟨t, .inr h1⟩, h2⟩
  refine ⟨r.frame, r.keep, r.base, by simp [r.len], r.dom, fun j e h => ?_, fun j t h => ?_, fun j t h => ?_, fun j k p hj hk h1 h2 => ?_, r.xs, fun q hq => ?_⟩
  · by_cases hj : i = j
    · subst hj
      have hi : i < ρ.length := by
        have := (List.getElem?_eq_some_iff.mp h).1
        simpa using this
      rw [List.getElem?_set_self hi] at h
      have e1 : d = e := by injection (Option.some.inj (Option.some.inj h))
      subst e1
      exact ⟨v, by rw [List.getElem?_set_self (by rw [← r.len]; exact hi)], hd⟩
    · rw [List.getElem?_set_ne hj] at h
      obtain ⟨u, h1, h2⟩ := r.val j e h
      exact ⟨u, by rw [List.getElem?_set_ne hj]; exact h1, h2⟩
  · obtain ⟨h1, hj⟩ := other h (by intro e z; cases z)
    obtain ⟨p, q1, q2⟩ := r.own j t h1
    exact ⟨p, by rw [List.getElem?_set_ne (Ne.symm hj)]; exact q1, q2⟩
  · obtain ⟨h1, hj⟩ := other h (by intro e z; cases z)
    obtain ⟨p, q1, q2⟩ := r.inn j t h1
    exact ⟨p, by rw [List.getElem?_set_ne (Ne.symm hj)]; exact q1, q2⟩
  · obtain ⟨a1, b1⟩ := own' j hj
    obtain ⟨a2, b2⟩ := own' k hk
    rw [List.getElem?_set_ne (Ne.symm b1)] at h1
    rw [List.getElem?_set_ne (Ne.symm b2)] at h2
    exact r.inj j k p a1 a2 h1 h2
  · obtain ⟨h1, h2, h3⟩ := r.hd q hq
    refine ⟨h1, h2, fun j hj e => ?_⟩
    obtain ⟨a1, b1⟩ := own' j hj
    rw [List.getElem?_set_ne (Ne.symm b1)] at e
    exact h3 j a1 e
/-- a slot is forgotten -/
theorem Rel.drop (r : Rel K c Z ρ σ H) (i : Nat) : Rel K c Z (ρ.set i none) σ H := by
  have other : ∀ {j : Nat} {w : W}, (ρ.set i none)[j]? = some (some w) → ρ[j]? = some (some w) := fun {j w} e => by
    by_cases h : i = j
    · subst h
      have hi : i < ρ.length := by
        have := (List.getElem?_eq_some_iff.mp e).1
        simpa using this
      rw [List.getElem?_set_self hi] at e
      cases e
    · rw [List.getElem?_set_ne h] at e
      exact e
  have own' : ∀ j, isOwn (ρ.set i none) j → isOwn ρ j := fun j ⟨t, h⟩ => ⟨t, h.elim (fun z => .inl (other z)) fun z => .inr (other z)⟩
  exact ⟨r.frame, r.keep, r.base, by simp [r.len], r.dom, fun j e h => r.val j e (other h), fun j t h => r.own j t (other h), fun j t h => r.inn j t (other h), fun j k p hj hk => r.inj j k p (own' j hj) (own' k hk), r.xs, fun q hq => ⟨(r.hd q hq).1, (r.hd q hq).2.1, fun j hj => (r.hd q hq).2.2 j (own' j hj)⟩⟩
/-- a thing of one's own is data from here on -/
theorem Rel.frz (r : Rel K c Z ρ σ H) {i : Nat} {t : Ct} (hi : ρ[i]? = some (some (.own t))) : ∃ Z', Rel K c Z' (ρ.set i (some (.val t.toD))) σ H := by
  obtain ⟨p, h1, h2, h3, o, h4, h5⟩ := r.own i _ hi
  have hil : i < ρ.length := (List.getElem?_eq_some_iff.mp hi).1
  have zs : ∀ a o, ¬ Z a → H a = some o → ¬ (Z a ∧ a ≠ p) := fun a o n _ z => n z.1
  have other : ∀ {j : Nat} {w : W}, (ρ.set i (some (.val t.toD)))[j]? = some (some w) → (∀ e, w ≠ .val e) → ρ[j]? = some (some w) ∧ j ≠ i := fun {j w} e hw => by
    by_cases h : i = j
    · subst h
      rw [List.getElem?_set_self hil] at e
      exact absurd (Option.some.inj (Option.some.inj e)).symm (hw _)
    · rw [List.getElem?_set_ne h] at e
      exact ⟨e, fun z => h z.symm⟩
  have own' : ∀ j, isOwn (ρ.set i (some (.val t.toD))) j → isOwn ρ j ∧ j ≠ i := fun j ⟨t, h⟩ => by
    rcases h with h | h
    · obtain ⟨h1, h2⟩ := other h (by intro e z; cases z)
      exact ⟨⟨t, .inl h1⟩, h2⟩
    · obtain ⟨h1, h2⟩ := other h (by intro e z; cases z)
      exact ⟨⟨t, .inr h1⟩, h2⟩
  refine ⟨fun a => Z a ∧ a ≠ p, ⟨r.frame, r.keep, fun a z => ⟨⟨(r.base a z).1, fun e => (r.base a z).2 (by rw [e]; exact h3)⟩, (r.base a z).2⟩, by simp [r.len], fun a z => r.dom a z.1, fun j e h => ?_, fun j t h => ?_, fun j t h => ?_, fun j k q hj hk a1 a2 => ?_, fun q hq => (r.xs q hq).zed zs, fun q hq => ?_⟩⟩
  · by_cases hj : i = j
    · subst hj
      rw [List.getElem?_set_self hil] at h
      have e1 : t.toD = e := by injection (Option.some.inj (Option.some.inj h))
      subst e1
      exact ⟨.ref p, h1, CtHO.toD (fun z => z.2 rfl) h4 (h5.zed zs)⟩
    · rw [List.getElem?_set_ne hj] at h
      obtain ⟨u, q1, q2⟩ := r.val j e h
      exact ⟨u, q1, q2.zed zs⟩
  · obtain ⟨g1, hj⟩ := other h (by intro e z; cases z)
    obtain ⟨q, q1, q2, q3, q4⟩ := r.own j t g1
    refine ⟨q, q1, ⟨q2, fun e => hj (r.inj j i p ⟨t, .inl g1⟩ ⟨_, .inl hi⟩ (by rw [q1, e]) h1)⟩, q3, q4.zed zs⟩
  · obtain ⟨g1, hj⟩ := other h (by intro e z; cases z)
    obtain ⟨q, q1, q2, q3, q4⟩ := r.inn j t g1
    refine ⟨q, q1, ⟨q2, fun e => hj (r.inj j i p ⟨t, .inr g1⟩ ⟨_, .inl hi⟩ (by rw [q1, e]) h1)⟩, q3, q4.zed zs⟩
  · obtain ⟨b1, _⟩ := own' j hj
    obtain ⟨b2, _⟩ := own' k hk
    exact r.inj j k q b1 b2 a1 a2
  · obtain ⟨g1, g2, g3⟩ := r.hd q hq
    exact ⟨⟨g1, fun e => g3 i ⟨_, .inl hi⟩ (by rw [e]; exact h1)⟩, g2.zed zs, fun j hj => g3 j (own' j hj).1⟩
/-- a new thing stands at p, that no slot holds yet -/
structure NewAt (K : PySem.W.Frag) (c : Cz) (Z : Addr → Prop) (ρ : Env) (σ : St) (H : Hp) (t : Ct) (p : Addr) : Prop where
  rel : Rel K c Z ρ σ H
  z : Z p
  new : c.H0 p = none
  at_ : RepC K H Z t p
  no : ∀ j, isOwn ρ j → σ[j]? ≠ some (some (.ref p))
  nh : ∀ q ∈ c.hid, q.1 ≠ p
theorem Rel.addZ (r : Rel K c Z ρ σ H) {p : Addr} {o : HO} (hp : H p = none) : Rel K c (fun a => Z a ∨ a = p) ρ σ (upd H p o) := by
  have s : Same H (upd H p o) := same_upd hp
  have zs : ∀ a u, ¬ Z a → H a = some u → ¬ (Z a ∨ a = p) := fun a u n e z => z.elim n fun q => by
    rw [q, hp] at e
    cases e
  have up : ∀ {d v}, Rep K H Z d v → Rep K (upd H p o) (fun a => Z a ∨ a = p) d v := fun h => (h.zed zs).ext (Ext.same s)
  have upC : ∀ {t q}, RepC K H Z t q → RepC K (upd H p o) (fun a => Z a ∨ a = p) t q := fun {t q} h => by
    obtain ⟨ob, e⟩ := h.some
    exact (h.zed zs).ext (Ext.same s) (by rw [s _ _ e, e])
  refine ⟨(r.same s).frame, (r.same s).keep, fun a z => ⟨.inl (r.base a z).1, (r.base a z).2⟩, r.len, fun a z => z.elim ((r.same s).dom a) fun q e => ?_, fun j e h => ?_, fun j u h => ?_, fun j u h => ?_, r.inj, fun q hq => up (r.xs q hq), fun q hq => ⟨.inl (r.hd q hq).1, upC (r.hd q hq).2.1, (r.hd q hq).2.2⟩⟩
  · rw [q, upd_same] at e
    cases e
  · obtain ⟨v, q1, q2⟩ := r.val j e h
    exact ⟨v, q1, up q2⟩
  · obtain ⟨q, q1, q2, q3, q4⟩ := r.own j u h
    exact ⟨q, q1, .inl q2, q3, upC q4⟩
  · obtain ⟨q, q1, q2, q3, q4⟩ := r.inn j u h
    exact ⟨q, q1, .inl q2, q3, upC q4⟩
theorem Rel.newAt (r : Rel K c Z ρ σ H) {p : Addr} {o : HO} {t : Ct} (hp : H p = none) (ht : CtHO K H Z t o) : NewAt K c (fun a => Z a ∨ a = p) ρ σ (upd H p o) t p := by
  have s : Same H (upd H p o) := same_upd hp
  have zs : ∀ a u, ¬ Z a → H a = some u → ¬ (Z a ∨ a = p) := fun a u n e z => z.elim n fun q => by
    rw [q, hp] at e
    cases e
  refine ⟨r.addZ hp, .inr rfl, r.keep p hp, ⟨o, upd_same, (ht.zed zs).ext (Ext.same s)⟩, fun j ⟨u, h⟩ e => ?_, fun q hq e => ?_⟩
  rotate_left
  · obtain ⟨_, h2, _⟩ := r.hd q hq
    obtain ⟨ob, ho⟩ := h2.some
    rw [e, hp] at ho
    cases ho
  rcases h with h | h
  · obtain ⟨q, h1, h2, _⟩ := r.own j u h
    rw [e] at h1
    cases h1
    exact r.dom _ h2 hp
  · obtain ⟨q, h1, h2, _⟩ := r.inn j u h
    rw [e] at h1
    cases h1
    exact r.dom _ h2 hp
/-- a slot takes a new thing of one's own -/
theorem NewAt.set {t : Ct} {p : Addr} (n : NewAt K c Z ρ σ H t p) (i : Nat) : Rel K c Z (ρ.set i (some (.own t))) (σ.set i (some (.ref p))) H := by
  have r := n.rel
  have slot : ∀ {j : Nat} {w : W}, (ρ.set i (some (.own t)))[j]? = some (some w) → (j = i ∧ i < ρ.length ∧ w = .own t) ∨ (j ≠ i ∧ ρ[j]? = some (some w)) := fun {j w} e => by
    by_cases h : i = j
    · subst h
      have hi : i < ρ.length := by
        have := (List.getElem?_eq_some_iff.mp e).1
        simpa using this
      rw [List.getElem?_set_self hi] at e
      exact .inl ⟨rfl, hi, (Option.some.inj (Option.some.inj e)).symm⟩
    · rw [List.getElem?_set_ne h] at e
      exact .inr ⟨fun z => h z.symm, e⟩
  refine ⟨r.frame, r.keep, r.base, by simp [r.len], r.dom, fun j e h => ?_, fun j u h => ?_, fun j u h => ?_, fun j k q hj hk a1 a2 => ?_, r.xs, fun q hq => ?_⟩
  · rcases slot h with ⟨_, _, e1⟩ | ⟨hj, h1⟩
    · cases e1
    · obtain ⟨v, q1, q2⟩ := r.val j e h1
      exact ⟨v, by rw [List.getElem?_set_ne (Ne.symm hj)]; exact q1, q2⟩
  · rcases slot h with ⟨hj, hi, e1⟩ | ⟨hj, h1⟩
    · subst hj
      cases e1
      exact ⟨p, by rw [List.getElem?_set_self (by rw [← r.len]; exact hi)], n.z, n.new, n.at_⟩
    · obtain ⟨q, q1, q2, q3, q4⟩ := r.own j u h1
      exact ⟨q, by rw [List.getElem?_set_ne (Ne.symm hj)]; exact q1, q2, q3, q4⟩
  · rcases slot h with ⟨_, _, e1⟩ | ⟨hj, h1⟩
    · cases e1
    · obtain ⟨q, q1, q2, q3, q4⟩ := r.inn j u h1
      exact ⟨q, by rw [List.getElem?_set_ne (Ne.symm hj)]; exact q1, q2, q3, q4⟩
  · have pick : ∀ m, isOwn (ρ.set i (some (.own t))) m → (σ.set i (some (.ref p)))[m]? = some (some (.ref q)) → (m = i ∧ q = p) ∨ (m ≠ i ∧ isOwn ρ m ∧ σ[m]? = some (some (.ref q))) := fun m ⟨u, h⟩ a => by
      have hh : (m = i ∧ i < ρ.length) ∨ (m ≠ i ∧ isOwn ρ m) := by
        rcases h with h | h
        · rcases slot h with ⟨hm, hi, _⟩ | ⟨hm, h1⟩
          · exact .inl ⟨hm, hi⟩
          · exact .inr ⟨hm, u, .inl h1⟩
        · rcases slot h with ⟨hm, hi, _⟩ | ⟨hm, h1⟩
          · exact .inl ⟨hm, hi⟩
          · exact .inr ⟨hm, u, .inr h1⟩
      rcases hh with ⟨hm, hi⟩ | ⟨hm, h1⟩
      · subst hm
        rw [List.getElem?_set_self (by rw [← r.len]; exact hi)] at a
        cases a
        exact .inl ⟨rfl, rfl⟩
      · rw [List.getElem?_set_ne (Ne.symm hm)] at a
        exact .inr ⟨hm, h1, a⟩
    rcases pick j hj a1 with ⟨e1, e2⟩ | ⟨e1, o1, s1⟩
    · rcases pick k hk a2 with ⟨e3, _⟩ | ⟨_, o2, s2⟩
      · rw [e1, e3]
      · subst e2
        exact absurd s2 (n.no k o2)
    · rcases pick k hk a2 with ⟨_, e4⟩ | ⟨_, o2, s2⟩
      · subst e4
        exact absurd s1 (n.no j o1)
      · exact r.inj j k q o1 o2 s1 s2
  · obtain ⟨g1, g2, g3⟩ := r.hd q hq
    refine ⟨g1, g2, fun j ⟨u, h⟩ e => ?_⟩
    have hh : j = i ∧ i < ρ.length ∨ j ≠ i ∧ isOwn ρ j := by
      rcases h with h | h
      · rcases slot h with ⟨hm, hi, _⟩ | ⟨hm, h1⟩
        · exact .inl ⟨hm, hi⟩
        · exact .inr ⟨hm, u, .inl h1⟩
      · rcases slot h with ⟨hm, hi, _⟩ | ⟨hm, h1⟩
        · exact .inl ⟨hm, hi⟩
        · exact .inr ⟨hm, u, .inr h1⟩
    rcases hh with ⟨hm, hi⟩ | ⟨hm, h1⟩
    · subst hm
      rw [List.getElem?_set_self (by rw [← r.len]; exact hi)] at e
      cases e
      exact n.nh q hq rfl
    · rw [List.getElem?_set_ne (Ne.symm hm)] at e
      exact g3 j h1 e
/-- what a slot holds of one's own, or handed in -/
inductive Hold : W → Ct → Prop where
  | own (t : Ct) : Hold (.own t) t
  | inn (t : Ct) : Hold (.inn t) t
def W.put : W → Ct → W
  | .own _, t => .own t
  | .inn _, t => .inn t
  | w, _ => w
theorem Rel.hold (r : Rel K c Z ρ σ H) {i : Nat} {w : W} {t : Ct} (hi : ρ[i]? = some (some w)) (h : Hold w t) : ∃ p, σ[i]? = some (some (.ref p)) ∧ Z p ∧ RepC K H Z t p := by
  cases h with
  | own =>
    obtain ⟨p, h1, h2, _, h3⟩ := r.own i _ hi
    exact ⟨p, h1, h2, h3⟩
  | inn =>
    obtain ⟨p, h1, h2, _, h3⟩ := r.inn i _ hi
    exact ⟨p, h1, h2, h3⟩
theorem Hold.isOwn {i : Nat} {w : W} {t : Ct} (h : Hold w t) (hi : ρ[i]? = some (some w)) : isOwn ρ i := by
  cases h with
  | own => exact ⟨t, .inl hi⟩
  | inn => exact ⟨t, .inr hi⟩
/-- one thing of one's own has changed, nothing else; new objects may have come -/
theorem Rel.put (r : Rel K c Z ρ σ H) {i : Nat} {w : W} {t t' : Ct} {p : Addr} (hi : ρ[i]? = some (some w)) (h : Hold w t) (hs : σ[i]? = some (some (.ref p)))
    (hk : ∀ a o, a ≠ p → H a = some o → H' a = some o) (hn : RepC K H' Z t' p) : Rel K c Z (ρ.set i (some (w.put t'))) σ H' := by
  have hil : i < ρ.length := (List.getElem?_eq_some_iff.mp hi).1
  have hz : Z p := by
    obtain ⟨q, h1, h2, _⟩ := r.hold hi h
    rw [hs] at h1
    cases h1
    exact h2
  have e0 : Ext Z H H' := fun a o n e => hk a o (fun q => n (by rw [q]; exact hz)) e
  have alive : ∀ a, H' a = none → H a = none := fun a e => by
    cases q : H a with
    | none => rfl
    | some o =>
      by_cases ha : a = p
      · obtain ⟨o', ho⟩ := hn.some
        rw [ha, ho] at e
        cases e
      · rw [hk a o ha q] at e
        cases e
  have hw : w.put t' = .own t' ∧ w = .own t ∨ w.put t' = .inn t' ∧ w = .inn t := by
    cases h with
    | own => exact .inl ⟨rfl, rfl⟩
    | inn => exact .inr ⟨rfl, rfl⟩
  have slot : ∀ {j : Nat} {x : W}, (ρ.set i (some (w.put t')))[j]? = some (some x) → (j = i ∧ x = w.put t') ∨ (j ≠ i ∧ ρ[j]? = some (some x)) := fun {j x} e => by
    by_cases hj : i = j
    · subst hj
      rw [List.getElem?_set_self hil] at e
      exact .inl ⟨rfl, (Option.some.inj (Option.some.inj e)).symm⟩
    · rw [List.getElem?_set_ne hj] at e
      exact .inr ⟨fun z => hj z.symm, e⟩
  have own' : ∀ j, DL.isOwn (ρ.set i (some (w.put t'))) j → DL.isOwn ρ j := fun j ⟨u, hu⟩ => by
    rcases hu with hu | hu
    · rcases slot hu with ⟨e, _⟩ | ⟨_, e⟩
      · rw [e]
        exact h.isOwn hi
      · exact ⟨u, .inl e⟩
    · rcases slot hu with ⟨e, _⟩ | ⟨_, e⟩
      · rw [e]
        exact h.isOwn hi
      · exact ⟨u, .inr e⟩
  have keepC : ∀ {j q u}, DL.isOwn ρ j → j ≠ i → σ[j]? = some (some (.ref q)) → RepC K H Z u q → RepC K H' Z u q := fun {j q u} oj hj hq hu => by
    have hne : q ≠ p := fun e => hj (r.inj j i p oj (h.isOwn hi) (by rw [hq, e]) hs)
    obtain ⟨o, ho⟩ := hu.some
    exact hu.ext e0 (by rw [hk q o hne ho, ho])
  refine ⟨fun a o n e => ?_, fun a e => r.keep a (alive a e), r.base, by simp [r.len], fun a z e => r.dom a z (alive a e), fun j d hd => ?_, fun j u hu => ?_, fun j u hu => ?_, fun j k q hj hkk a1 a2 => r.inj j k q (own' j hj) (own' k hkk) a1 a2, fun q hq => (r.xs q hq).ext e0, fun q hq => ?_⟩
  rotate_right
  · obtain ⟨g1, g2, g3⟩ := r.hd q hq
    have hne : q.1 ≠ p := fun e => g3 i (h.isOwn hi) (by rw [e]; exact hs)
    obtain ⟨o, ho⟩ := g2.some
    exact ⟨g1, g2.ext e0 (by rw [hk _ o hne ho, ho]), fun j hj => g3 j (own' j hj)⟩
  · refine hk a o (fun q => ?_) (r.frame a o n e)
    subst q
    rcases hw with ⟨_, e2⟩ | ⟨_, e2⟩
    · subst e2
      obtain ⟨q, h1, _, h3, _⟩ := r.own i _ hi
      rw [hs] at h1
      cases h1
      rw [h3] at e
      cases e
    · subst e2
      obtain ⟨q, h1, _, h3, _⟩ := r.inn i _ hi
      rw [hs] at h1
      cases h1
      exact n i h3
  · rcases slot hd with ⟨_, e⟩ | ⟨_, e⟩
    · rcases hw with ⟨e2, _⟩ | ⟨e2, _⟩ <;> (rw [e2] at e; cases e)
    · obtain ⟨v, q1, q2⟩ := r.val j d e
      exact ⟨v, q1, q2.ext e0⟩
  · rcases slot hu with ⟨ej, e⟩ | ⟨hj, e⟩
    · rcases hw with ⟨e2, e3⟩ | ⟨e2, _⟩
      · rw [e2] at e
        cases e
        subst e3 ej
        obtain ⟨q, h1, h2, h3, _⟩ := r.own j _ hi
        rw [hs] at h1
        cases h1
        exact ⟨_, hs, h2, h3, hn⟩
      · rw [e2] at e
        cases e
    · obtain ⟨q, q1, q2, q3, q4⟩ := r.own j u e
      exact ⟨q, q1, q2, q3, keepC ⟨u, .inl e⟩ hj q1 q4⟩
  · rcases slot hu with ⟨ej, e⟩ | ⟨hj, e⟩
    · rcases hw with ⟨e2, _⟩ | ⟨e2, e3⟩
      · rw [e2] at e
        cases e
      · rw [e2] at e
        cases e
        subst e3 ej
        obtain ⟨q, h1, h2, h3, _⟩ := r.inn j _ hi
        rw [hs] at h1
        cases h1
        exact ⟨_, hs, h2, h3, hn⟩
    · obtain ⟨q, q1, q2, q3, q4⟩ := r.inn j u e
      exact ⟨q, q1, q2, q3, keepC ⟨u, .inr e⟩ hj q1 q4⟩
end
end DL
set_option Elab.async false
set_option linter.all false
set_option maxRecDepth 100000
set_option maxHeartbeats 4000000
namespace DL
open PySem PySem.Spec PyProof.Rows L2
variable [CTab]
/-! ### readings told by data -/
abbrev RG (α β : Type) := PySem.W.Frag → St → Hp → (Addr → Prop) → α → β → Prop
def rD : RG D V := fun K _ H Z d v => Rep K H Z d v
def rB : RG Bool Bool := fun _ _ _ _ a b => a = b
def rA : RG (List D) (List V) := fun K _ H Z l vs => Reps K H Z l vs
def tR {α β : Type} (K : PySem.W.Frag) (E : XK) (R : RG α β) (c : Cz) (Z : Addr → Prop) (σ : St) (H : Hp) (Q : β → Hp → Prop) : Res α → Prop
  | .fail => False
  | .ok a ρ => ∀ b H', Rel K c Z ρ σ H' → Ext Z H H' → R K σ H' Z a b → Q b H'
  | .exc x l ρ => ∀ ed vs H', Rel K c Z ρ σ H' → Ext Z H H' → H' ed = some (.xd ((cF x).zip vs)) → vs.length ≤ (cF x).length → Reps K H' Z l vs → E (.ref (He.ga K (cN x))) (some ed) H'
def tG {α β : Type} (K : PySem.W.Frag) (E : XK) (R : RG α β) (m : M α) : St → Hp → (β → Hp → Prop) → Prop :=
  fun σ H Q => ∃ c Z ρ, Rel K c Z ρ σ H ∧ tR K E R c Z σ H Q (m ρ)
abbrev tD (K : PySem.W.Frag) (E : XK) (m : M D) : TE := tG K E rD m
abbrev tT (K : PySem.W.Frag) (E : XK) (m : M Bool) : TT := tG K E rB m
abbrev tAr (K : PySem.W.Frag) (E : XK) (m : M (List D)) : TA := tG K E rA m
theorem _root_.L2.PE.imp {X : Cx} {e : Expr} {t t' : TE} (h : PE X e t) (i : ∀ σ H Q, t' σ H Q → t σ H Q) : PE X e t' := ⟨fun pins s σ H Q I q => h.run pins s σ H Q I (i σ H Q q)⟩
theorem _root_.L2.PT.imp {X : Cx} {e : Expr} {t t' : TT} (h : PT X e t) (i : ∀ σ H Q, t' σ H Q → t σ H Q) : PT X e t' := ⟨fun pins s σ H Q I q => h.run pins s σ H Q I (i σ H Q q)⟩
theorem _root_.L2.PA.imp {X : Cx} {e : List Expr} {t t' : TA} (h : PA X e t) (i : ∀ σ H Q, t' σ H Q → t σ H Q) : PA X e t' := ⟨fun pos pins s σ H Q I q => h.run pos pins s σ H Q I (i σ H Q q)⟩
theorem _root_.L2.PS.imp {X : Cx} {e : Stmt} {t t' : TS} (h : PS X e t) (i : ∀ D σ H, t' D σ H → t D σ H) : PS X e t' := ⟨fun pins s σ H D I q => h.run pins s σ H D I (i D σ H q)⟩
theorem _root_.L2.PSs.imp {X : Cx} {e : List Stmt} {t t' : TS} (h : PSs X e t) (i : ∀ D σ H, t' D σ H → t D σ H) : PSs X e t' := ⟨fun pins s σ H D I q => h.run pins s σ H D I (i D σ H q)⟩
section
variable {α β γ δ : Type} {K : PySem.W.Frag} {E : XK} {Ra : RG α β} {Rc : RG γ δ} {c : Cz} {Z : Addr → Prop} {ρ : Env} {σ : St} {H H1 : Hp} {Q : δ → Hp → Prop} {Q' : β → Hp → Prop}
theorem tR.ext {r : Res γ} (h : tR K E Rc c Z σ H Q r) (e : Ext Z H H1) : tR K E Rc c Z σ H1 Q r := by
  cases r with
  | fail => exact h
  | ok a ρ => exact fun b H' h1 h2 h3 => h b H' h1 (e.trans h2) h3
  | exc x l ρ => exact fun ed vs H' h1 h2 h3 h4 h5 => h ed vs H' h1 (e.trans h2) h3 h4 h5
theorem tR.bind {r : Res α} {k : α → Env → Res γ} (h : tR K E Rc c Z σ H Q (bindR r k)) (f : ∀ a ρ1 b H1, Rel K c Z ρ1 σ H1 → Ext Z H H1 → Ra K σ H1 Z a b → tR K E Rc c Z σ H1 Q (k a ρ1) → Q' b H1) : tR K E Ra c Z σ H Q' r := by
  cases r with
  | fail => exact h
  | ok a ρ => exact fun b H' h1 h2 h3 => f a ρ b H' h1 h2 h3 (tR.ext h h2)
  | exc x l ρ => exact h
/-- the first part of a reading -/
theorem tG.bind {m : M α} {k : α → Env → Res γ} (h : tG K E Rc (fun ρ => bindR (m ρ) k) σ H Q) (f : ∀ c Z a ρ1 b H1, Rel K c Z ρ1 σ H1 → Ra K σ H1 Z a b → tR K E Rc c Z σ H1 Q (k a ρ1) → Q' b H1) : tG K E Ra m σ H Q' := by
  obtain ⟨c, Z, ρ, r, q⟩ := h
  exact ⟨c, Z, ρ, r, q.bind fun a ρ1 b H1 h1 _ h3 h4 => f c Z a ρ1 b H1 h1 h3 h4⟩
theorem tR.done {a : γ} {b : δ} (r : Rel K c Z ρ σ H) (h : tR K E Rc c Z σ H Q (.ok a ρ)) (q : Rc K σ H Z a b) : Q b H := h b H r Ext.refl q
/-- .. behind new objects -/
theorem tR.new {a : γ} {b : δ} (r : Rel K c Z ρ σ H) (h : tR K E Rc c Z σ H Q (.ok a ρ)) (s : Same H H1) (q : Rc K σ H1 Z a b) : Q b H1 := h b H1 (r.same s) (Ext.same s) q
end
/-! ### names, constants -/
def mVar (i : Nat) : M D := fun ρ => match ρ[i]? with
  | some (some (.val d)) => .ok d ρ
  | _ => .fail
def mC (d : D) : M D := fun ρ => .ok d ρ
section
variable {X : Cx} {E : XK} {pos : Pos}
theorem d_var (i : Nat) {x : Str} (hN : X.N[i]? = some x := by rfl) (hv : Vis X.env.scope x := by first | exact Or.inl rfl | exact Or.inr (Or.inl rfl) | exact Or.inr (Or.inr rfl)) (hd : (x == ("__debug__" : Str)) = false := by decide)
    (hcd : (x == ("__classdict__" : Str)) = false := by decide) : PE X (.Name x pos) (tD X.K E (mVar i)) := by
  refine (pe_var hN hv hd hcd).imp fun σ H Q h => ?_
  obtain ⟨c, Z, ρ, r, q⟩ := h
  unfold mVar at q
  split at q
  · rename_i d hd
    obtain ⟨v, h1, h2⟩ := r.val i d hd
    exact ⟨v, h1, q.done r h2⟩
  · exact q.elim
theorem d_const {e : Expr} {d : D} {v : V} (h : PE X e (tC v)) (hr : ∀ H Z, Rep X.K H Z d v) : PE X e (tD X.K E (mC d)) :=
  h.imp fun σ H Q ⟨c, Z, ρ, r, q⟩ => tR.done r q (hr H Z)
theorem d_int {i : Int} {j} : PE X (.Constant (.int i) j pos) (tD X.K E (mC (.int i))) := d_const pe_int fun _ _ => rfl
theorem d_str {x : Str} {j} : PE X (.Constant (.str x) j pos) (tD X.K E (mC (.str x))) := d_const pe_str fun _ _ => rfl
theorem d_bl {b : Bool} {j} : PE X (.Constant (.bool b) j pos) (tD X.K E (mC (.bl b))) := d_const pe_bl fun _ _ => rfl
theorem d_non {j} : PE X (.Constant .none j pos) (tD X.K E (mC .non)) := d_const pe_non fun _ _ => rfl
/-- a name of the module that stands for data -/
theorem d_glob {x : Str} {v : V} {u : Value} {d : D} (hg : Gl X x) (hm : X.mg x = some u) (r : RelV v u) (hr : ∀ H Z, Rep X.K H Z d v) (hd : (x == ("__debug__" : Str)) = false := by decide) : PE X (.Name x pos) (tD X.K E (mC d)) :=
  d_const (pe_glob hg hm r hd) hr
end
/-! ### two-place operations -/
def m1 (f : D → Option D) (ma : M D) : M D := fun ρ => bindR (ma ρ) fun a ρ => liftO (f a) ρ
def m2 (f : D → D → Option D) (ma mb : M D) : M D := fun ρ => bindR (ma ρ) fun a ρ => bindR (mb ρ) fun b ρ => liftO (f a b) ρ
/-- an operation on values does what f does on data -/
def OpD (K : PySem.W.Frag) (r : R2) (f : D → D → Option D) : Prop := ∀ (H : Hp) (Z : Addr → Prop) (a b d : D) (x y : V) (Q : VK), (∀ p, Z p → H p ≠ none) → Rep K H Z a x → Rep K H Z b y → f a b = some d →
  (∀ v H', Same H H' → Rep K H' Z d v → Q v H') → r x y H Q
def UnD (K : PySem.W.Frag) (r : V → Hp → VK → Prop) (f : D → Option D) : Prop := ∀ (H : Hp) (Z : Addr → Prop) (a d : D) (x : V) (Q : VK), (∀ p, Z p → H p ≠ none) → Rep K H Z a x → f a = some d →
  (∀ v H', Same H H' → Rep K H' Z d v → Q v H') → r x H Q
section
variable {X : Cx} {E : XK} {pos : Pos} {a b e : Expr} {ma mb : M D} {f : D → D → Option D} {K : PySem.W.Frag}
theorem tR.lift {o : Option D} {c : Cz} {Z : Addr → Prop} {ρ : Env} {σ : St} {H : Hp} {Q : VK} (h : tR K E rD c Z σ H Q (liftO o ρ)) (r : Rel K c Z ρ σ H) : ∃ d, o = some d ∧ ∀ v H', Same H H' → Rep K H' Z d v → Q v H' := by
  cases o with
  | none => exact h.elim
  | some d => exact ⟨d, rfl, fun v H' s q => h v H' (r.same s) (Ext.same s) q⟩
theorem op_gen {r : R2} (hf : OpD K r f) {σ : St} {H : Hp} {Q : VK} (h : tD K E (m2 f ma mb) σ H Q) : tOp r (tD K E ma) (tD K E mb) σ H Q := by
  obtain ⟨c, Z, ρ, r0, q⟩ := h
  refine ⟨c, Z, ρ, r0, q.bind fun x ρ1 u H1 r1 e1 hx q1 => ⟨c, Z, ρ1, r1, q1.bind fun y ρ2 v H2 r2 e2 hy q2 => ?_⟩⟩
  obtain ⟨d, hd, k⟩ := q2.lift r2
  exact hf H2 Z x y d u v Q r2.dom (hx.ext e2) hy hd k
theorem d_op {op : Operator} {r : R2} (ho : OpR X (binaryOp op) r) (hf : OpD X.K r f) (ha : PE X a (tD X.K E ma)) (hb : PE X b (tD X.K E mb)) : PE X (.BinOp a op b pos) (tD X.K E (m2 f ma mb)) :=
  (pe_op ho ha hb).imp fun _ _ _ h => op_gen hf h
theorem d_cmp {op : CmpOp} {r : R2} (ho : OpR X (compareOp op) r) (hf : OpD X.K r f) (ha : PE X a (tD X.K E ma)) (hb : PE X b (tD X.K E mb)) (hm : behindInMarks op b = false) : PE X (.Compare a [op] [b] pos) (tD X.K E (m2 f ma mb)) :=
  (pe_cmpR ho ha hb hm).imp fun _ _ _ h => op_gen hf h
theorem d_ix {r : R2} (hr : IxR X r) (hf : OpD X.K r f) (ha : PE X a (tD X.K E ma)) (hb : PE X b (tD X.K E mb)) (hs : PlainIx b := by exact fun _ _ => rfl) : PE X (.Subscript a b pos) (tD X.K E (m2 f ma mb)) :=
  (pe_ix hr ha hb hs).imp fun _ _ _ h => op_gen hf h
theorem un_gen {g : D → Option D} {r : V → Hp → VK → Prop} (hf : UnD K r g) {σ : St} {H : Hp} {Q : VK} (h : tD K E (m1 g ma) σ H Q) : tUn r (tD K E ma) σ H Q := by
  obtain ⟨c, Z, ρ, r0, q⟩ := h
  refine ⟨c, Z, ρ, r0, q.bind fun x ρ1 u H1 r1 e1 hx q1 => ?_⟩
  obtain ⟨d, hd, k⟩ := q1.lift r1
  exact hf H1 Z x d u Q r1.dom hx hd k
theorem d_un {op : UnaryOp} {g : D → Option D} {r : V → Hp → VK → Prop} (ho : UnR X (unaryOp op) r) (hf : UnD X.K r g) (ha : PE X a (tD X.K E ma)) : PE X (.UnaryOp op a pos) (tD X.K E (m1 g ma)) :=
  (pe_un ho ha).imp fun _ _ _ h => un_gen hf h
end
theorem OpD.orL {K : PySem.W.Frag} {r r' : R2} {f g : D → D → Option D} (h : OpD K r f) (h' : OpD K r' g) : OpD K (fun x y H Q => r x y H Q ∨ r' x y H Q) (fun a b => match f a b with | some d => some d | none => g a b) := by
  intro H Z a b d x y Q hz hx hy hd k
  dsimp only at hd
  split at hd
  · rename_i e he
    cases hd
    exact .inl (h H Z a b _ x y Q hz hx hy he k)
  · exact .inr (h' H Z a b d x y Q hz hx hy hd k)
end DL
set_option Elab.async false
set_option linter.all false
set_option maxRecDepth 100000
set_option maxHeartbeats 4000000
namespace DL
open PySem PySem.Spec PyProof.Rows L2
variable [CTab]
/-! ### data as the model compares it -/
mutual
def toPy : D → Option PyData
  | .non => some .none
  | .bl b => some (.bool b)
  | .int i => some (.int i)
  | .str x => some (.str x)
  | .lst l => (toPys l).map .list
  | .rol l => (toPys l).map .list
  | .tup l => (toPys l).map .tuple
  | .dct _ _ => none
  | .ob _ _ => none
def toPys : List D → Option (List PyData)
  | [] => some []
  | d :: l => (toPy d).bind fun p => (toPys l).map fun q => p :: q
end
/-- a scalar -/
def D.sc : D → Option V
  | .non => some .non
  | .bl b => some (.bl b)
  | .int i => some (.int i)
  | .str x => some (.str x)
  | _ => none
def scs : List D → Option (List V)
  | [] => some []
  | d :: l => d.sc.bind fun v => (scs l).map fun r => v :: r
section
variable {K : PySem.W.Frag} {H : Hp} {Z : Addr → Prop}
theorem D.sc_rep {d : D} {v x : V} (h : d.sc = some v) (r : Rep K H Z d x) : x = v := by
  cases d <;> simp only [D.sc, Option.some.injEq, reduceCtorEq] at h <;> (subst h; exact r)
theorem scs_rep : ∀ {l : List D} {vs xs : List V}, scs l = some vs → Reps K H Z l xs → xs = vs
  | [], vs, xs, h, r => by
    simp only [scs, Option.some.injEq] at h
    subst h
    exact r
  | d :: l, vs, xs, h, r => by
    simp only [scs] at h
    obtain ⟨v, r', e, h1, h2⟩ := r.inv
    cases hd : d.sc with
    | none => rw [hd] at h; cases h
    | some u =>
      rw [hd] at h
      cases hl : scs l with
      | none => rw [hl] at h; cases h
      | some us =>
        rw [hl] at h
        have e2 : u :: us = vs := Option.some.inj h
        subst e2
        rw [e, D.sc_rep hd h1, scs_rep hl h2]
theorem sc_flat {d : D} {v : V} (h : d.sc = some v) : flatV v = true := by
  cases d <;> simp only [D.sc, Option.some.injEq, reduceCtorEq] at h <;> (subst h; rfl)
theorem scs_flat : ∀ {l : List D} {vs : List V}, scs l = some vs → vs.all flatV = true
  | [], vs, h => by
    simp only [scs, Option.some.injEq] at h
    subst h
    rfl
  | d :: l, vs, h => by
    simp only [scs] at h
    cases hd : d.sc with
    | none => rw [hd] at h; cases h
    | some u =>
      rw [hd] at h
      cases hl : scs l with
      | none => rw [hl] at h; cases h
      | some us =>
        rw [hl] at h
        have e2 : u :: us = vs := Option.some.inj h
        subst e2
        simp [sc_flat hd, scs_flat hl]
mutual
theorem toPy_dp : ∀ {d : D} {p : PyData} {v : V}, toPy d = some p → Rep K H Z d v → Dp K H v p
  | .non, p, v, h, r => by
    simp only [toPy, Option.some.injEq] at h
    subst h
    cases (show v = .non from r)
    exact .non
  | .bl b, p, v, h, r => by
    simp only [toPy, Option.some.injEq] at h
    subst h
    cases (show v = .bl b from r)
    exact .bl b
  | .int i, p, v, h, r => by
    simp only [toPy, Option.some.injEq] at h
    subst h
    cases (show v = .int i from r)
    exact .int i
  | .str x, p, v, h, r => by
    simp only [toPy, Option.some.injEq] at h
    subst h
    cases (show v = .str x from r)
    exact .str x
  | .lst l, p, v, h, r => by
    simp only [toPy] at h
    simp only [Rep] at r
    obtain ⟨a, vs, e, h1, h2⟩ := r
    cases hl : toPys l with
    | none => rw [hl] at h; cases h
    | some q =>
      rw [hl] at h
      have e2 : PyData.list q = p := Option.some.inj h
      subst e2 e
      exact .lst h1.sq (toPys_dp hl h2)
  | .rol l, p, v, h, r => by
    simp only [toPy] at h
    simp only [Rep] at r
    obtain ⟨a, vs, e, h1, h2⟩ := r
    cases hl : toPys l with
    | none => rw [hl] at h; cases h
    | some q =>
      rw [hl] at h
      have e2 : PyData.list q = p := Option.some.inj h
      subst e2 e
      exact .lst h1.sq (toPys_dp hl h2)
  | .tup l, p, v, h, r => by
    simp only [toPy] at h
    simp only [Rep] at r
    obtain ⟨a, vs, e, h1, h2⟩ := r
    cases hl : toPys l with
    | none => rw [hl] at h; cases h
    | some q =>
      rw [hl] at h
      have e2 : PyData.tuple q = p := Option.some.inj h
      subst e2 e
      exact .tup h1.sq (toPys_dp hl h2)
  | .dct _ _, p, v, h, r => by cases h
  | .ob _ _, p, v, h, r => by cases h
theorem toPys_dp : ∀ {l : List D} {ps : List PyData} {vs : List V}, toPys l = some ps → Reps K H Z l vs → DpAll K H vs ps
  | [], ps, vs, h, r => by
    simp only [toPys, Option.some.injEq] at h
    subst h
    cases (show vs = [] from r)
    exact .nil
  | d :: l, ps, vs, h, r => by
    simp only [toPys] at h
    obtain ⟨v, r', e, h1, h2⟩ := r.inv
    cases hd : toPy d with
    | none => rw [hd] at h; cases h
    | some p =>
      rw [hd] at h
      cases hl : toPys l with
      | none => rw [hl] at h; cases h
      | some q =>
        rw [hl] at h
        have e2 : p :: q = ps := Option.some.inj h
        subst e2 e
        exact .cons (toPy_dp hd h1) (toPys_dp hl h2)
end
end
/-- a comparison by values does what f does on data -/
def CmpD (X : Cx) (op : CmpOp) (f : D → D → Option D) : Prop := ∃ r, OpR X (compareOp op) r ∧ OpD X.K r f
/-! ### ==, != -/
def eqDeep (a b : D) : Option Bool := match toPy a, toPy b with
  | some p, some q => if (SeqAt.shaped p && SeqAt.shaped q) = true then some (PyData.eqv p q) else none
  | _, _ => none
def eqB (a b : D) : Option Bool := match a.sc, b.sc with
  | some x, some y => if scal x y = true then some (decide (x = y)) else eqDeep a b
  | _, _ => eqDeep a b
def dEq (a b : D) : Option D := (eqB a b).map .bl
def dNe (a b : D) : Option D := (eqB a b).map fun k => .bl (!k)
section
variable {K : PySem.W.Frag}
theorem eqDeep_ok {H : Hp} {Z : Addr → Prop} {a b : D} {x y : V} {k : Bool} (h : eqDeep a b = some k) (ra : Rep K H Z a x) (rb : Rep K H Z b y) :
    ∃ d e, Dp K H x d ∧ Dp K H y e ∧ SeqAt.shaped d = true ∧ SeqAt.shaped e = true ∧ k = PyData.eqv d e := by
  unfold eqDeep at h
  split at h
  · rename_i p q hp hq
    split at h
    · rename_i hs
      cases h
      obtain ⟨h1, h2⟩ := Bool.and_eq_true_iff.mp hs
      exact ⟨p, q, toPy_dp hp ra, toPy_dp hq rb, h1, h2, rfl⟩
    · cases h
  · cases h
theorem eqB_ok {H : Hp} {Z : Addr → Prop} {a b : D} {x y : V} {k : Bool} (h : eqB a b = some k) (ra : Rep K H Z a x) (rb : Rep K H Z b y) :
    (scal x y = true ∧ k = decide (x = y)) ∨ ∃ d e, Dp K H x d ∧ Dp K H y e ∧ SeqAt.shaped d = true ∧ SeqAt.shaped e = true ∧ k = PyData.eqv d e := by
  unfold eqB at h
  split at h
  · rename_i u v hu hv
    split at h
    · rename_i hs
      cases h
      rw [D.sc_rep hu ra, D.sc_rep hv rb]
      exact .inl ⟨hs, rfl⟩
    · exact .inr (eqDeep_ok h ra rb)
  · exact .inr (eqDeep_ok h ra rb)
end
section
variable {X : Cx} {E : XK} {pos : Pos} {a b : Expr} {ma mb : M D} {K : PySem.W.Frag}
theorem eq_opD : OpD K (fun x y H Q => rEq x y H Q ∨ rEqD K x y H Q) dEq := by
  intro H Z a b d x y Q hz ra rb h k
  unfold dEq at h
  cases e : eqB a b with
  | none => rw [e] at h; cases h
  | some c =>
    rw [e] at h
    have e2 : D.bl c = d := Option.some.inj h
    subst e2
    rcases eqB_ok e ra rb with ⟨h1, h2⟩ | ⟨p, q, h1, h2, h3, h4, h5⟩
    · exact .inl ⟨h1, k _ H (Same.refl H) (by rw [← h2]; exact rfl)⟩
    · exact .inr ⟨p, q, h1, h2, h3, h4, k _ H (Same.refl H) (by rw [← h5]; exact rfl)⟩
theorem ne_opD : OpD K (fun x y H Q => rNe x y H Q ∨ rNeD K x y H Q) dNe := by
  intro H Z a b d x y Q hz ra rb h k
  unfold dNe at h
  cases e : eqB a b with
  | none => rw [e] at h; cases h
  | some c =>
    rw [e] at h
    have e2 : D.bl (!c) = d := Option.some.inj h
    subst e2
    rcases eqB_ok e ra rb with ⟨h1, h2⟩ | ⟨p, q, h1, h2, h3, h4, h5⟩
    · exact .inl ⟨h1, k _ H (Same.refl H) (by rw [← h2]; exact rfl)⟩
    · exact .inr ⟨p, q, h1, h2, h3, h4, k _ H (Same.refl H) (by rw [← h5]; exact rfl)⟩
theorem c_eq {k : Nat} (hr : Room k X.A) : CmpD X .Eq dEq := ⟨_, op_eq.or (op_eqD hr.units), eq_opD⟩
theorem c_ne {k : Nat} (hr : Room k X.A) : CmpD X .NotEq dNe := ⟨_, op_ne.or (op_neD hr.units), ne_opD⟩
end
/-! ### order -/
def dLt : D → D → Option D
  | .int i, .int j => some (.bl (decide (i < j)))
  | .str x, .str y => some (.bl (decide (x.cps.toList < y.cps.toList)))
  | _, _ => none
def dLe : D → D → Option D
  | .int i, .int j => some (.bl (decide (i ≤ j)))
  | .str x, .str y => some (.bl (!decide (y.cps.toList < x.cps.toList)))
  | _, _ => none
def dGt : D → D → Option D
  | .int i, .int j => some (.bl (decide (j < i)))
  | .str x, .str y => some (.bl (decide (y.cps.toList < x.cps.toList)))
  | _, _ => none
def dGe : D → D → Option D
  | .int i, .int j => some (.bl (decide (j ≤ i)))
  | .str x, .str y => some (.bl (!decide (x.cps.toList < y.cps.toList)))
  | _, _ => none
section
variable {X : Cx} {E : XK} {pos : Pos} {a b : Expr} {ma mb : M D} {K : PySem.W.Frag}
theorem ord_opD {f : D → D → Option D} {gi : Int → Int → Bool} {gs : Str → Str → Bool} (h1 : ∀ i j, f (.int i) (.int j) = some (.bl (gi i j))) (h2 : ∀ i j, f (.str i) (.str j) = some (.bl (gs i j)))
    (h3 : ∀ a b d, f a b = some d → (∃ i j, a = .int i ∧ b = .int j) ∨ ∃ i j, a = .str i ∧ b = .str j) :
    OpD K (fun x y H Q => rI0 (fun i j => .bl (gi i j)) x y H Q ∨ ∃ i j, x = .str i ∧ y = .str j ∧ Q (.bl (gs i j)) H) f := by
  intro H Z a b d x y Q hz ra rb h k
  rcases h3 a b d h with ⟨i, j, rfl, rfl⟩ | ⟨i, j, rfl, rfl⟩
  · cases (show x = .int i from ra)
    cases (show y = .int j from rb)
    rw [h1] at h
    cases h
    exact .inl ⟨i, j, rfl, rfl, k _ H (Same.refl H) rfl⟩
  · cases (show x = .str i from ra)
    cases (show y = .str j from rb)
    rw [h2] at h
    cases h
    exact .inr ⟨i, j, rfl, rfl, k _ H (Same.refl H) rfl⟩
theorem two_of {f : D → D → Option D} (h : ∀ a b, (∀ i j, ¬ (a = .int i ∧ b = .int j)) → (∀ i j, ¬ (a = .str i ∧ b = .str j)) → f a b = none) : ∀ a b d, f a b = some d → (∃ i j, a = .int i ∧ b = .int j) ∨ ∃ i j, a = .str i ∧ b = .str j := by
  intro a b d e
  by_cases h1 : ∃ i j, a = D.int i ∧ b = D.int j
  · exact .inl h1
  · by_cases h2 : ∃ i j, a = D.str i ∧ b = D.str j
    · exact .inr h2
    · rw [h a b (fun i j z => h1 ⟨i, j, z⟩) (fun i j z => h2 ⟨i, j, z⟩)] at e
      cases e
theorem c_lt : CmpD X .Lt dLt := ⟨_, op_lt.or op_lt_str, ord_opD (fun _ _ => rfl) (fun _ _ => rfl) (two_of fun a b h1 h2 => by unfold dLt; split <;> first | rfl | exact absurd ⟨rfl, rfl⟩ (h1 _ _) | exact absurd ⟨rfl, rfl⟩ (h2 _ _))⟩
theorem c_le : CmpD X .LtE dLe := ⟨_, op_le.or op_le_str, ord_opD (fun _ _ => rfl) (fun _ _ => rfl) (two_of fun a b h1 h2 => by unfold dLe; split <;> first | rfl | exact absurd ⟨rfl, rfl⟩ (h1 _ _) | exact absurd ⟨rfl, rfl⟩ (h2 _ _))⟩
theorem c_gt : CmpD X .Gt dGt := ⟨_, op_gt.or op_gt_str, ord_opD (fun _ _ => rfl) (fun _ _ => rfl) (two_of fun a b h1 h2 => by unfold dGt; split <;> first | rfl | exact absurd ⟨rfl, rfl⟩ (h1 _ _) | exact absurd ⟨rfl, rfl⟩ (h2 _ _))⟩
theorem c_ge : CmpD X .GtE dGe := ⟨_, op_ge.or op_ge_str, ord_opD (fun _ _ => rfl) (fun _ _ => rfl) (two_of fun a b h1 h2 => by unfold dGe; split <;> first | rfl | exact absurd ⟨rfl, rfl⟩ (h1 _ _) | exact absurd ⟨rfl, rfl⟩ (h2 _ _))⟩
end
/-! ### is None -/
def dIsN : D → D → Option D
  | .non, .non => some (.bl true)
  | .bl _, .non | .int _, .non | .str _, .non | .lst _, .non | .tup _, .non | .dct _ _, .non | .ob _ _, .non | .rol _, .non => some (.bl false)
  | _, _ => none
def dNotN (a b : D) : Option D := match dIsN a b with
  | some (.bl k) => some (.bl (!k))
  | _ => none
section
variable {X : Cx} {E : XK} {pos : Pos} {a b : Expr} {ma mb : M D} {K : PySem.W.Frag}
theorem isN_ok {H : Hp} {Z : Addr → Prop} {a b d : D} {x y : V} (h : dIsN a b = some d) (ra : Rep K H Z a x) (rb : Rep K H Z b y) : y = .non ∧ d = .bl (decide (x = .non)) := by
  have hb : b = .non := by
    unfold dIsN at h
    split at h <;> first | rfl | cases h
  subst hb
  cases (show y = .non from rb)
  refine ⟨rfl, ?_⟩
  cases a with
  | non => cases (show x = .non from ra); cases h; rfl
  | bl _ => cases (show x = .bl _ from ra); cases h; rfl
  | int _ => cases (show x = .int _ from ra); cases h; rfl
  | str _ => cases (show x = .str _ from ra); cases h; rfl
  | lst _ => simp only [Rep] at ra; obtain ⟨p, _, e, _⟩ := ra; subst e; cases h; rfl
  | rol _ => simp only [Rep] at ra; obtain ⟨p, _, e, _⟩ := ra; subst e; cases h; rfl
  | tup _ => simp only [Rep] at ra; obtain ⟨p, _, e, _⟩ := ra; subst e; cases h; rfl
  | dct _ _ => simp only [Rep] at ra; obtain ⟨p, _, e, _⟩ := ra; subst e; cases h; rfl
  | ob _ _ => simp only [Rep] at ra; obtain ⟨p, _, _, e, _⟩ := ra; subst e; cases h; rfl
theorem c_is : CmpD X .Is dIsN :=
  ⟨_, op_isN, fun H Z a b d x y Q hz ra rb h k => by
    obtain ⟨h1, h2⟩ := isN_ok h ra rb
    exact ⟨h1, k _ H (Same.refl H) (by rw [h2]; exact rfl)⟩⟩
theorem c_isnot : CmpD X .IsNot dNotN :=
  ⟨_, op_notN, fun H Z a b d x y Q hz ra rb h k => by
    unfold dNotN at h
    cases e : dIsN a b with
    | none => rw [e] at h; cases h
    | some c =>
      rw [e] at h
      obtain ⟨h1, h2⟩ := isN_ok e ra rb
      subst h2
      have e3 : D.bl (!decide (x = V.non)) = d := Option.some.inj h
      exact ⟨h1, k _ H (Same.refl H) (by rw [← e3]; exact rfl)⟩⟩
end
end DL
set_option Elab.async false
set_option linter.all false
set_option maxRecDepth 100000
set_option maxHeartbeats 4000000
namespace DL
open PySem PySem.Spec PyProof.Rows L2
variable [CTab]
section
variable {K : PySem.W.Frag} {H : Hp} {Z : Addr → Prop}
/-- new objects -/
theorem new_lst {p : Addr} {l : List D} {vs : List V} (hz : ∀ p, Z p → H p ≠ none) (hp : H p = none) (r : Reps K H Z l vs) : Rep K (upd H p (.lst vs)) Z (.lst l) (.ref p) := by
  simp only [Rep]
  exact ⟨p, vs, rfl, ⟨fun z => hz p z hp, .inl upd_same⟩, Reps.ext (Ext.same (same_upd hp)) _ _ r⟩
theorem new_tup {p : Addr} {l : List D} {vs : List V} (hz : ∀ p, Z p → H p ≠ none) (hp : H p = none) (r : Reps K H Z l vs) : Rep K (upd H p (.tup vs)) Z (.tup l) (.ref p) := by
  simp only [Rep]
  exact ⟨p, vs, rfl, .inl ⟨fun z => hz p z hp, .inl upd_same⟩, Reps.ext (Ext.same (same_upd hp)) _ _ r⟩
/-- the items of a list, a tuple -/
def D.seq : D → Option (List D)
  | .lst l => some l
  | .rol l => some l
  | .tup l => some l
  | _ => none
def D.lis : D → Option (List D)
  | .lst l => some l
  | .rol l => some l
  | _ => none
theorem D.seq_rep {d : D} {l : List D} {v : V} (h : d.seq = some l) (r : Rep K H Z d v) : ∃ p vs, v = .ref p ∧ (SqL K H p vs ∨ SqT K H p vs) ∧ Reps K H Z l vs := by
  cases d <;> simp only [D.seq, Option.some.injEq, reduceCtorEq] at h <;> subst h <;> simp only [Rep] at r
  · obtain ⟨p, vs, e, h1, h2⟩ := r
    exact ⟨p, vs, e, .inl h1.sq, h2⟩
  · obtain ⟨p, vs, e, h1, h2⟩ := r
    exact ⟨p, vs, e, .inr h1.sq, h2⟩
  · obtain ⟨p, vs, e, h1, h2⟩ := r
    exact ⟨p, vs, e, .inl h1.sq, h2⟩
theorem D.lis_rep {d : D} {l : List D} {v : V} (h : d.lis = some l) (r : Rep K H Z d v) : ∃ p vs, v = .ref p ∧ SqL K H p vs ∧ Reps K H Z l vs := by
  cases d <;> simp only [D.lis, Option.some.injEq, reduceCtorEq] at h <;> subst h <;> simp only [Rep] at r
  · obtain ⟨p, vs, e, h1, h2⟩ := r
    exact ⟨p, vs, e, h1.sq, h2⟩
  · obtain ⟨p, vs, e, h1, h2⟩ := r
    exact ⟨p, vs, e, h1.sq, h2⟩
end
/-! ### +, -, *, //, %, ** -/
def lim64 (i : Int) : Bool := decide (-(2 ^ 64) < i ∧ i < 2 ^ 64)
def dAdd : D → D → Option D
  | .int i, .int j => some (.int (i + j))
  | .str x, .str y => if x.length + y.length ≤ sizeLine then some (.str (x ++ y)) else none
  | .lst a, .lst b => if a.length + b.length ≤ sizeLine then some (.lst (a ++ b)) else none
  | .tup a, .tup b => if a.length + b.length ≤ sizeLine then some (.tup (a ++ b)) else none
  | _, _ => none
def dSub : D → D → Option D
  | .int i, .int j => some (.int (i - j))
  | _, _ => none
def dMul : D → D → Option D
  | .int i, .int j => if (lim64 i || lim64 j) = true then some (.int (i * j)) else none
  | _, _ => none
def dFdiv : D → D → Option D
  | .int i, .int j => if 0 < j ∧ j < 1073741824 then some (.int (i / j)) else none
  | _, _ => none
def dMod : D → D → Option D
  | .int i, .int j => if 0 < j then some (.int (i % j)) else none
  | _, _ => none
def dPow : D → D → Option D
  | .int i, .int j => if 0 ≤ j ∧ j ≤ 1000000 ∧ i.natAbs < 2 ^ 64 then some (.int (i ^ j.toNat)) else none
  | _, _ => none
def rCatL : R2 := fun x y H Q => ∃ l b xs zs, x = .ref l ∧ y = .ref b ∧ Rd H l (.lst xs) ∧ Rd H b (.lst zs) ∧ xs.length + zs.length ≤ sizeLine ∧ ∀ p, H p = none → Q (.ref p) (upd H p (.lst (xs ++ zs)))
section
variable {X : Cx} {E : XK} {pos : Pos} {a b : Expr} {ma mb : M D} {K : PySem.W.Frag}
theorem lst_at {pins : List (Addr × Obj)} {σ : St} {H : Hp} {s : Shared} {l : Addr} {xs : List V} (I : Inv X pins σ H s) (h : Rd H l (.lst xs)) :
    xs.length ≤ sizeLine ∧ ∃ (its : List Value) (n : Nat), Vals xs its ∧ xs.length = its.length ∧ s.heap.get? l = some { cls := .type "list", data := .seq its.toArray n } := by
  obtain ⟨z, its, n, r, e⟩ := h.ok I.hok
  exact ⟨z, its, n, r, r.length, e⟩
theorem op_catL : OpR X (binaryOp .Add) rCatL := by
  intro pins s σ H x y v u Q I rx ry h
  obtain ⟨l, b, xs, zs, rfl, rfl, h1, h2, hz, q⟩ := h
  cases rx
  cases ry
  obtain ⟨_, u1, n1, r1, l1, e1⟩ := lst_at I h1
  obtain ⟨_, u2, n2, r2, l2, e2⟩ := lst_at I h2
  refine PySem.P.add_list e1 e2 ?_ (by simp only [List.size_toArray]; omega)
  rw [List.append_toArray]
  exact ⟨.ref _, _, I.lnew (t' := s.toks) (r1.append r2) (by simp only [List.length_append]; omega), rfl, q _ I.fresh⟩
theorem add_opD : OpD K (fun x y H Q => rI0 (fun i j => .int (i + j)) x y H Q ∨ (∃ i j, x = .str i ∧ y = .str j ∧ i.length + j.length ≤ sizeLine ∧ Q (.str (i ++ j)) H) ∨ rCatL x y H Q ∨ rCatA K x y H Q) dAdd := by
  intro H Z a b d x y Q hz ra rb h k
  unfold dAdd at h
  split at h
  · cases (show x = _ from ra)
    cases (show y = _ from rb)
    cases h
    exact .inl ⟨_, _, rfl, rfl, k _ H (Same.refl H) rfl⟩
  · cases (show x = _ from ra)
    cases (show y = _ from rb)
    split at h
    · rename_i hl
      cases h
      exact .inr (.inl ⟨_, _, rfl, rfl, hl, k _ H (Same.refl H) rfl⟩)
    · cases h
  · simp only [Rep] at ra rb
    obtain ⟨p, vs, e, h1, h2⟩ := ra
    obtain ⟨q, us, e', h3, h4⟩ := rb
    subst e e'
    split at h
    · rename_i hl
      cases h
      exact .inr (.inr (.inl ⟨p, q, vs, us, rfl, rfl, h1.2, h3.2, by rw [← h2.len, ← h4.len]; exact hl, fun r hr => k _ _ (same_upd hr) (new_lst hz hr (h2.app h4))⟩))
    · cases h
  · rename_i l1 l2
    have ra' := ra
    have rb' := rb
    simp only [Rep] at ra rb
    obtain ⟨p, vs, e, h1, h2⟩ := ra
    obtain ⟨q, us, e', h3, h4⟩ := rb
    subst e e'
    split at h
    · rename_i hl
      cases h
      refine .inr (.inr (.inr ⟨p, q, vs, us, rfl, rfl, h1.sq, h3.sq, by rw [← h2.len, ← h4.len]; exact hl, fun z => ?_, fun _ z => ?_, fun _ _ r hr => k _ _ (same_upd hr) (new_tup hz hr (h2.app h4))⟩))
      · subst z
        have e1 : l1 = [] := List.eq_nil_of_length_eq_zero h2.len
        subst e1
        exact k _ H (Same.refl H) rb'
      · subst z
        have e1 : l2 = [] := List.eq_nil_of_length_eq_zero h4.len
        subst e1
        rw [List.append_nil] at k
        exact k _ H (Same.refl H) ra'
    · cases h
  · cases h
theorem d_add (ha : PE X a (tD X.K E ma)) (hb : PE X b (tD X.K E mb)) : PE X (.BinOp a .Add b pos) (tD X.K E (m2 dAdd ma mb)) := d_op (op_add.or (op_add_str.or (op_catL.or op_catA))) add_opD ha hb
theorem int_opD {C : Int → Int → Prop} {g : Int → Int → Int} {f : D → D → Option D} (h : ∀ a b d, f a b = some d → ∃ i j, a = .int i ∧ b = .int j ∧ C i j ∧ d = .int (g i j)) : OpD K (rI C fun i j => .int (g i j)) f := by
  intro H Z a b d x y Q hz ra rb e k
  obtain ⟨i, j, rfl, rfl, hc, rfl⟩ := h a b d e
  cases (show x = _ from ra)
  cases (show y = _ from rb)
  exact ⟨_, _, rfl, rfl, hc, k _ H (Same.refl H) rfl⟩
theorem d_sub (ha : PE X a (tD X.K E ma)) (hb : PE X b (tD X.K E mb)) : PE X (.BinOp a .Sub b pos) (tD X.K E (m2 dSub ma mb)) := by
  refine d_op (r := rI (fun _ _ => True) fun i j => .int (i - j)) (opI fun _ _ _ _ _ _ _ _ q => sub_int q) (int_opD fun a b d e => ?_) ha hb
  unfold dSub at e
  split at e
  · cases e
    exact ⟨_, _, rfl, rfl, trivial, rfl⟩
  · cases e
theorem d_mul (ha : PE X a (tD X.K E ma)) (hb : PE X b (tD X.K E mb)) : PE X (.BinOp a .Mult b pos) (tD X.K E (m2 dMul ma mb)) := by
  refine d_op op_mul (int_opD fun a b d e => ?_) ha hb
  unfold dMul at e
  split at e
  · split at e
    · rename_i h
      cases e
      refine ⟨_, _, rfl, rfl, ?_, rfl⟩
      rcases Bool.or_eq_true_iff.mp h with q | q
      · exact .inl (of_decide_eq_true q)
      · exact .inr (of_decide_eq_true q)
    · cases e
  · cases e
theorem d_fdiv (ha : PE X a (tD X.K E ma)) (hb : PE X b (tD X.K E mb)) : PE X (.BinOp a .FloorDiv b pos) (tD X.K E (m2 dFdiv ma mb)) := by
  refine d_op op_fdiv (int_opD fun a b d e => ?_) ha hb
  unfold dFdiv at e
  split at e
  · split at e
    · rename_i h
      cases e
      exact ⟨_, _, rfl, rfl, h, rfl⟩
    · cases e
  · cases e
theorem d_mod (ha : PE X a (tD X.K E ma)) (hb : PE X b (tD X.K E mb)) : PE X (.BinOp a .Mod b pos) (tD X.K E (m2 dMod ma mb)) := by
  refine d_op op_mod (int_opD fun a b d e => ?_) ha hb
  unfold dMod at e
  split at e
  · split at e
    · rename_i h
      cases e
      exact ⟨_, _, rfl, rfl, h, rfl⟩
    · cases e
  · cases e
theorem d_pow (ha : PE X a (tD X.K E ma)) (hb : PE X b (tD X.K E mb)) : PE X (.BinOp a .Pow b pos) (tD X.K E (m2 dPow ma mb)) := by
  refine d_op op_pow (int_opD fun a b d e => ?_) ha hb
  unfold dPow at e
  split at e
  · split at e
    · rename_i h
      cases e
      exact ⟨_, _, rfl, rfl, h, rfl⟩
    · cases e
  · cases e
def dNeg : D → Option D
  | .int i => some (.int (-i))
  | _ => none
theorem d_neg (ha : PE X a (tD X.K E ma)) : PE X (.UnaryOp .USub a pos) (tD X.K E (m1 dNeg ma)) := by
  refine d_un un_neg (fun H Z a d x Q hz ra e k => ?_) ha
  unfold dNeg at e
  split at e
  · cases e
    cases (show x = _ from ra)
    exact ⟨_, rfl, k _ H (Same.refl H) rfl⟩
  · cases e
end
/-! ### in, not in -/
def D.key : D → Option Key
  | .int i => some (.inl i)
  | .str x => some (.inr x)
  | _ => none
def hasK (ks : List Key) (k : Key) : Bool := ks.any fun j => decide (j = k)
def inB (x y : D) : Option Bool := match y with
  | .str z => (match x with
    | .str c => if c.cps.size = 1 then some (decide (c.cps.getD 0 0 ∈ z.cps.toList)) else none
    | _ => none)
  | .dct ks l => if ks.length = l.length then x.key.map fun k => hasK ks k else none
  | _ => match y.seq with
    | some l => (match x.sc, scs l with
      | some v, some vs => some (inV v vs)
      | _, _ => match y.lis, toPy x, toPys l with
        | some _, some p, some ps => if (SeqAt.shaped p && SeqAt.shaped (.list ps)) = true then some (ps.any fun z => PyData.eqv z p) else none
        | _, _, _ => none)
    | none => none
def dIn (x y : D) : Option D := (inB x y).map .bl
def dNotIn (x y : D) : Option D := (inB x y).map fun k => .bl (!k)
section
variable {X : Cx} {E : XK} {pos : Pos} {a b : Expr} {ma mb : M D} {K : PySem.W.Frag}
/-- the ways an answer is come to -/
def InW (K : PySem.W.Frag) (x y : V) (H : Hp) (k : Bool) : Prop :=
  (∃ (c : Nat) (z : Str), x = .str ⟨#[c]⟩ ∧ y = .str z ∧ k = decide (c ∈ z.cps.toList)) ∨
  (∃ p xs, y = .ref p ∧ (SqL K H p xs ∨ SqT K H p xs) ∧ flatV x = true ∧ xs.all flatV = true ∧ k = inV x xs) ∨
  (∃ d ds, Dp K H x d ∧ Dp K H y (.list ds) ∧ SeqAt.shaped d = true ∧ SeqAt.shaped (.list ds) = true ∧ k = ds.any fun z => PyData.eqv z d) ∨
  ∃ p o, y = .ref p ∧ DGet H p x o ∧ k = o.isSome
theorem op_inW (hu : X.A.units + 65 < cLine) : OpR X (compareOp .In) (fun x y H Q => ∃ k, InW X.K x y H k ∧ Q (.bl k) H) := by
  intro pins s σ H x y v u Q I rx ry h
  obtain ⟨k, h, q⟩ := h
  rcases h with ⟨c, z, rfl, rfl, rfl⟩ | ⟨p, xs, rfl, h1, h2, h3, rfl⟩ | ⟨d, ds, h1, h2, h3, h4, rfl⟩ | ⟨p, o, rfl, g, rfl⟩
  · exact op_in_sign pins s σ H _ _ v u Q I rx ry ⟨c, z, rfl, rfl, q⟩
  · exact op_in_seq pins s σ H _ _ v u Q I rx ry ⟨p, xs, rfl, h1, h2, h3, q⟩
  · exact op_inD hu pins s σ H _ _ v u Q I rx ry ⟨d, ds, h1, h2, h3, h4, q⟩
  · cases ry
    exact d_in (by omega) I g rx fun s' I' => ⟨.bl _, H, I', rfl, q⟩
theorem op_notInW (hu : X.A.units + 65 < cLine) : OpR X (compareOp .NotIn) (fun x y H Q => ∃ k, InW X.K x y H k ∧ Q (.bl (!k)) H) := by
  intro pins s σ H x y v u Q I rx ry h
  obtain ⟨k, h, q⟩ := h
  rcases h with ⟨c, z, rfl, rfl, rfl⟩ | ⟨p, xs, rfl, h1, h2, h3, rfl⟩ | ⟨d, ds, h1, h2, h3, h4, rfl⟩ | ⟨p, o, rfl, g, rfl⟩
  · exact op_notIn_sign pins s σ H _ _ v u Q I rx ry ⟨c, z, rfl, rfl, q⟩
  · exact op_notIn_seq pins s σ H _ _ v u Q I rx ry ⟨p, xs, rfl, h1, h2, h3, q⟩
  · exact op_notInD hu pins s σ H _ _ v u Q I rx ry ⟨d, ds, h1, h2, h3, h4, q⟩
  · cases ry
    exact d_notIn (by omega) I g rx fun s' I' => ⟨.bl _, H, I', rfl, q⟩
theorem D.key_rep {H : Hp} {Z : Addr → Prop} {d : D} {k : Key} {v : V} (h : d.key = some k) (r : Rep K H Z d v) : v = kV k := by
  cases d <;> simp only [D.key, Option.some.injEq, reduceCtorEq] at h <;> (subst h; exact r)
theorem valV_zip (k : Key) : ∀ (ks : List Key) (vs : List V), ks.length = vs.length → (valV (ks.zip vs) k).isSome = hasK ks k
  | [], [], _ => by simp [valV, hasK]
  | j :: ks, v :: vs, h => by
    have ih := valV_zip k ks vs (by simpa using h)
    by_cases e : j = k
    · rw [List.zip_cons_cons, valV_pos (by exact e)]
      simp [hasK, e]
    · rw [List.zip_cons_cons, valV_neg (by exact e), ih]
      simp [hasK, e]
theorem inB_ok {H : Hp} {Z : Addr → Prop} {a b : D} {x y : V} {k : Bool} (h : inB a b = some k) (ra : Rep K H Z a x) (rb : Rep K H Z b y) : InW K x y H k := by
  have seqs : ∀ {l : List D}, b.seq = some l → (match a.sc, scs l with
      | some v, some vs => some (inV v vs)
      | _, _ => match b.lis, toPy a, toPys l with
        | some _, some p, some ps => if (SeqAt.shaped p && SeqAt.shaped (.list ps)) = true then some (ps.any fun z => PyData.eqv z p) else none
        | _, _, _ => none) = some k → InW K x y H k := by
    intro l hs h
    split at h
    · rename_i v vs h1 h2
      cases h
      obtain ⟨p, us, rfl, h3, h4⟩ := D.seq_rep hs rb
      rw [D.sc_rep h1 ra]
      have e := scs_rep h2 h4
      subst e
      exact .inr (.inl ⟨p, us, rfl, h3, sc_flat h1, scs_flat h2, rfl⟩)
    · split at h
      · rename_i l' p ps h1 h2 h3
        split at h
        · rename_i hs'
          cases h
          obtain ⟨s1, s2⟩ := Bool.and_eq_true_iff.mp hs'
          have el : l' = l := by
            cases b <;> simp only [D.lis, D.seq, Option.some.injEq, reduceCtorEq] at h1 hs <;> exact h1.symm.trans hs
          subst el
          obtain ⟨q, us, rfl, h4, h5⟩ := D.lis_rep h1 rb
          exact .inr (.inr (.inl ⟨p, ps, toPy_dp h2 ra, .lst h4 (toPys_dp h3 h5), s1, s2, rfl⟩))
        · cases h
      · cases h
  unfold inB at h
  split at h
  · rename_i z
    cases (show y = _ from rb)
    split at h
    · rename_i c
      cases (show x = _ from ra)
      split at h
      · rename_i hc
        cases h
        refine .inl ⟨c.cps.getD 0 0, z, ?_, rfl, rfl⟩
        obtain ⟨cps⟩ := c
        simp only at hc
        congr 1
        congr 1
        apply Array.ext
        · simpa using hc
        · intro i h1 h2
          have e : i = 0 := by simp at h2; omega
          subst e
          simp [Array.getD, h1]
      · cases h
    · cases h
  · rename_i ks l
    split at h
    · rename_i hl
      simp only [Rep] at rb
      obtain ⟨p, vs, rfl, n, h1, hlen, h2⟩ := rb
      cases hk : a.key with
      | none => rw [hk] at h; cases h
      | some j =>
        rw [hk] at h
        have e : hasK ks j = k := Option.some.inj h
        refine .inr (.inr (.inr ⟨p, _, rfl, .inl ⟨_, j, h1, D.key_rep hk ra, rfl⟩, ?_⟩))
        rw [valV_zip j ks vs hlen, e]
    · cases h
  · split at h
    · rename_i l hs
      exact seqs hs h
    · cases h
theorem c_in {k : Nat} (hr : Room k X.A) : CmpD X .In dIn := by
  refine ⟨_, op_inW (by have := hr.un; omega), fun H Z a b d x y Q hz ra rb h k => ?_⟩
  unfold dIn at h
  cases e : inB a b with
  | none => rw [e] at h; cases h
  | some c =>
    rw [e] at h
    have e2 : D.bl c = d := Option.some.inj h
    subst e2
    exact ⟨c, inB_ok e ra rb, k _ H (Same.refl H) rfl⟩
theorem c_notin {k : Nat} (hr : Room k X.A) : CmpD X .NotIn dNotIn := by
  refine ⟨_, op_notInW (by have := hr.un; omega), fun H Z a b d x y Q hz ra rb h k => ?_⟩
  unfold dNotIn at h
  cases e : inB a b with
  | none => rw [e] at h; cases h
  | some c =>
    rw [e] at h
    have e2 : D.bl (!c) = d := Option.some.inj h
    subst e2
    exact ⟨c, inB_ok e ra rb, k _ H (Same.refl H) rfl⟩
end
/-! ### a[i] -/
def dIx (x y : D) : Option D := match y with
  | .int i => (match x with
    | .str z => if z.length ≤ sizeLine then (atI z.cps.toList i).map fun c => .str ⟨#[c]⟩ else none
    | _ => x.seq.bind fun l => atI l i)
  | _ => none
section
variable {X : Cx} {E : XK} {pos : Pos} {a b : Expr} {ma mb : M D} {K : PySem.W.Frag}
theorem Reps.atI {H : Hp} {Z : Addr → Prop} {l : List D} {vs : List V} {i : Int} {d : D} (r : Reps K H Z l vs) (h : L2.atI l i = some d) : ∃ v, L2.atI vs i = some v ∧ Rep K H Z d v := by
  unfold L2.atI at h ⊢
  rw [← r.len]
  cases e : ixN l.length i with
  | none => rw [e] at h; cases h
  | some j =>
    rw [e] at h
    exact r.get h
theorem ix_opD : OpD K (rIx K) dIx := by
  intro H Z a b d x y Q hz ra rb h k
  unfold dIx at h
  split at h
  · rename_i i
    cases (show y = _ from rb)
    split at h
    · rename_i z
      cases (show x = _ from ra)
      split at h
      · rename_i hl
        cases e : L2.atI z.cps.toList i with
        | none => rw [e] at h; cases h
        | some c =>
          rw [e] at h
          cases h
          exact .inr (.inr ⟨z, i, c, rfl, rfl, hl, e, k _ H (Same.refl H) rfl⟩)
      · cases h
    · cases e : a.seq with
      | none => rw [e] at h; cases h
      | some l =>
        rw [e] at h
        obtain ⟨p, vs, rfl, h1, h2⟩ := D.seq_rep e ra
        obtain ⟨v, h3, h4⟩ := h2.atI (show L2.atI l i = some d from h)
        rcases h1 with h1 | h1
        · exact .inl ⟨p, vs, i, v, rfl, rfl, h1, h3, k _ H (Same.refl H) h4⟩
        · exact .inr (.inl ⟨p, vs, i, v, rfl, rfl, h1, h3, k _ H (Same.refl H) h4⟩)
  · cases h
theorem d_item (ha : PE X a (tD X.K E ma)) (hb : PE X b (tD X.K E mb)) (hs : PlainIx b := by exact fun _ _ => rfl) : PE X (.Subscript a b pos) (tD X.K E (m2 dIx ma mb)) := d_ix ix_seq ix_opD ha hb hs
end
/-! ### slices -/
def cutD (l : List D) (lo hi : Option Int) : List D := (l.drop (HT.sIx l.length 0 lo)).take (HT.sIx l.length l.length hi - HT.sIx l.length 0 lo)
def mOpt (m : Option (M D)) : M (Option Int) := match m with
  | none => fun ρ => .ok none ρ
  | some m => fun ρ => bindR (m ρ) fun d ρ => match d with
    | .int i => .ok (some i) ρ
    | _ => .fail
def rO : RG (Option Int) (Option Int) := fun _ _ _ _ a b => a = b
def dCut (d : D) (lo hi : Option Int) : Option D := match d with
  | .lst l => some (.lst (cutD l lo hi))
  | .rol l => some (.lst (cutD l lo hi))
  | .tup l => some (.tup (cutD l lo hi))
  | _ => none
def mSl (ma : M D) (ml mh : Option (M D)) : M D := fun ρ => bindR (ma ρ) fun a ρ => bindR (mOpt ml ρ) fun lo ρ => bindR (mOpt mh ρ) fun hi ρ => liftO (dCut a lo hi) ρ
section
variable {X : Cx} {E : XK} {pos p2 : Pos} {e : Expr} {ma m : M D} {K : PySem.W.Frag}
theorem Reps.cut {H : Hp} {Z : Addr → Prop} {l : List D} {vs : List V} (lo hi : Option Int) (r : Reps K H Z l vs) : Reps K H Z (cutD l lo hi) (cutV vs lo hi) := by
  unfold cutD cutV
  rw [r.len]
  exact (r.drop _).take _
theorem do_none : PO X none (tG X.K E rO (mOpt none)) := by
  refine ⟨fun pins s σ H Q I h => po_none.run pins s σ H Q I ?_⟩
  obtain ⟨c, Z, ρ, r, q⟩ := h
  exact q.done r rfl
theorem do_some (h : PE X e (tD X.K E m)) : PO X (some e) (tG X.K E rO (mOpt (some m))) := by
  refine ⟨fun pins s σ H Q I q => (po_some h).run pins s σ H Q I ?_⟩
  obtain ⟨c, Z, ρ, r, q⟩ := q
  refine ⟨c, Z, ρ, r, q.bind fun d ρ1 v H1 r1 e1 h1 q1 => ?_⟩
  split at q1
  · rename_i i
    cases (show v = _ from h1)
    exact ⟨i, rfl, q1.done r1 rfl⟩
  · exact q1.elim
theorem d_slice {lo hi : Option Expr} {ml mh : Option (M D)} (he : PE X e (tD X.K E ma)) (hl : PO X lo (tG X.K E rO (mOpt ml))) (hh : PO X hi (tG X.K E rO (mOpt mh))) : PE X (.Subscript e (.Slice lo hi none p2) pos) (tD X.K E (mSl ma ml mh)) := by
  refine (pe_slice (sl_list.or sl_tupA) he hl hh).imp fun σ H Q h => ?_
  obtain ⟨c, Z, ρ, r, q⟩ := h
  refine ⟨c, Z, ρ, r, q.bind fun d ρ1 v H1 r1 e1 h1 q1 => ⟨c, Z, ρ1, r1, q1.bind fun lo ρ2 lo' H2 r2 e2 h2 q2 => ⟨c, Z, ρ2, r2, q2.bind fun hi ρ3 hi' H3 r3 e3 h3 q3 => ?_⟩⟩⟩
  cases (show lo = lo' from h2)
  cases (show hi = hi' from h3)
  obtain ⟨w, hw, k⟩ := q3.lift r3
  have rd : Rep X.K H3 Z d v := (h1.ext e2).ext e3
  unfold dCut at hw
  split at hw
  · cases hw
    simp only [Rep] at rd
    obtain ⟨p, vs, rfl, g1, g2⟩ := rd
    exact .inl ⟨p, vs, rfl, g1.sq, fun a ha => k _ _ (same_upd ha) (new_lst r3.dom ha (g2.cut _ _))⟩
  · cases hw
    simp only [Rep] at rd
    obtain ⟨p, vs, rfl, g1, g2⟩ := rd
    exact .inl ⟨p, vs, rfl, g1.sq, fun a ha => k _ _ (same_upd ha) (new_lst r3.dom ha (g2.cut _ _))⟩
  · rename_i l
    cases hw
    have rd' := rd
    simp only [Rep] at rd
    obtain ⟨p, vs, rfl, g1, g2⟩ := rd
    refine .inr ⟨p, vs, rfl, g1.sq, fun hw => ?_, fun _ a ha => k _ _ (same_upd ha) (new_tup r3.dom ha (g2.cut _ _))⟩
    have e4 : cutD l lo hi = l := by
      unfold cutD
      rw [← g2.len] at hw
      rw [hw.1, hw.2]
      simp
    rw [e4] at k
    exact k _ H3 (Same.refl H3) rd'
  · cases hw
def dRev : D → Option D
  | .lst l => some (.lst l.reverse)
  | .rol l => some (.lst l.reverse)
  | _ => none
theorem d_rev {k : Nat} {p1 p3 : Pos} (he : PE X e (tD X.K E ma)) : PE X (.Subscript e (.Slice none none (some (.UnaryOp .USub (.Constant (.int 1) k p1) p2)) p3) pos) (tD X.K E (m1 dRev ma)) := by
  refine (pe_revL he).imp fun σ H Q h => ?_
  obtain ⟨c, Z, ρ, r, q⟩ := h
  refine ⟨c, Z, ρ, r, q.bind fun d ρ1 v H1 r1 e1 h1 q1 => ?_⟩
  obtain ⟨w, hw, k⟩ := q1.lift r1
  have h1 : Rep X.K H1 Z d v := h1
  unfold dRev at hw
  split at hw
  · cases hw
    simp only [Rep] at h1
    obtain ⟨p, vs, rfl, g1, g2⟩ := h1
    exact ⟨p, vs, rfl, g1.sq, fun a ha => k _ _ (same_upd ha) (new_lst r1.dom ha g2.rev)⟩
  · cases hw
    simp only [Rep] at h1
    obtain ⟨p, vs, rfl, g1, g2⟩ := h1
    exact ⟨p, vs, rfl, g1.sq, fun a ha => k _ _ (same_upd ha) (new_lst r1.dom ha g2.rev)⟩
  · cases hw
end
end DL
set_option Elab.async false
set_option linter.all false
set_option maxRecDepth 100000
set_option maxHeartbeats 4000000
namespace DL
open PySem PySem.Spec PyProof.Rows L2
variable [CTab]
/-! ### tests -/
def mTest (m : M D) : M Bool := fun ρ => bindR (m ρ) fun d ρ => match d with
  | .bl b => .ok b ρ
  | _ => .fail
section
variable {X : Cx} {E : XK} {pos : Pos} {a b e : Expr} {ma mb mc : M D} {K : PySem.W.Frag}
theorem test_gen {σ : St} {H : Hp} {Q : Bool → Hp → Prop} {t : TE} (h : tT K E (mTest ma) σ H Q) (i : ∀ Q, tD K E ma σ H Q → t σ H Q) : tTest t σ H Q := by
  refine i _ ?_
  obtain ⟨c, Z, ρ, r, q⟩ := h
  refine ⟨c, Z, ρ, r, q.bind fun d ρ1 v H1 r1 e1 h1 q1 => ?_⟩
  split at q1
  · rename_i k
    exact ⟨k, h1, q1.done r1 rfl⟩
  · exact q1.elim
theorem d_cmp1 {op : CmpOp} {f : D → D → Option D} (ho : CmpD X op f) (ha : PE X a (tD X.K E ma)) (hb : PE X b (tD X.K E mb)) (hm : behindInMarks op b = false := by rfl) : PE X (.Compare a [op] [b] pos) (tD X.K E (m2 f ma mb)) := by
  obtain ⟨r, h1, h2⟩ := ho
  exact d_cmp h1 h2 ha hb hm
theorem dt_cmp1 {op : CmpOp} {f : D → D → Option D} (ho : CmpD X op f) (ha : PE X a (tD X.K E ma)) (hb : PE X b (tD X.K E mb)) (hm : behindInMarks op b = false := by rfl) : PT X (.Compare a [op] [b] pos) (tT X.K E (mTest (m2 f ma mb))) := by
  obtain ⟨r, h1, h2⟩ := ho
  exact (pt_cmpR h1 ha hb hm).imp fun σ H Q h => test_gen h fun Q h => op_gen h2 h
/-- a op1 b op2 c -/
def mChain (f g : D → D → Option D) (ma mb mc : M D) : M D := fun ρ => bindR (ma ρ) fun a ρ => bindR (mb ρ) fun b ρ => match f a b with
  | some (.bl true) => bindR (mc ρ) fun c ρ => liftO (g b c) ρ
  | some (.bl false) => .ok (.bl false) ρ
  | _ => .fail
theorem chain_gen {f g : D → D → Option D} {r r' : R2} (hf : OpD K r f) (hg : OpD K r' g) {σ : St} {H : Hp} {Q : VK} (h : tD K E (mChain f g ma mb mc) σ H Q) : tChain r r' (tD K E ma) (tD K E mb) (tD K E mc) σ H Q := by
  obtain ⟨c, Z, ρ, r0, q⟩ := h
  refine ⟨c, Z, ρ, r0, q.bind fun x ρ1 u H1 r1 e1 hx q1 => ⟨c, Z, ρ1, r1, q1.bind fun y ρ2 v H2 r2 e2 hy q2 => ?_⟩⟩
  split at q2
  · rename_i hd
    refine hf H2 Z x y _ u v _ r2.dom (hx.ext e2) hy hd fun w H3 s3 hw => ⟨true, hw, ?_⟩
    rw [if_pos rfl]
    refine ⟨c, Z, ρ2, r2.same s3, (tR.ext q2 (Ext.same s3)).bind fun z ρ4 z' H4 r4 e4 hz' q4 => ?_⟩
    obtain ⟨d, hd, k⟩ := q4.lift r4
    exact hg H4 Z y z d v z' Q r4.dom ((hy.ext (Ext.same s3)).ext e4) hz' hd k
  · rename_i hd
    refine hf H2 Z x y _ u v _ r2.dom (hx.ext e2) hy hd fun w H3 s3 hw => ⟨false, hw, ?_⟩
    rw [if_neg Bool.false_ne_true]
    exact q2.new r2 s3 rfl
  · exact q2.elim
theorem d_chain {c : Expr} {op op' : CmpOp} {f g : D → D → Option D} (ho : CmpD X op f) (ho' : CmpD X op' g) (ha : PE X a (tD X.K E ma)) (hb : PE X b (tD X.K E mb)) (hc : PE X c (tD X.K E mc))
    (hm : lastMarks [op, op'] [b, c] = false := by with_unfolding_all rfl) : PE X (.Compare a [op, op'] [b, c] pos) (tD X.K E (mChain f g ma mb mc)) := by
  obtain ⟨r, h1, h2⟩ := ho
  obtain ⟨r', h3, h4⟩ := ho'
  exact (pe_chain h1 h3 ha hb hc hm).imp fun σ H Q h => chain_gen h2 h4 h
theorem dt_chain {c : Expr} {op op' : CmpOp} {f g : D → D → Option D} (ho : CmpD X op f) (ho' : CmpD X op' g) (ha : PE X a (tD X.K E ma)) (hb : PE X b (tD X.K E mb)) (hc : PE X c (tD X.K E mc))
    (hm : lastMarks [op, op'] [b, c] = false := by with_unfolding_all rfl) : PT X (.Compare a [op, op'] [b, c] pos) (tT X.K E (mTest (mChain f g ma mb mc))) := by
  obtain ⟨r, h1, h2⟩ := ho
  obtain ⟨r', h3, h4⟩ := ho'
  exact (pt_chain h1 h3 ha hb hc hm).imp fun σ H Q h => test_gen h fun Q h => chain_gen h2 h4 h
/-! ### a value's truth -/
def dTru : D → Option Bool
  | .non => some false
  | .bl b => some b
  | .int i => some (i != 0)
  | .str y => if y.length ≤ sizeLine then some ((y.length : Int) != 0) else none
  | .lst l => some (!l.isEmpty)
  | .rol l => some (!l.isEmpty)
  | .tup l => some (!l.isEmpty)
  | _ => none
def mTru (m : M D) : M Bool := fun ρ => bindR (m ρ) fun d ρ => liftO (dTru d) ρ
theorem Reps.emp {H : Hp} {Z : Addr → Prop} {l : List D} {vs : List V} (r : Reps K H Z l vs) : (!l.isEmpty) = !vs.isEmpty := by
  have e := r.len
  cases l <;> cases vs <;> simp_all
theorem tru_ok' {H : Hp} {Z : Addr → Prop} {d : D} {v : V} {k : Bool} (h : dTru d = some k) (r : Rep K H Z d v) : TruV K v H k := by
  cases d with
  | non => cases (show v = _ from r); cases h; rfl
  | bl b => cases (show v = _ from r); cases h; rfl
  | int b => cases (show v = _ from r); cases h; rfl
  | str y =>
    cases (show v = _ from r)
    have h : (if y.length ≤ sizeLine then some ((y.length : Int) != 0) else none) = some k := h
    split at h
    · rename_i hl
      cases h
      exact ⟨hl, rfl⟩
    · cases h
  | lst l =>
    simp only [Rep] at r
    obtain ⟨p, vs, rfl, h1, h2⟩ := r
    cases h
    exact .inl ⟨vs, h1.sq, h2.emp⟩
  | rol l =>
    simp only [Rep] at r
    obtain ⟨p, vs, rfl, h1, h2⟩ := r
    cases h
    exact .inl ⟨vs, h1.sq, h2.emp⟩
  | tup l =>
    simp only [Rep] at r
    obtain ⟨p, vs, rfl, h1, h2⟩ := r
    cases h
    exact .inr (.inl ⟨vs, h1.sq, h2.emp⟩)
  | dct _ _ => cases h
  | ob _ _ => cases h
theorem tR.liftB {o : Option Bool} {c : Cz} {Z : Addr → Prop} {ρ : Env} {σ : St} {H : Hp} {Q : Bool → Hp → Prop} (h : tR K E rB c Z σ H Q (liftO o ρ)) (r : Rel K c Z ρ σ H) : ∃ k, o = some k ∧ Q k H := by
  cases o with
  | none => exact h.elim
  | some k => exact ⟨k, rfl, h.done r rfl⟩
/-- the truth of a name, a call, a field, an item -/
theorem dt_tru (ha : PE X e (tD X.K E ma)) (he : ∀ whole, isTrue e X.env whole = (do let v ← whole; standAt e.pos; holding [v] (truthy v)) := by intro _; rfl) : PT X e (tT X.K E (mTru ma)) := by
  refine (pt_truth ha he).imp fun σ H Q h => ?_
  obtain ⟨c, Z, ρ, r, q⟩ := h
  refine ⟨c, Z, ρ, r, q.bind fun d ρ1 v H1 r1 e1 h1 q1 => ?_⟩
  obtain ⟨k, hk, q2⟩ := q1.liftB r1
  exact ⟨k, tru_ok' hk h1, q2⟩
/-! ### and, or, not -/
variable {ta tb : M Bool} {rest : List Expr}
def mAndT (ta tb : M Bool) : M Bool := fun ρ => bindR (ta ρ) fun k ρ => if k = true then tb ρ else .ok false ρ
def mOrT (ta tb : M Bool) : M Bool := fun ρ => bindR (ta ρ) fun k ρ => if k = true then .ok true ρ else tb ρ
def mNotT (ta : M Bool) : M Bool := fun ρ => bindR (ta ρ) fun k ρ => .ok (!k) ρ
theorem _root_.L2.PW.imp {X : Cx} {e : Expr} {t t' : TT} (h : PW X e t) (i : ∀ σ H Q, t' σ H Q → t σ H Q) : PW X e t' := ⟨fun wh pins s σ H Q I q => h.run wh pins s σ H Q I (i σ H Q q)⟩
theorem dw_and1 (ha : PT X a (tT X.K E ta)) : PW X (.BoolOp .And [a] pos) (tT X.K E ta) := pw_and1 ha
theorem dw_or1 (ha : PT X a (tT X.K E ta)) : PW X (.BoolOp .Or [a] pos) (tT X.K E ta) := pw_or1 ha
theorem dw_and (ha : PT X a (tT X.K E ta)) (hb : PW X (.BoolOp .And (b :: rest) pos) (tT X.K E tb)) : PW X (.BoolOp .And (a :: b :: rest) pos) (tT X.K E (mAndT ta tb)) := by
  refine (pw_and ha hb).imp fun σ H Q h => ?_
  obtain ⟨c, Z, ρ, r, q⟩ := h
  refine ⟨c, Z, ρ, r, q.bind fun k ρ1 k' H1 r1 e1 h1 q1 => ?_⟩
  cases (show k = k' from h1)
  cases k with
  | true => exact iteT ⟨c, Z, ρ1, r1, q1⟩
  | false => exact iteF (q1.done r1 rfl)
theorem dw_or (ha : PT X a (tT X.K E ta)) (hb : PW X (.BoolOp .Or (b :: rest) pos) (tT X.K E tb)) : PW X (.BoolOp .Or (a :: b :: rest) pos) (tT X.K E (mOrT ta tb)) := by
  refine (pw_or ha hb).imp fun σ H Q h => ?_
  obtain ⟨c, Z, ρ, r, q⟩ := h
  refine ⟨c, Z, ρ, r, q.bind fun k ρ1 k' H1 r1 e1 h1 q1 => ?_⟩
  cases (show k = k' from h1)
  cases k with
  | true => exact iteT (q1.done r1 rfl)
  | false => exact iteF ⟨c, Z, ρ1, r1, q1⟩
theorem dt_not (ha : PT X a (tT X.K E ta)) : PT X (.UnaryOp .Not a pos) (tT X.K E (mNotT ta)) := by
  refine (pt_not ha).imp fun σ H Q h => ?_
  obtain ⟨c, Z, ρ, r, q⟩ := h
  refine ⟨c, Z, ρ, r, q.bind fun k ρ1 k' H1 r1 e1 h1 q1 => ?_⟩
  cases (show k = k' from h1)
  exact q1.done r1 rfl
/-- .. as values: all but the last True or False -/
def mAndV (ma mb : M D) : M D := fun ρ => bindR (ma ρ) fun d ρ => match d with
  | .bl true => mb ρ
  | .bl false => .ok (.bl false) ρ
  | _ => .fail
def mOrV (ma mb : M D) : M D := fun ρ => bindR (ma ρ) fun d ρ => match d with
  | .bl false => mb ρ
  | .bl true => .ok (.bl true) ρ
  | _ => .fail
theorem d_one {op} (h : PE X a (tD X.K E ma)) : PE X (.BoolOp op [a] pos) (tD X.K E ma) := pe_one h
theorem d_and (ha : PE X a (tD X.K E ma)) (hb : PE X (.BoolOp .And (b :: rest) pos) (tD X.K E mb)) : PE X (.BoolOp .And (a :: b :: rest) pos) (tD X.K E (mAndV ma mb)) := by
  refine (pe_and ha hb).imp fun σ H Q h => ?_
  obtain ⟨c, Z, ρ, r, q⟩ := h
  refine ⟨c, Z, ρ, r, q.bind fun d ρ1 v H1 r1 e1 h1 q1 => ?_⟩
  split at q1
  · exact ⟨true, h1, iteT ⟨c, Z, ρ1, r1, q1⟩⟩
  · exact ⟨false, h1, iteF (q1.done r1 rfl)⟩
  · exact q1.elim
theorem d_or (ha : PE X a (tD X.K E ma)) (hb : PE X (.BoolOp .Or (b :: rest) pos) (tD X.K E mb)) : PE X (.BoolOp .Or (a :: b :: rest) pos) (tD X.K E (mOrV ma mb)) := by
  refine (pe_or ha hb).imp fun σ H Q h => ?_
  obtain ⟨c, Z, ρ, r, q⟩ := h
  refine ⟨c, Z, ρ, r, q.bind fun d ρ1 v H1 r1 e1 h1 q1 => ?_⟩
  split at q1
  · exact ⟨false, h1, iteF ⟨c, Z, ρ1, r1, q1⟩⟩
  · exact ⟨true, h1, iteT (q1.done r1 rfl)⟩
  · exact q1.elim
def mNotV (ma : M D) : M D := fun ρ => bindR (ma ρ) fun d ρ => match dTru d with
  | some k => .ok (.bl (!k)) ρ
  | none => .fail
theorem d_not (ha : PE X a (tD X.K E ma)) : PE X (.UnaryOp .Not a pos) (tD X.K E (mNotV ma)) := by
  refine (pe_notT ha).imp fun σ H Q h => ?_
  obtain ⟨c, Z, ρ, r, q⟩ := h
  refine ⟨c, Z, ρ, r, q.bind fun d ρ1 v H1 r1 e1 h1 q1 => ?_⟩
  split at q1
  · rename_i k hk
    exact ⟨k, tru_ok' hk h1, q1.done r1 rfl⟩
  · exact q1.elim
def mIfE (t : M Bool) (ma mb : M D) : M D := fun ρ => bindR (t ρ) fun k ρ => if k = true then ma ρ else mb ρ
theorem d_ifexp {c : Expr} (hc : PT X c (tT X.K E ta)) (ha : PE X a (tD X.K E ma)) (hb : PE X b (tD X.K E mb)) : PE X (.IfExp c a b pos) (tD X.K E (mIfE ta ma mb)) := by
  refine (pe_ifExp hc ha hb).imp fun σ H Q h => ?_
  obtain ⟨c, Z, ρ, r, q⟩ := h
  refine ⟨c, Z, ρ, r, q.bind fun k ρ1 k' H1 r1 e1 h1 q1 => ?_⟩
  cases (show k = k' from h1)
  cases k with
  | true => exact iteT ⟨c, Z, ρ1, r1, q1⟩
  | false => exact iteF ⟨c, Z, ρ1, r1, q1⟩
end
/-! ### arguments, displays -/
def mNil : M (List D) := fun ρ => .ok [] ρ
def mCons (m : M D) (ms : M (List D)) : M (List D) := fun ρ => bindR (m ρ) fun d ρ => bindR (ms ρ) fun l ρ => .ok (d :: l) ρ
def mStar (m : M D) (ms : M (List D)) : M (List D) := fun ρ => bindR (m ρ) fun d ρ => match d.seq with
  | some l => bindR (ms ρ) fun r ρ => .ok (l ++ r) ρ
  | none => .fail
def mLst (ms : M (List D)) : M D := fun ρ => bindR (ms ρ) fun l ρ => if l.length ≤ sizeLine then .ok (.lst l) ρ else .fail
def mTup (ms : M (List D)) : M D := fun ρ => bindR (ms ρ) fun l ρ => if l.length ≤ sizeLine then .ok (.tup l) ρ else .fail
section
variable {X : Cx} {E : XK} {pos p : Pos} {e : Expr} {es : List Expr} {m : M D} {ms : M (List D)} {K : PySem.W.Frag}
theorem da_nil : PA X [] (tAr X.K E mNil) := pa_nil.imp fun σ H Q ⟨c, Z, ρ, r, q⟩ => q.done r rfl
theorem da_cons (ha : PE X e (tD X.K E m)) (hr : PA X es (tAr X.K E ms)) (hs : starEach (e :: es) X.env = (false, eval e X.env) :: starEach es X.env := by rfl) : PA X (e :: es) (tAr X.K E (mCons m ms)) := by
  refine (pa_cons ha hr hs).imp fun σ H Q h => ?_
  obtain ⟨c, Z, ρ, r, q⟩ := h
  exact ⟨c, Z, ρ, r, q.bind fun d ρ1 v H1 r1 e1 h1 q1 => ⟨c, Z, ρ1, r1, q1.bind fun l ρ2 vs H2 r2 e2 h2 q2 => q2.done r2 (Reps.cons (h1.ext e2) h2)⟩⟩
theorem da_star (ha : PE X e (tD X.K E m)) (hr : PA X es (tAr X.K E ms)) (hs : starEach (.Starred e p :: es) X.env = (true, eval e X.env) :: starEach es X.env := by rfl) : PA X (.Starred e p :: es) (tAr X.K E (mStar m ms)) := by
  refine (StX.pa_star ha hr hs).imp fun σ H Q h => ?_
  obtain ⟨c, Z, ρ, r, q⟩ := h
  refine ⟨c, Z, ρ, r, q.bind fun d ρ1 v H1 r1 e1 h1 q1 => ?_⟩
  split at q1
  · rename_i l hl
    obtain ⟨a, vs, rfl, h2, h3⟩ := D.seq_rep hl h1
    exact ⟨a, vs, rfl, h2.symm, ⟨c, Z, ρ1, r1, q1.bind fun l' ρ2 vs' H2 r2 e2 h4 q2 => q2.done r2 ((Reps.ext e2 _ _ h3).app h4)⟩⟩
  · exact q1.elim
theorem d_list (h : PA X es (tAr X.K E ms)) : PE X (.List es pos) (tD X.K E (mLst ms)) := by
  refine (pe_lst h).imp fun σ H Q h => ?_
  obtain ⟨c, Z, ρ, r, q⟩ := h
  refine ⟨c, Z, ρ, r, q.bind fun l ρ1 vs H1 r1 e1 h1 q1 => ?_⟩
  have h1 : Reps X.K H1 Z l vs := h1
  split at q1
  · rename_i hl
    exact ⟨by rw [← h1.len]; exact hl, fun p hp => q1.new r1 (same_upd hp) (new_lst r1.dom hp h1)⟩
  · exact q1.elim
theorem d_tuple {k : Nat} (h : PA X es (tAr X.K E ms)) : PE X (.Tuple es k pos) (tD X.K E (mTup ms)) := by
  refine (pe_tup h).imp fun σ H Q h => ?_
  obtain ⟨c, Z, ρ, r, q⟩ := h
  refine ⟨c, Z, ρ, r, q.bind fun l ρ1 vs H1 r1 e1 h1 q1 => ?_⟩
  have h1 : Reps X.K H1 Z l vs := h1
  split at q1
  · rename_i hl
    exact ⟨by rw [← h1.len]; exact hl, fun p hp => q1.new r1 (same_upd hp) (new_tup r1.dom hp h1)⟩
  · exact q1.elim
end
/-! ### calls of built-ins -/
def mCa (f : List D → Option D) (ms : M (List D)) : M D := fun ρ => bindR (ms ρ) fun l ρ => liftO (f l) ρ
def CaD (K : PySem.W.Frag) (r : List V → Hp → VK → Prop) (f : List D → Option D) : Prop := ∀ (H : Hp) (Z : Addr → Prop) (l : List D) (d : D) (xs : List V) (Q : VK), (∀ p, Z p → H p ≠ none) → Reps K H Z l xs → f l = some d →
  (∀ v H', Same H H' → Rep K H' Z d v → Q v H') → r xs H Q
section
variable {X : Cx} {E : XK} {pos p : Pos} {x : Str} {e : Expr} {es : List Expr} {ms : M (List D)} {K : PySem.W.Frag} {r : List V → Hp → VK → Prop} {f : List D → Option D}
theorem ca_gen (hf : CaD K r f) {σ : St} {H : Hp} {Q : VK} (h : tD K E (mCa f ms) σ H Q) : tCB r (tAr K E ms) σ H Q := by
  obtain ⟨c, Z, ρ, r0, q⟩ := h
  refine ⟨c, Z, ρ, r0, q.bind fun l ρ1 vs H1 r1 e1 h1 q1 => ?_⟩
  obtain ⟨d, hd, k⟩ := q1.lift r1
  exact hf H1 Z l d vs Q r1.dom h1 hd k
theorem d_callB {id : String} (hc : CallR X (.builtin id) r) (hf : CaD X.K r f) (hm : X.mg x = none) (hv : bootBuiltins x = some (.builtin id)) (ha : PA X (e :: es) (tAr X.K E ms)) (hg : Gl X x := by rfl) (hn : x ≠ "__name__" := by decide) (hdb : (x == ("__debug__" : Str)) = false := by decide)
    (he : starEach (e :: es) X.env = (false, eval e X.env) :: starEach es X.env := by rfl) (hpl : (backTo pos (starEach es X.env)).any (·.1) = false := by rfl) : PE X (.Call (.Name x p) (e :: es) [] pos) (tD X.K E (mCa f ms)) :=
  (pe_callB hc hg hm hv ha hn hdb he hpl).imp fun _ _ _ h => ca_gen hf h
theorem d_callTy {T : String} (hc : CallR X (.type T) r) (hf : CaD X.K r f) (hm : X.mg x = none) (hv : bootBuiltins x = some (.type T)) (ha : PA X (e :: es) (tAr X.K E ms)) (hg : Gl X x := by rfl) (hn : x ≠ "__name__" := by decide) (hdb : (x == ("__debug__" : Str)) = false := by decide)
    (he : starEach (e :: es) X.env = (false, eval e X.env) :: starEach es X.env := by rfl) (hpl : (backTo pos (starEach es X.env)).any (·.1) = false := by rfl) : PE X (.Call (.Name x p) (e :: es) [] pos) (tD X.K E (mCa f ms)) :=
  (pe_callTy hc hg hm hv ha hn hdb he hpl).imp fun _ _ _ h => ca_gen hf h
end
def fLen : List D → Option D
  | [.str y] => if y.length ≤ sizeLine then some (.int (y.length : Nat)) else none
  | [.lst l] => some (.int (l.length : Nat))
  | [.rol l] => some (.int (l.length : Nat))
  | [.tup l] => some (.int (l.length : Nat))
  | [.dct ks l] => if ks.length = l.length then some (.int (ks.length : Nat)) else none
  | _ => none
def fInt : List D → Option D
  | [.int i] => some (.int i)
  | [.bl b] => some (.int (if b then 1 else 0))
  | _ => none
def fBool : List D → Option D
  | [.int i] => some (.bl (i != 0))
  | [.bl b] => some (.bl b)
  | _ => none
def fStr : List D → Option D
  | [.int i] => if i.natAbs.log2 < 1920 then some (.str (toString i)) else none
  | _ => none
def fTup : List D → Option D
  | [.lst l] => some (.tup l)
  | [.rol l] => some (.tup l)
  | [.tup l] => some (.tup l)
  | _ => none
def fLst : List D → Option D
  | [.lst l] => some (.lst l)
  | [.rol l] => some (.lst l)
  | [.tup l] => some (.lst l)
  | _ => none
def dInts : List D → Option (List Int)
  | [] => some []
  | .int i :: r => (dInts r).map fun l => i :: l
  | _ => none
def dBls : List D → Option (List Bool)
  | [] => some []
  | .bl i :: r => (dBls r).map fun l => i :: l
  | _ => none
def dStrs : List D → Option (List Str)
  | [] => some []
  | .str i :: r => (dStrs r).map fun l => i :: l
  | _ => none
def maxI : List Int → Option Int
  | [] => none
  | n :: r => some (r.foldl max n)
def minI : List Int → Option Int
  | [] => none
  | n :: r => some (r.foldl min n)
def fSum : List D → Option D
  | [d] => d.lis.bind fun l => (dInts l).map fun ns => .int ns.sum
  | _ => none
def fMax : List D → Option D
  | [d] => d.lis.bind fun l => (dInts l).bind fun ns => (maxI ns).map .int
  | [.int i, .int j] => some (.int (if j > i then j else i))
  | _ => none
def fMin : List D → Option D
  | [d] => d.lis.bind fun l => (dInts l).bind fun ns => (minI ns).map .int
  | [.int i, .int j] => some (.int (if j < i then j else i))
  | _ => none
def fAny : List D → Option D
  | [d] => d.lis.bind fun l => (dBls l).map fun bs => .bl (bs.any id)
  | _ => none
def fAll : List D → Option D
  | [d] => d.lis.bind fun l => (dBls l).map fun bs => .bl (bs.all id)
  | _ => none
def fAbs : List D → Option D
  | [.int i] => some (.int (if i < 0 then -i else i))
  | _ => none
section
variable {X : Cx} {K : PySem.W.Frag} {H : Hp} {Z : Addr → Prop}
theorem Reps.inv1 {d : D} {xs : List V} (h : Reps K H Z [d] xs) : ∃ v, xs = [v] ∧ Rep K H Z d v := by
  obtain ⟨v, r, e, h1, h2⟩ := h.inv
  cases (show r = [] from h2)
  exact ⟨v, e, h1⟩
theorem Reps.inv2 {d e : D} {xs : List V} (h : Reps K H Z [d, e] xs) : ∃ v u, xs = [v, u] ∧ Rep K H Z d v ∧ Rep K H Z e u := by
  obtain ⟨v, r, q, h1, h2⟩ := h.inv
  obtain ⟨u, q2, h3⟩ := h2.inv1
  exact ⟨v, u, by rw [q, q2], h1, h3⟩
theorem dInts_rep : ∀ {l : List D} {ns : List Int} {vs : List V}, dInts l = some ns → Reps K H Z l vs → vs = ns.map V.int
  | [], ns, vs, h, r => by
    cases h
    exact r
  | d :: l, ns, vs, h, r => by
    obtain ⟨v, r', e, h1, h2⟩ := r.inv
    cases d <;> first | (cases h; done) | skip
    rename_i i
    simp only [dInts] at h
    cases hl : dInts l with
    | none => rw [hl] at h; cases h
    | some ms =>
      rw [hl] at h
      cases h
      cases (show v = _ from h1)
      rw [e, dInts_rep hl h2]
      rfl
theorem dBls_rep : ∀ {l : List D} {ns : List Bool} {vs : List V}, dBls l = some ns → Reps K H Z l vs → vs = ns.map V.bl
  | [], ns, vs, h, r => by
    cases h
    exact r
  | d :: l, ns, vs, h, r => by
    obtain ⟨v, r', e, h1, h2⟩ := r.inv
    cases d <;> first | (cases h; done) | skip
    rename_i i
    simp only [dBls] at h
    cases hl : dBls l with
    | none => rw [hl] at h; cases h
    | some ms =>
      rw [hl] at h
      cases h
      cases (show v = _ from h1)
      rw [e, dBls_rep hl h2]
      rfl
theorem dStrs_rep : ∀ {l : List D} {ns : List Str} {vs : List V}, dStrs l = some ns → Reps K H Z l vs → vs = ns.map V.str
  | [], ns, vs, h, r => by
    cases h
    exact r
  | d :: l, ns, vs, h, r => by
    obtain ⟨v, r', e, h1, h2⟩ := r.inv
    cases d <;> first | (cases h; done) | skip
    rename_i i
    simp only [dStrs] at h
    cases hl : dStrs l with
    | none => rw [hl] at h; cases h
    | some ms =>
      rw [hl] at h
      cases h
      cases (show v = _ from h1)
      rw [e, dStrs_rep hl h2]
      rfl
theorem ca_int : CaD K (fun xs H Q => (∃ i, xs = [.int i] ∧ Q (.int i) H) ∨ ∃ k, xs = [.bl k] ∧ Q (.int (if k then 1 else 0)) H) fInt := by
  intro H Z l d xs Q hz r h k
  unfold fInt at h
  split at h
  · cases h
    obtain ⟨v, rfl, h1⟩ := r.inv1
    cases (show v = _ from h1)
    exact .inl ⟨_, rfl, k _ H (Same.refl H) rfl⟩
  · cases h
    obtain ⟨v, rfl, h1⟩ := r.inv1
    cases (show v = _ from h1)
    exact .inr ⟨_, rfl, k _ H (Same.refl H) rfl⟩
  · cases h
theorem ca_bool : CaD K (fun xs H Q => (∃ i, xs = [.int i] ∧ Q (.bl (i != 0)) H) ∨ ∃ k, xs = [.bl k] ∧ Q (.bl k) H) fBool := by
  intro H Z l d xs Q hz r h k
  unfold fBool at h
  split at h
  · cases h
    obtain ⟨v, rfl, h1⟩ := r.inv1
    cases (show v = _ from h1)
    exact .inl ⟨_, rfl, k _ H (Same.refl H) rfl⟩
  · cases h
    obtain ⟨v, rfl, h1⟩ := r.inv1
    cases (show v = _ from h1)
    exact .inr ⟨_, rfl, k _ H (Same.refl H) rfl⟩
  · cases h
theorem ca_str : CaD K (fun xs H Q => ∃ i, xs = [.int i] ∧ i.natAbs.log2 < 1920 ∧ Q (.str (toString i)) H) fStr := by
  intro H Z l d xs Q hz r h k
  unfold fStr at h
  split at h
  · split at h
    · rename_i hl
      cases h
      obtain ⟨v, rfl, h1⟩ := r.inv1
      cases (show v = _ from h1)
      exact ⟨_, rfl, hl, k _ H (Same.refl H) rfl⟩
    · cases h
  · cases h
theorem ca_abs : CaD K (fun xs H Q => ∃ i, xs = [.int i] ∧ Q (.int (if i < 0 then -i else i)) H) fAbs := by
  intro H Z l d xs Q hz r h k
  unfold fAbs at h
  split at h
  · cases h
    obtain ⟨v, rfl, h1⟩ := r.inv1
    cases (show v = _ from h1)
    exact ⟨_, rfl, k _ H (Same.refl H) rfl⟩
  · cases h
/-- len, of a dict too -/
theorem call_lenA : CallR X (.builtin "len") (fun xs H Q => (∃ x n, xs = [x] ∧ LenV X.K x H n ∧ Q (.int n) H) ∨ ∃ p kvs, xs = [.ref p] ∧ Rd H p (.dK kvs) ∧ Q (.int (kvs.length : Nat)) H) := by
  intro pins s σ H xs us Q I r h
  rcases h with h | ⟨p, kvs, rfl, h1, q⟩
  · exact call_len pins s σ H xs us Q I r h
  · rw [Vals.ref1 r]
    exact d_len I h1 fun t s' I' => ⟨.int _, H, I', ⟨_, rfl⟩, q⟩
theorem ca_len : CaD K (fun xs H Q => (∃ x n, xs = [x] ∧ LenV K x H n ∧ Q (.int n) H) ∨ ∃ p kvs, xs = [.ref p] ∧ Rd H p (.dK kvs) ∧ Q (.int (kvs.length : Nat)) H) fLen := by
  intro H Z l d xs Q hz r h k
  unfold fLen at h
  split at h
  · split at h
    · rename_i hl
      cases h
      obtain ⟨v, rfl, h1⟩ := r.inv1
      cases (show v = _ from h1)
      exact .inl ⟨_, _, rfl, ⟨hl, rfl⟩, k _ H (Same.refl H) rfl⟩
    · cases h
  · cases h
    obtain ⟨v, rfl, h1⟩ := r.inv1
    simp only [Rep] at h1
    obtain ⟨p, vs, rfl, h2, h3⟩ := h1
    exact .inl ⟨_, _, rfl, .inl ⟨vs, h2.sq, h3.len⟩, k _ H (Same.refl H) rfl⟩
  · cases h
    obtain ⟨v, rfl, h1⟩ := r.inv1
    simp only [Rep] at h1
    obtain ⟨p, vs, rfl, h2, h3⟩ := h1
    exact .inl ⟨_, _, rfl, .inl ⟨vs, h2.sq, h3.len⟩, k _ H (Same.refl H) rfl⟩
  · cases h
    obtain ⟨v, rfl, h1⟩ := r.inv1
    simp only [Rep] at h1
    obtain ⟨p, vs, rfl, h2, h3⟩ := h1
    exact .inl ⟨_, _, rfl, .inr ⟨vs, h2.sq, h3.len⟩, k _ H (Same.refl H) rfl⟩
  · split at h
    · cases h
      obtain ⟨v, rfl, h1⟩ := r.inv1
      simp only [Rep] at h1
      obtain ⟨p, vs, rfl, n, h2, hl, h3⟩ := h1
      refine .inr ⟨p, _, rfl, h2, k _ H (Same.refl H) ?_⟩
      show V.int _ = V.int _
      rw [List.length_zip, ← hl, Nat.min_self]
    · cases h
  · cases h
theorem ca_tup : CaD K (fun xs H Q => ∃ p ys, xs = [.ref p] ∧ ((SqL K H p ys ∧ ∀ l, H l = none → Q (.ref l) (upd H l (.tup ys))) ∨ (SqT K H p ys ∧ Q (.ref p) H))) fTup := by
  intro H Z l d xs Q hz r h k
  unfold fTup at h
  split at h
  · cases h
    obtain ⟨v, rfl, h1⟩ := r.inv1
    simp only [Rep] at h1
    obtain ⟨p, vs, rfl, h2, h3⟩ := h1
    exact ⟨p, vs, rfl, .inl ⟨h2.sq, fun a ha => k _ _ (same_upd ha) (new_tup hz ha h3)⟩⟩
  · cases h
    obtain ⟨v, rfl, h1⟩ := r.inv1
    simp only [Rep] at h1
    obtain ⟨p, vs, rfl, h2, h3⟩ := h1
    exact ⟨p, vs, rfl, .inl ⟨h2.sq, fun a ha => k _ _ (same_upd ha) (new_tup hz ha h3)⟩⟩
  · cases h
    obtain ⟨v, rfl, h1⟩ := r.inv1
    have h1' := h1
    simp only [Rep] at h1
    obtain ⟨p, vs, rfl, h2, h3⟩ := h1
    exact ⟨p, vs, rfl, .inr ⟨h2.sq, k _ H (Same.refl H) h1'⟩⟩
  · cases h
theorem ca_lst : CaD K (fun xs H Q => ∃ p ys, xs = [.ref p] ∧ (SqL K H p ys ∨ SqT K H p ys) ∧ ∀ l, H l = none → Q (.ref l) (upd H l (.lst ys))) fLst := by
  intro H Z l d xs Q hz r h k
  have go : ∀ {e : D} {ds : List D}, l = [e] → e.seq = some ds → d = .lst ds → ∃ p ys, xs = [.ref p] ∧ (SqL K H p ys ∨ SqT K H p ys) ∧ ∀ l, H l = none → Q (.ref l) (upd H l (.lst ys)) := by
    intro e ds e1 e2 e3
    subst e1 e3
    obtain ⟨v, rfl, h1⟩ := r.inv1
    obtain ⟨p, vs, rfl, h2, h3⟩ := D.seq_rep e2 h1
    exact ⟨p, vs, rfl, h2, fun a ha => k _ _ (same_upd ha) (new_lst hz ha h3)⟩
  unfold fLst at h
  split at h
  · cases h
    exact go rfl rfl rfl
  · cases h
    exact go rfl rfl rfl
  · cases h
    exact go rfl rfl rfl
  · cases h
theorem ca_sum : CaD K (rSum K) fSum := by
  intro H Z l d xs Q hz r h k
  unfold fSum at h
  split at h
  · obtain ⟨v, rfl, h1⟩ := r.inv1
    rename_i e
    cases e1 : e.lis with
    | none => rw [e1] at h; cases h
    | some ds =>
      rw [e1] at h
      obtain ⟨p, vs, rfl, h2, h3⟩ := D.lis_rep e1 h1
      cases e2 : dInts ds with
      | none => simp only [Option.bind_some, e2] at h; cases h
      | some ns =>
        simp only [Option.bind_some, e2, Option.map_some] at h
        cases h
        have e3 := dInts_rep e2 h3
        subst e3
        exact ⟨p, ns, rfl, h2, k _ H (Same.refl H) rfl⟩
  · cases h
theorem ca_any : CaD K (rAny K) fAny := by
  intro H Z l d xs Q hz r h k
  unfold fAny at h
  split at h
  · obtain ⟨v, rfl, h1⟩ := r.inv1
    rename_i e
    cases e1 : e.lis with
    | none => rw [e1] at h; cases h
    | some ds =>
      rw [e1] at h
      obtain ⟨p, vs, rfl, h2, h3⟩ := D.lis_rep e1 h1
      cases e2 : dBls ds with
      | none => simp only [Option.bind_some, e2] at h; cases h
      | some ns =>
        simp only [Option.bind_some, e2, Option.map_some] at h
        cases h
        have e3 := dBls_rep e2 h3
        subst e3
        exact ⟨p, ns, rfl, h2, k _ H (Same.refl H) rfl⟩
  · cases h
theorem ca_all : CaD K (rAll K) fAll := by
  intro H Z l d xs Q hz r h k
  unfold fAll at h
  split at h
  · obtain ⟨v, rfl, h1⟩ := r.inv1
    rename_i e
    cases e1 : e.lis with
    | none => rw [e1] at h; cases h
    | some ds =>
      rw [e1] at h
      obtain ⟨p, vs, rfl, h2, h3⟩ := D.lis_rep e1 h1
      cases e2 : dBls ds with
      | none => simp only [Option.bind_some, e2] at h; cases h
      | some ns =>
        simp only [Option.bind_some, e2, Option.map_some] at h
        cases h
        have e3 := dBls_rep e2 h3
        subst e3
        exact ⟨p, ns, rfl, h2, k _ H (Same.refl H) rfl⟩
  · cases h
end
end DL
set_option Elab.async false
set_option linter.all false
set_option maxRecDepth 100000
set_option maxHeartbeats 4000000
namespace DL
open PySem PySem.Spec PyProof.Rows L2
variable [CTab]
/-! ### max, min -/
section
theorem maxI_spec : ∀ {r : List Int} {n : Int}, r.foldl max n ∈ n :: r ∧ ∀ y ∈ n :: r, y ≤ r.foldl max n
  | [], n => by simp
  | a :: r, n => by
    obtain ⟨h1, h2⟩ := maxI_spec (r := r) (n := max n a)
    rw [List.foldl_cons]
    refine ⟨?_, fun y hy => ?_⟩
    · rcases List.mem_cons.mp h1 with e | h
      · rw [e]
        by_cases hc : n ≤ a
        · rw [Int.max_eq_right hc]; simp
        · rw [Int.max_eq_left (by omega)]; simp
      · exact List.mem_cons_of_mem _ (List.mem_cons_of_mem _ h)
    · have h0 := h2 (max n a) List.mem_cons_self
      rcases List.mem_cons.mp hy with e | hy
      · subst e
        exact Int.le_trans (Int.le_max_left _ _) h0
      · rcases List.mem_cons.mp hy with e | hy
        · subst e
          exact Int.le_trans (Int.le_max_right _ _) h0
        · exact h2 y (List.mem_cons_of_mem _ hy)
theorem minI_spec : ∀ {r : List Int} {n : Int}, r.foldl min n ∈ n :: r ∧ ∀ y ∈ n :: r, r.foldl min n ≤ y
  | [], n => by simp
  | a :: r, n => by
    obtain ⟨h1, h2⟩ := minI_spec (r := r) (n := min n a)
    rw [List.foldl_cons]
    refine ⟨?_, fun y hy => ?_⟩
    · rcases List.mem_cons.mp h1 with e | h
      · rw [e]
        by_cases hc : n ≤ a
        · rw [Int.min_eq_left hc]; simp
        · rw [Int.min_eq_right (by omega)]; simp
      · exact List.mem_cons_of_mem _ (List.mem_cons_of_mem _ h)
    · have h0 := h2 (min n a) List.mem_cons_self
      rcases List.mem_cons.mp hy with e | hy
      · subst e
        exact Int.le_trans h0 (Int.min_le_left _ _)
      · rcases List.mem_cons.mp hy with e | hy
        · subst e
          exact Int.le_trans h0 (Int.min_le_right _ _)
        · exact h2 y (List.mem_cons_of_mem _ hy)
variable {X : Cx} {K : PySem.W.Frag} {H : Hp} {Z : Addr → Prop}
theorem ca_max : CaD K (fun xs H Q => rMax K xs H Q ∨ ∃ i j, xs = [.int i, .int j] ∧ Q (.int (if j > i then j else i)) H) fMax := by
  intro H Z l d xs Q hz r h k
  unfold fMax at h
  split at h
  · rename_i e
    obtain ⟨v, rfl, h1⟩ := r.inv1
    cases e1 : e.lis with
    | none => rw [e1] at h; cases h
    | some ds =>
      obtain ⟨p, vs, rfl, h2, h3⟩ := D.lis_rep e1 h1
      cases e2 : dInts ds with
      | none => simp only [e1, Option.bind_some, e2] at h; cases h
      | some ns =>
        have e3 := dInts_rep e2 h3
        subst e3
        simp only [e1, Option.bind_some, e2] at h
        cases ns with
        | nil => cases h
        | cons n r =>
          cases h
          obtain ⟨g1, g2⟩ := maxI_spec (r := r) (n := n)
          refine .inl ⟨p, n :: r, rfl, h2, by simp, fun m hm hall => k _ H (Same.refl H) ?_⟩
          show V.int m = V.int _
          rw [Int.le_antisymm (g2 m hm) (hall _ g1)]
  · cases h
    obtain ⟨v, u, rfl, h1, h2⟩ := r.inv2
    cases (show v = _ from h1)
    cases (show u = _ from h2)
    exact .inr ⟨_, _, rfl, k _ H (Same.refl H) rfl⟩
  · cases h
theorem ca_min : CaD K (fun xs H Q => rMin K xs H Q ∨ ∃ i j, xs = [.int i, .int j] ∧ Q (.int (if j < i then j else i)) H) fMin := by
  intro H Z l d xs Q hz r h k
  unfold fMin at h
  split at h
  · rename_i e
    obtain ⟨v, rfl, h1⟩ := r.inv1
    cases e1 : e.lis with
    | none => rw [e1] at h; cases h
    | some ds =>
      obtain ⟨p, vs, rfl, h2, h3⟩ := D.lis_rep e1 h1
      cases e2 : dInts ds with
      | none => simp only [e1, Option.bind_some, e2] at h; cases h
      | some ns =>
        have e3 := dInts_rep e2 h3
        subst e3
        simp only [e1, Option.bind_some, e2] at h
        cases ns with
        | nil => cases h
        | cons n r =>
          cases h
          obtain ⟨g1, g2⟩ := minI_spec (r := r) (n := n)
          refine .inl ⟨p, n :: r, rfl, h2, by simp, fun m hm hall => k _ H (Same.refl H) ?_⟩
          show V.int m = V.int _
          rw [Int.le_antisymm (hall _ g1) (g2 m hm)]
  · cases h
    obtain ⟨v, u, rfl, h1, h2⟩ := r.inv2
    cases (show v = _ from h1)
    cases (show u = _ from h2)
    exact .inr ⟨_, _, rfl, k _ H (Same.refl H) rfl⟩
  · cases h
theorem call_maxA (hc : X.calm = true) : CallR X (.builtin "max") (fun xs H Q => rMax X.K xs H Q ∨ ∃ i j, xs = [.int i, .int j] ∧ Q (.int (if j > i then j else i)) H) := (cr_max hc).or (call_max2 hc)
theorem call_minA (hc : X.calm = true) : CallR X (.builtin "min") (fun xs H Q => rMin X.K xs H Q ∨ ∃ i j, xs = [.int i, .int j] ∧ Q (.int (if j < i then j else i)) H) := (cr_min hc).or (call_min2 hc)
end
/-! ### sorted -/
def insB {α : Type} (le : α → α → Bool) (a : α) : List α → List α
  | [] => [a]
  | b :: r => if le a b = true then a :: b :: r else b :: insB le a r
def isort {α : Type} (le : α → α → Bool) : List α → List α
  | [] => []
  | a :: r => insB le a (isort le r)
section
variable {α : Type} {le : α → α → Bool}
theorem insB_perm (a : α) : ∀ l : List α, (insB le a l).Perm (a :: l)
  | [] => .refl _
  | b :: r => by
    unfold insB
    split
    · exact .refl _
    · exact ((insB_perm a r).cons b).trans (.swap a b r)
theorem isort_perm : ∀ l : List α, (isort le l).Perm l
  | [] => .refl _
  | a :: r => (insB_perm a _).trans ((isort_perm r).cons a)
theorem insB_pw (tr : ∀ a b c, le a b = true → le b c = true → le a c = true) (tot : ∀ a b, le a b = true ∨ le b a = true) (a : α) : ∀ l : List α, l.Pairwise (fun x y => le x y = true) → (insB le a l).Pairwise (fun x y => le x y = true)
  | [], _ => by simp [insB]
  | b :: r, h => by
    obtain ⟨h1, h2⟩ := List.pairwise_cons.mp h
    unfold insB
    split
    · rename_i hab
      refine List.pairwise_cons.mpr ⟨fun y hy => ?_, h⟩
      rcases List.mem_cons.mp hy with e | hy
      · rw [e]; exact hab
      · exact tr _ _ _ hab (h1 y hy)
    · rename_i hab
      refine List.pairwise_cons.mpr ⟨fun y hy => ?_, insB_pw tr tot a r h2⟩
      rcases List.mem_cons.mp ((insB_perm a r).mem_iff.mp hy) with e | hy
      · rw [e]; exact (tot a b).resolve_left hab
      · exact h1 y hy
theorem isort_pw (tr : ∀ a b c, le a b = true → le b c = true → le a c = true) (tot : ∀ a b, le a b = true ∨ le b a = true) : ∀ l : List α, (isort le l).Pairwise (fun x y => le x y = true)
  | [] => .nil
  | a :: r => insB_pw tr tot a _ (isort_pw tr tot r)
end
def leI (a b : Int) : Bool := decide (a ≤ b)
def leS (a b : Str) : Bool := !decide (b.cps.toList < a.cps.toList)
theorem leI_tr (a b c : Int) (h1 : leI a b = true) (h2 : leI b c = true) : leI a c = true := decide_eq_true (Int.le_trans (of_decide_eq_true h1) (of_decide_eq_true h2))
theorem leI_tot (a b : Int) : leI a b = true ∨ leI b a = true := (Int.le_total a b).imp decide_eq_true decide_eq_true
theorem leS_iff (a b : Str) : leS a b = true ↔ a.cps.toList ≤ b.cps.toList := by
  unfold leS
  rw [Bool.not_eq_true', decide_eq_false_iff_not]
  exact List.not_lt
theorem leS_tr (a b c : Str) (h1 : leS a b = true) (h2 : leS b c = true) : leS a c = true := (leS_iff a c).mpr (List.le_trans ((leS_iff a b).mp h1) ((leS_iff b c).mp h2))
theorem leS_tot (a b : Str) : leS a b = true ∨ leS b a = true := (List.le_total a.cps.toList b.cps.toList).imp (leS_iff a b).mpr (leS_iff b a).mpr
theorem str_ext {a b : Str} (h : a.cps.toList = b.cps.toList) : a = b := by
  obtain ⟨⟨x⟩⟩ := a
  obtain ⟨⟨y⟩⟩ := b
  exact congrArg (fun l => (⟨⟨l⟩⟩ : Str)) h
theorem leS_anti (a b : Str) (h1 : leS a b = true) (h2 : leS b a = true) : a = b := str_ext (List.le_antisymm ((leS_iff a b).mp h1) ((leS_iff b a).mp h2))
theorem risingS_pw : ∀ (r : List Str) (p : Str), PyProof.Rows.risingS p r = true → (p :: r).Pairwise fun x y => leS x y = true
  | [], p, _ => by simp
  | x :: r, p, h => by
    have h' : (!ltCps x.cps.toList p.cps.toList && PyProof.Rows.risingS x r) = true := h
    obtain ⟨h1, h2⟩ := Bool.and_eq_true_iff.mp h'
    have ih := risingS_pw r x h2
    have hp : leS p x = true := by
      unfold leS
      rw [← PyProof.Rows.ltCps_eq]
      exact h1
    refine List.pairwise_cons.mpr ⟨fun y hy => ?_, ih⟩
    rcases List.mem_cons.mp hy with e | hy
    · rw [e]; exact hp
    · exact leS_tr _ _ _ hp ((List.pairwise_cons.mp ih).1 y hy)
theorem sortedS_pw : ∀ {l : List Str}, PyProof.Rows.sortedS l = true → l.Pairwise fun x y => leS x y = true
  | [], _ => .nil
  | x :: r, h => risingS_pw r x h
def fSorted : List D → Option D
  | [d] => d.lis.bind fun l => match dInts l with
    | some ns => some (.lst ((isort leI ns).map .int))
    | none => match dStrs l with
      | some ss => if ss.length < 64 then some (.lst ((isort leS ss).map .str)) else none
      | none => none
  | _ => none
section
variable {X : Cx} {K : PySem.W.Frag} {H : Hp} {Z : Addr → Prop}
theorem reps_ints : ∀ ns : List Int, Reps K H Z (ns.map .int) (ns.map V.int)
  | [] => rfl
  | n :: r => Reps.cons rfl (reps_ints r)
theorem reps_strs : ∀ ns : List Str, Reps K H Z (ns.map .str) (ns.map V.str)
  | [] => rfl
  | n :: r => Reps.cons rfl (reps_strs r)
theorem reps_bls : ∀ ns : List Bool, Reps K H Z (ns.map .bl) (ns.map V.bl)
  | [] => rfl
  | n :: r => Reps.cons rfl (reps_bls r)
theorem ca_sorted : CaD K (fun xs H Q => rSortedI K xs H Q ∨ rSortedS K xs H Q) fSorted := by
  intro H Z l d xs Q hz r h k
  unfold fSorted at h
  split at h
  · rename_i e
    obtain ⟨v, rfl, h1⟩ := r.inv1
    cases e1 : e.lis with
    | none => rw [e1] at h; cases h
    | some ds =>
      obtain ⟨p, vs, rfl, h2, h3⟩ := D.lis_rep e1 h1
      rw [e1, Option.bind_some] at h
      cases e2 : dInts ds with
      | some ns =>
        rw [e2] at h
        cases h
        have e3 := dInts_rep e2 h3
        subst e3
        refine .inl ⟨p, ns, rfl, h2, fun ns' q hp hs hq => ?_⟩
        have e4 : ns' = isort leI ns := List.Perm.eq_of_pairwise (le := fun a b => leI a b = true) (fun a b _ _ q1 q2 => Int.le_antisymm (of_decide_eq_true q1) (of_decide_eq_true q2)) (hs.imp decide_eq_true) (isort_pw leI_tr leI_tot ns) (hp.trans (isort_perm ns).symm)
        subst e4
        exact k _ _ (same_upd hq) (new_lst hz hq (reps_ints _))
      | none =>
        rw [e2] at h
        cases e5 : dStrs ds with
        | none => simp only [e5] at h; cases h
        | some ss =>
          simp only [e5] at h
          split at h
          · rename_i h64
            cases h
            have e3 := dStrs_rep e5 h3
            subst e3
            refine .inr ⟨p, ss, rfl, h2, h64, fun ys q hp hs hq => ?_⟩
            have e4 : ys = isort leS ss := List.Perm.eq_of_pairwise (le := fun a b => leS a b = true) (fun a b _ _ q1 q2 => leS_anti a b q1 q2) (sortedS_pw hs) (isort_pw leS_tr leS_tot ss) (hp.trans (isort_perm ss).symm)
            subst e4
            exact k _ _ (same_upd hq) (new_lst hz hq (reps_strs _))
          · cases h
  · cases h
theorem call_sortedA : CallR X (.builtin "sorted") (fun xs H Q => rSortedI X.K xs H Q ∨ rSortedS X.K xs H Q) := cr_sortedI.or cr_sortedS
end
/-! ### isinstance -/
/-- the name of a built-in type -/
def D.tn : D → Option String
  | .non => some "NoneType"
  | .bl _ => some "bool"
  | .int _ => some "int"
  | .str _ => some "str"
  | .lst _ => some "list"
  | .rol _ => some "list"
  | .tup _ => some "tuple"
  | .dct _ _ => some "dict"
  | .ob _ _ => none
section
variable {X : Cx} {K : PySem.W.Frag} {H : Hp} {Z : Addr → Prop}
theorem D.tyx {d : D} {n : String} {v : V} (h : d.tn = some n) (r : Rep K H Z d v) : TyX K H v (.type n) := by
  cases d with
  | non => cases h; cases (show v = _ from r); exact .base .non
  | bl b => cases h; cases (show v = _ from r); exact .base (.bl b)
  | int b => cases h; cases (show v = _ from r); exact .base (.int b)
  | str b => cases h; cases (show v = _ from r); exact .base (.str b)
  | lst l =>
    cases h
    simp only [Rep] at r
    obtain ⟨p, vs, rfl, ⟨_, h1⟩, h2⟩ := r
    rcases h1 with h1 | ⟨o, h1⟩
    · exact .base (.lst h1)
    · exact .base (.frz h1)
  | rol l =>
    cases h
    simp only [Rep] at r
    obtain ⟨p, vs, rfl, h1, h2⟩ := r
    rcases h1 with ⟨_, h1 | ⟨o, h1⟩⟩ | ⟨o, its, n, h1, h3, _⟩
    · exact .base (.lst h1)
    · exact .base (.frz h1)
    · exact .kList h1 h3
  | tup l =>
    cases h
    simp only [Rep] at r
    obtain ⟨p, vs, rfl, h1, h2⟩ := r
    rcases h1 with ⟨_, h1 | ⟨o, h1⟩⟩ | ⟨o, its, n, h1, h3, _⟩
    · exact .base (.tup h1)
    · exact .fTuple h1
    · exact .kTuple h1 h3
  | dct ks l =>
    cases h
    simp only [Rep] at r
    obtain ⟨p, vs, rfl, _, h1, _, h2⟩ := r
    rcases h1 with h1 | ⟨o, h1⟩
    · exact .base (.dK h1)
    · exact .fDict h1
  | ob _ _ => cases h
end
end DL
set_option Elab.async false
set_option linter.all false
set_option maxRecDepth 100000
set_option maxHeartbeats 4000000
namespace DL
open PySem PySem.Spec PyProof.Rows L2
variable [CTab]
/-! ### types of data, isinstance -/
inductive Ty where
  | non | bool | int | str | list | tuple | dict
  deriving DecidableEq
def Ty.nm : Ty → String
  | .non => "NoneType" | .bool => "bool" | .int => "int" | .str => "str" | .list => "list" | .tuple => "tuple" | .dict => "dict"
def Ty.sub : Ty → Ty → Bool
  | .bool, .int => true
  | a, b => decide (a = b)
def D.ty : D → Option Ty
  | .non => some .non
  | .bl _ => some .bool
  | .int _ => some .int
  | .str _ => some .str
  | .lst _ => some .list
  | .rol _ => some .list
  | .tup _ => some .tuple
  | .dct _ _ => some .dict
  | .ob _ _ => none
theorem kit_all (t T : Ty) : kitB t.nm T.nm = some (t.sub T) := by
  cases t <;> cases T <;> decide +kernel
theorem D.tyx' {K : PySem.W.Frag} {H : Hp} {Z : Addr → Prop} {d : D} {t : Ty} {v : V} (h : d.ty = some t) (r : Rep K H Z d v) : TyX K H v (.type t.nm) := by
  have e : d.tn = some t.nm := by cases d <;> cases h <;> rfl
  exact D.tyx e r
/-- what an instance's class must be for isinstance -/
structure ClsI (K : PySem.W.Frag) (C : Addr) : Prop where
  cl : Cls K C
  ha : PySem.W.findIn K (.ref C) "__class__" = some (some (.builtin "object.__class__"))
  hn : PySem.W.specialIn K (.builtin "object.__class__") "__get__" = some (some (.builtin "getset_descriptor.__get__"))
  htk : PySem.W.takesIn K (.builtin "object.__class__") = some true
  hm : PySem.W.mroIn K C (.type "object") = some true
def clsIB (K : PySem.W.Frag) (x : Str) : Bool := (He.Fa.cls x).ok K && (He.eqO (PySem.W.findIn K (.ref (He.ga K x)) "__class__") (some (some (.builtin "object.__class__"))) && (He.eqO (PySem.W.specialIn K (.builtin "object.__class__") "__get__") (some (some (.builtin "getset_descriptor.__get__"))) &&
  (decide (PySem.W.takesIn K (.builtin "object.__class__") = some true) && decide (PySem.W.mroIn K (He.ga K x) (.type "object") = some true))))
theorem clsIB_ok {K : PySem.W.Frag} {x : Str} (h : clsIB K x = true) : ClsI K (He.ga K x) := by
  obtain ⟨h1, h⟩ := He.ba h
  obtain ⟨h2, h⟩ := He.ba h
  obtain ⟨h3, h⟩ := He.ba h
  obtain ⟨h4, h5⟩ := He.ba h
  exact ⟨He.cls_ok h1, He.eqO_ok h2, He.eqO_ok h3, of_decide_eq_true h4, of_decide_eq_true h5⟩
/-- the facts of the plain classes numbered below n -/
structure CFacts (K : PySem.W.Frag) (n : Nat) : Prop where
  cls : ∀ c, c < n → ClsI K (He.ga K (cN c))
  noat : ∀ c f, c < n → f ∈ cF c → NoAttr K (He.ga K (cN c)) f
  nd : ∀ c, c < n → (cF c).Nodup
  isi : ∀ c e, c < n → e < n → PySem.W.kitOne K (.ref (He.ga K (cN c))) (.ref (He.ga K (cN e))) = some (c == e)
  bui : ∀ (t : Ty) e, e < n → PySem.W.kitOne K (.type t.nm) (.ref (He.ga K (cN e))) = some false
def Ty.all : List Ty := [.non, .bool, .int, .str, .list, .tuple, .dict]
theorem Ty.mem (t : Ty) : t ∈ Ty.all := by cases t <;> simp [Ty.all]
def cfactsB (K : PySem.W.Frag) (n : Nat) : Bool := (List.range n).all fun c => clsIB K (cN c) && (((cF c).all fun f => (He.Fa.noat (cN c) f).ok K) && (decide (cF c).Nodup &&
  (((List.range n).all fun e => decide (PySem.W.kitOne K (.ref (He.ga K (cN c))) (.ref (He.ga K (cN e))) = some (c == e))) && Ty.all.all fun t => decide (PySem.W.kitOne K (.type t.nm) (.ref (He.ga K (cN c))) = some false))))
theorem cfacts_ok {K : PySem.W.Frag} {n : Nat} (h : cfactsB K n = true) : CFacts K n := by
  have at_ : ∀ c, c < n → _ := fun c hc => List.all_eq_true.mp h c (List.mem_range.mpr hc)
  refine ⟨fun c hc => clsIB_ok (He.ba (at_ c hc)).1, fun c f hc hf => ?_, fun c hc => ?_, fun c e hc he => ?_, fun t e he => ?_⟩
  · exact He.noat_ok (List.all_eq_true.mp (He.ba (He.ba (at_ c hc)).2).1 f hf)
  · exact of_decide_eq_true (He.ba (He.ba (He.ba (at_ c hc)).2).2).1
  · exact of_decide_eq_true (List.all_eq_true.mp (He.ba (He.ba (He.ba (He.ba (at_ c hc)).2).2).2).1 e (List.mem_range.mpr he))
  · exact of_decide_eq_true (List.all_eq_true.mp (He.ba (He.ba (He.ba (He.ba (at_ e he)).2).2).2).2 t (Ty.mem t))
def isTy (T : Ty) (d : D) : Option Bool := d.ty.map fun t => t.sub T
def isTys (Ts : List Ty) (d : D) : Option Bool := d.ty.map fun t => Ts.any fun T => t.sub T
def isCl (n e : Nat) : D → Option Bool
  | .ob c _ => if c < n then some (c == e) else none
  | d => d.ty.map fun _ => false
def mIs (f : D → Option Bool) (m : M D) : M D := m1 (fun d => (f d).map .bl) m
section
variable {X : Cx} {E : XK} {pos p p2 : Pos} {e : Expr} {m : M D}
theorem d_isTy (T : Ty) {y : Str} {tp : Pos} (he : PE X e (tD X.K E m)) (hm : X.mg "isinstance" = none) (hy : X.mg y = none) (hv : bootBuiltins y = some (.type T.nm)) (hg : Gl X "isinstance" := by rfl) (hgy : Gl X y := by rfl) (hn : y ≠ "__name__" := by decide) (hd : (y == ("__debug__" : Str)) = false := by decide)
    (hs : starEach [e, .Name y tp] X.env = (false, eval e X.env) :: starEach [.Name y tp] X.env := by rfl) (hs2 : starEach [.Name y tp] X.env = (false, eval (.Name y tp) X.env) :: starEach [] X.env := by rfl) (hpl : (backTo pos (starEach [.Name y tp] X.env)).any (·.1) = false := by rfl) :
    PE X (.Call (.Name "isinstance" p) [e, .Name y tp] [] pos) (tD X.K E (mIs (isTy T) m)) := by
  have hb : PE X (.Name y tp) (tC (.ty T.nm)) := pe_bltn hgy hy hv rfl hn hd
  refine (pe_callB call_isi hg hm (by decide +kernel) (pa_cons he (pa_cons hb pa_nil hs2) hs) (by decide) (by decide) hs hpl).imp fun σ H Q h => ?_
  obtain ⟨c, Z, ρ, r, q⟩ := h
  refine ⟨c, Z, ρ, r, q.bind fun d ρ1 v H1 r1 e1 h1 q1 => ?_⟩
  obtain ⟨w, hw, k⟩ := q1.lift r1
  cases ht : d.ty with
  | none => simp [isTy, ht] at hw
  | some t =>
    simp only [isTy, ht, Option.map_some, Option.some.injEq] at hw
    subst hw
    exact ⟨v, _, _, _, t.sub T, rfl, .ty T.nm, D.tyx' ht h1, kit_ty (kit_all t T), k _ H1 (Same.refl H1) rfl⟩
theorem d_isTys2 (T S : Ty) {y z : Str} {yp zp : Pos} {kt : Nat} {tp : Pos} (he : PE X e (tD X.K E m)) (hm : X.mg "isinstance" = none) (hy : X.mg y = none) (hz : X.mg z = none) (hv : bootBuiltins y = some (.type T.nm)) (hw : bootBuiltins z = some (.type S.nm)) (hg : Gl X "isinstance" := by rfl) (hgy : Gl X y := by rfl) (hgz : Gl X z := by rfl)
    (hn : y ≠ "__name__" := by decide) (hd : (y == ("__debug__" : Str)) = false := by decide) (hn2 : z ≠ "__name__" := by decide) (hd2 : (z == ("__debug__" : Str)) = false := by decide)
    (hs : starEach [e, .Tuple [.Name y yp, .Name z zp] kt tp] X.env = (false, eval e X.env) :: starEach [.Tuple [.Name y yp, .Name z zp] kt tp] X.env := by rfl)
    (hs2 : starEach [.Tuple [.Name y yp, .Name z zp] kt tp] X.env = (false, eval (.Tuple [.Name y yp, .Name z zp] kt tp) X.env) :: starEach [] X.env := by rfl) (hpl : (backTo pos (starEach [.Tuple [.Name y yp, .Name z zp] kt tp] X.env)).any (·.1) = false := by rfl)
    (hs3 : starEach [.Name y yp, .Name z zp] X.env = (false, eval (.Name y yp) X.env) :: starEach [.Name z zp] X.env := by rfl) (hs4 : starEach [.Name z zp] X.env = (false, eval (.Name z zp) X.env) :: starEach [] X.env := by rfl) :
    PE X (.Call (.Name "isinstance" p) [e, .Tuple [.Name y yp, .Name z zp] kt tp] [] pos) (tD X.K E (mIs (isTys [T, S]) m)) := by
  have hb : PE X (.Name y yp) (tC (.ty T.nm)) := pe_bltn hgy hy hv rfl hn hd
  have hc : PE X (.Name z zp) (tC (.ty S.nm)) := pe_bltn hgz hz hw rfl hn2 hd2
  have ht : PE X (.Tuple [.Name y yp, .Name z zp] kt tp) (tTup (tCons (tC (.ty T.nm)) (tCons (tC (.ty S.nm)) tNil))) := pe_tup (pa_cons hb (pa_cons hc pa_nil hs4) hs3)
  refine (pe_callB call_isiT hg hm (by decide +kernel) (pa_cons he (pa_cons ht pa_nil hs2) hs) (by decide) (by decide) hs hpl).imp fun σ H Q h => ?_
  obtain ⟨c, Z, ρ, r, q⟩ := h
  refine ⟨c, Z, ρ, r, q.bind fun d ρ1 v H1 r1 e1 h1 q1 => ?_⟩
  obtain ⟨w, hw, k⟩ := q1.lift r1
  cases ht : d.ty with
  | none => simp [isTys, ht] at hw
  | some t =>
    simp only [isTys, ht, Option.map_some, Option.some.injEq] at hw
    subst hw
    refine ⟨by show 2 ≤ sizeLine; decide, fun a ha => ?_⟩
    have s := same_upd (o := .tup [V.ty T.nm, V.ty S.nm]) ha
    have h2 : TyX X.K (upd H1 a (.tup [V.ty T.nm, V.ty S.nm])) v (.type t.nm) := D.tyx' ht (h1.ext (Ext.same s))
    refine ⟨v, a, [.ty T.nm, .ty S.nm], _, [.type T.nm, .type S.nm], [T, S].any fun T => t.sub T, rfl, upd_same, .cons (.ty _) (.cons (.ty _) .nil), h2, ?_, k _ _ s rfl⟩
    refine kitAny_cons (kit_ty (kit_all t T)) (fun _ => kitAny_cons (kit_ty (kit_all t S)) (fun _ => ?_) (fun h => ?_)) (fun h => ?_)
    · rename_i h1 h2
      rw [kitAny_nil]
      simp [h1, h2]
    · simp [h]
    · simp [h]
theorem d_isCl {n : Nat} (cf : CFacts X.K n) (ec : Nat) (hec : ec < n) {y : Str} {tp : Pos} (hy : y = cN ec) (he : PE X e (tD X.K E m)) (hm : X.mg "isinstance" = none) (hmy : X.mg y = some (.ref (He.ga X.K y))) (hg : Gl X "isinstance" := by rfl) (hgy : Gl X y := by rfl) (hd : (y == ("__debug__" : Str)) = false := by decide)
    (hs : starEach [e, .Name y tp] X.env = (false, eval e X.env) :: starEach [.Name y tp] X.env := by rfl) (hs2 : starEach [.Name y tp] X.env = (false, eval (.Name y tp) X.env) :: starEach [] X.env := by rfl) (hpl : (backTo pos (starEach [.Name y tp] X.env)).any (·.1) = false := by rfl) :
    PE X (.Call (.Name "isinstance" p) [e, .Name y tp] [] pos) (tD X.K E (mIs (isCl n ec) m)) := by
  subst hy
  have hb : PE X (.Name (cN ec) tp) (tC (.ref (He.ga X.K (cN ec)))) := pe_glob hgy hmy rfl hd
  refine (pe_callB call_isi hg hm (by decide +kernel) (pa_cons he (pa_cons hb pa_nil hs2) hs) (by decide) (by decide) hs hpl).imp fun σ H Q h => ?_
  obtain ⟨c, Z, ρ, r, q⟩ := h
  refine ⟨c, Z, ρ, r, q.bind fun d ρ1 v H1 r1 e1 h1 q1 => ?_⟩
  obtain ⟨w, hw, k⟩ := q1.lift r1
  have h1 : Rep X.K H1 Z d v := h1
  have plain : ∀ t, d.ty = some t → isCl n ec d = some false → tC (.ref (He.ga X.K (cN ec))) σ H1 fun x H2 => rIsi X.K [v, x] H2 Q := fun t ht hi => by
    have hw : (isCl n ec d).map D.bl = some w := hw
    rw [hi] at hw
    cases hw
    exact ⟨v, _, _, _, false, rfl, .own _, D.tyx' ht h1, cf.bui t ec hec, k _ H1 (Same.refl H1) rfl⟩
  cases d with
  | ob c l =>
    have hw : (if c < n then some (c == ec) else none).map D.bl = some w := hw
    split at hw
    · rename_i hc
      cases hw
      simp only [Rep] at h1
      obtain ⟨a, dx, vs, rfl, _, h2, _⟩ := h1
      have g := cf.cls c hc
      exact ⟨_, _, _, _, c == ec, rfl, .own _, .base (.ins h2 g.cl g.ha g.hn g.htk g.hm), cf.isi c ec hc hec, k _ H1 (Same.refl H1) rfl⟩
    · cases hw
  | non => exact plain _ rfl rfl
  | bl _ => exact plain _ rfl rfl
  | int _ => exact plain _ rfl rfl
  | str _ => exact plain _ rfl rfl
  | lst _ => exact plain _ rfl rfl
  | rol _ => exact plain _ rfl rfl
  | tup _ => exact plain _ rfl rfl
  | dct _ _ => exact plain _ rfl rfl
end
/-! ### fields -/
/-- o.f: fs tells for each class where f stands -/
def dFld (fs : List (Nat × Nat)) : D → Option D
  | .ob c l => (fs.lookup c).bind fun i => l[i]?
  | _ => none
theorem lookup_zip {f : Str} : ∀ {ns : List Str} {vs : List V} {i : Nat} {v : V}, ns.Nodup → ns[i]? = some f → vs[i]? = some v → (ns.zip vs).lookup f = some v
  | [], _, i, _, _, h, _ => by simp at h
  | n :: ns, [], i, _, _, _, h => by simp at h
  | n :: ns, u :: vs, 0, v, _, h1, h2 => by
    simp only [List.getElem?_cons_zero, Option.some.injEq] at h1 h2
    subst h1 h2
    rw [List.zip_cons_cons, List.lookup_cons_self]
  | n :: ns, u :: vs, i + 1, v, nd, h1, h2 => by
    obtain ⟨hn, hr⟩ := List.nodup_cons.mp nd
    simp only [List.getElem?_cons_succ] at h1 h2
    have hne : (f == n) = false := by
      refine beq_eq_false_iff_ne.mpr fun e => ?_
      subst e
      exact hn (List.mem_of_getElem? h1)
    rw [List.zip_cons_cons, List.lookup_cons, hne]
    exact lookup_zip hr h1 h2
theorem lookup_mem {fs : List (Nat × Nat)} {c i : Nat} : fs.lookup c = some i → (c, i) ∈ fs := by
  induction fs with
  | nil => intro h; cases h
  | cons p r ih =>
    obtain ⟨a, b⟩ := p
    rw [List.lookup_cons]
    cases e : c == a with
    | true =>
      intro h
      cases h
      rw [eq_of_beq e]
      exact List.mem_cons_self
    | false =>
      intro h
      exact List.mem_cons_of_mem _ (ih h)
section
variable {X : Cx} {E : XK} {pos : Pos} {e : Expr} {m : M D}
theorem d_fld {n : Nat} {f : Str} (cf : CFacts X.K n) (fs : List (Nat × Nat)) (he : PE X e (tD X.K E m)) (hf : (fs.all fun q => decide (q.1 < n) && decide ((cF q.1)[q.2]? = some f)) = true := by decide +kernel)
    (hb : attributeBase e f X.env (eval e X.env) = eval e X.env := by rfl) : PE X (.Attribute e f pos) (tD X.K E (m1 (dFld fs) m)) := by
  refine (pe_fld he hb).imp fun σ H Q h => ?_
  obtain ⟨c, Z, ρ, r, q⟩ := h
  refine ⟨c, Z, ρ, r, q.bind fun d ρ1 v H1 r1 e1 h1 q1 => ?_⟩
  obtain ⟨w, hw, k⟩ := q1.lift r1
  have h1 : Rep X.K H1 Z d v := h1
  unfold dFld at hw
  split at hw
  · rename_i c' l _
    cases hl : fs.lookup c' with
    | none => rw [hl] at hw; cases hw
    | some i =>
      rw [hl] at hw
      have hw : l[i]? = some w := hw
      obtain ⟨g1, g2⟩ := Bool.and_eq_true_iff.mp (List.all_eq_true.mp hf _ (lookup_mem hl))
      have g1 := of_decide_eq_true g1
      have g2 := of_decide_eq_true g2
      simp only [Rep] at h1
      obtain ⟨a, dx, vs, rfl, _, h2, _, h3⟩ := h1
      obtain ⟨u, hu, ru⟩ := h3.get hw
      exact ⟨a, _, dx, _, u, rfl, h2, (cf.cls c' g1).cl, cf.noat c' f g1 (List.mem_of_getElem? g2), lookup_zip (cf.nd c' g1) g2 hu, k _ H1 (Same.refl H1) ru⟩
  · cases hw
end
end DL
set_option Elab.async false
set_option linter.all false
set_option maxRecDepth 100000
set_option maxHeartbeats 4000000
namespace DL
open PySem PySem.Spec PyProof.Rows L2
variable [CTab]
/-! ### what a def is -/
/-- how a def's run ends: its value, what became of the things handed in to be changed -/
inductive FR where
  | fail
  | ok (d : D) (ts : List Ct)
  | exc (c : Nat) (l : List D)
abbrev FD := List W → FR
def RepWs (K : PySem.W.Frag) (H : Hp) (Z : Addr → Prop) : List W → List V → Prop
  | [], vs => vs = []
  | .val d :: ws, vs => ∃ v r, vs = v :: r ∧ Rep K H Z d v ∧ RepWs K H Z ws r
  | .inn t :: ws, vs => ∃ p r, vs = .ref p :: r ∧ Z p ∧ RepC K H Z t p ∧ RepWs K H Z ws r
  | .own _ :: _, _ => False
/-- where the things handed in to be changed stand -/
def inAd : List W → List V → List Addr
  | .inn _ :: ws, .ref p :: vs => p :: inAd ws vs
  | _ :: ws, _ :: vs => inAd ws vs
  | _, _ => []
def RepCs (K : PySem.W.Frag) (H : Hp) (Z : Addr → Prop) : List Ct → List Addr → Prop
  | [], ps => ps = []
  | t :: ts, ps => ∃ p r, ps = p :: r ∧ RepC K H Z t p ∧ RepCs K H Z ts r
/-- the promise of a def -/
def spF (K : PySem.W.Frag) (n : Nat) (f : FD) : Sp := fun vs H Q E => ∃ Z ws, ws.length = n ∧ (∀ p, Z p → H p ≠ none) ∧ RepWs K H Z ws vs ∧ (inAd ws vs).Nodup ∧
  match f ws with
  | .fail => False
  | .ok d ts => ∀ v H', (∀ a o, a ∉ inAd ws vs → H a = some o → H' a = some o) → RepCs K H' Z ts (inAd ws vs) → Rep K H' Z d v → Q v H'
  | .exc c l => ∀ ed us H', (∀ a o, a ∉ inAd ws vs → H a = some o → H' a = some o) → H' ed = some (.xd ((cF c).zip us)) → us.length ≤ (cF c).length → Reps K H' Z l us → E (.ref (He.ga K (cN c))) (some ed) H'
section
variable {K : PySem.W.Frag} {H : Hp} {Z : Addr → Prop}
theorem RepWs.len : ∀ {ws : List W} {vs : List V}, RepWs K H Z ws vs → ws.length = vs.length
  | [], vs, h => by
    cases (show vs = [] from h)
    rfl
  | .val d :: ws, vs, h => by
    obtain ⟨v, r, e, _, h2⟩ := h
    subst e
    exact congrArg (· + 1) (RepWs.len h2)
  | .inn t :: ws, vs, h => by
    obtain ⟨v, r, e, _, _, h2⟩ := h
    subst e
    exact congrArg (· + 1) (RepWs.len h2)
  | .own _ :: ws, vs, h => h.elim
theorem spF_len {n : Nat} {f : FD} : ∀ vs H Q E, spF K n f vs H Q E → vs.length = n := by
  rintro vs H Q E ⟨Z, ws, h, _, h2, _⟩
  rw [← h, h2.len]
end
/-! ### arguments of a def's call: data, or a slot whose thing may be changed -/
inductive Ar where
  | d (x : D)
  | s (i : Nat)
def rAr : RG (List Ar) (List V) := fun K σ H Z as vs => Paired (fun a v => match a with
  | .d x => Rep K H Z x v
  | .s i => σ[i]? = some (some v)) as vs
def mANil : M (List Ar) := fun ρ => .ok [] ρ
def mACons (m : M D) (ms : M (List Ar)) : M (List Ar) := fun ρ => bindR (m ρ) fun d ρ => bindR (ms ρ) fun l ρ => .ok (.d d :: l) ρ
def holds (ρ : Env) (i : Nat) : Option Ct := match ρ[i]? with
  | some (some (.own t)) => some t
  | some (some (.inn t)) => some t
  | _ => none
def mASlot (i : Nat) (ms : M (List Ar)) : M (List Ar) := fun ρ => match holds ρ i with
  | some _ => bindR (ms ρ) fun l ρ => .ok (.s i :: l) ρ
  | none => .fail
theorem holds_hold {ρ : Env} {i : Nat} {t : Ct} (h : holds ρ i = some t) : ∃ w, ρ[i]? = some (some w) ∧ Hold w t := by
  unfold holds at h
  split at h
  · rename_i u e
    cases h
    exact ⟨_, e, .own _⟩
  · rename_i u e
    cases h
    exact ⟨_, e, .inn _⟩
  · cases h
section
variable {X : Cx} {E : XK} {pos p : Pos} {e : Expr} {es : List Expr} {m : M D} {ms : M (List Ar)} {K : PySem.W.Frag}
abbrev tAs (K : PySem.W.Frag) (E : XK) (m : M (List Ar)) : TA := tG K E rAr m
theorem rAr_ext {σ : St} {H H' : Hp} {Z : Addr → Prop} {as : List Ar} {vs : List V} (e : Ext Z H H') (h : rAr K σ H Z as vs) : rAr K σ H' Z as vs := Paired.mapP h fun a v q => by
  cases a with
  | d x => exact (show Rep K H Z x v from q).ext e
  | s i => exact q
theorem as_nil : PA X [] (tAs X.K E mANil) := pa_nil.imp fun σ H Q ⟨c, Z, ρ, r, q⟩ => q.done r .nil
theorem as_cons (ha : PE X e (tD X.K E m)) (hr : PA X es (tAs X.K E ms)) (hs : starEach (e :: es) X.env = (false, eval e X.env) :: starEach es X.env := by rfl) : PA X (e :: es) (tAs X.K E (mACons m ms)) := by
  refine (pa_cons ha hr hs).imp fun σ H Q h => ?_
  obtain ⟨c, Z, ρ, r, q⟩ := h
  exact ⟨c, Z, ρ, r, q.bind fun d ρ1 v H1 r1 e1 h1 q1 => ⟨c, Z, ρ1, r1, q1.bind fun l ρ2 vs H2 r2 e2 h2 q2 => q2.done r2 (.cons (show Rep _ _ _ _ _ from Rep.ext e2 _ _ h1) h2)⟩⟩
theorem as_slot (i : Nat) {x : Str} {xp : Pos} (hr : PA X es (tAs X.K E ms)) (hN : X.N[i]? = some x := by rfl) (hv : Vis X.env.scope x := by first | exact Or.inl rfl | exact Or.inr (Or.inl rfl) | exact Or.inr (Or.inr rfl)) (hd : (x == ("__debug__" : Str)) = false := by decide)
    (hcd : (x == ("__classdict__" : Str)) = false := by decide) (hs : starEach (.Name x xp :: es) X.env = (false, eval (.Name x xp) X.env) :: starEach es X.env := by rfl) : PA X (.Name x xp :: es) (tAs X.K E (mASlot i ms)) := by
  refine (pa_cons (pe_var hN hv hd hcd) hr hs).imp fun σ H Q h => ?_
  obtain ⟨c, Z, ρ, r, q⟩ := h
  unfold mASlot at q
  split at q
  · rename_i t ht
    obtain ⟨w, hw, hh⟩ := holds_hold ht
    obtain ⟨p, h1, _, _⟩ := r.hold hw hh
    exact ⟨_, h1, ⟨c, Z, ρ, r, q.bind fun l ρ2 vs H2 r2 e2 h2 q2 => q2.done r2 (.cons h1 h2)⟩⟩
  · exact q.elim
end
/-- how many arguments there are -/
class ArLen (n : outParam Nat) (ms : M (List Ar)) : Prop where
  len : ∀ ρ as ρ', ms ρ = .ok as ρ' → as.length = n
instance : ArLen 0 mANil := ⟨fun ρ as ρ' h => by cases h; rfl⟩
theorem bind_ok {α β : Type} {r : Res α} {k : α → Env → Res β} {b : β} {ρ' : Env} (h : bindR r k = .ok b ρ') : ∃ a ρ1, r = .ok a ρ1 ∧ k a ρ1 = .ok b ρ' := by
  cases r with
  | fail => cases h
  | ok a ρ1 => exact ⟨a, ρ1, rfl, h⟩
  | exc x l ρ1 => cases h
instance {n : Nat} {m : M D} {ms : M (List Ar)} [i : ArLen n ms] : ArLen (n + 1) (mACons m ms) := ⟨fun ρ as ρ' h => by
  obtain ⟨a, ρ1, _, h⟩ := bind_ok h
  obtain ⟨l, ρ2, h2, h⟩ := bind_ok h
  cases h
  exact congrArg (· + 1) (i.len _ _ _ h2)⟩
instance {n j : Nat} {ms : M (List Ar)} [i : ArLen n ms] : ArLen (n + 1) (mASlot j ms) := ⟨fun ρ as ρ' h => by
  unfold mASlot at h
  split at h
  · obtain ⟨l, ρ2, h2, h⟩ := bind_ok h
    cases h
    exact congrArg (· + 1) (i.len _ _ _ h2)
  · cases h⟩
/-! ### the call -/
/-- the arguments as they are handed over, and the one slot whose thing may be changed -/
def toWs (ρ : Env) : List Ar → Option (List W × Option Nat)
  | [] => some ([], none)
  | .d x :: r => (toWs ρ r).map fun q => (.val x :: q.1, q.2)
  | .s i :: r => match holds ρ i, toWs ρ r with
    | some t, some (ws, none) => some (.inn t :: ws, some i)
    | _, _ => none
def putBack (ρ : Env) : Option Nat → List Ct → Option Env
  | none, [] => some ρ
  | some i, [t] => match ρ[i]? with
    | some (some w) => some (ρ.set i (some (w.put t)))
    | _ => none
  | _, _ => none
def callF (f : FD) (as : List Ar) (ρ : Env) : Res D := match toWs ρ as with
  | none => .fail
  | some (ws, o) => match f ws with
    | .fail => .fail
    | .ok d ts => (match putBack ρ o ts with
      | some ρ' => .ok d ρ'
      | none => .fail)
    | .exc c l => match o with
      | none => .exc c l ρ
      | some _ => .fail
def mCall (f : FD) (ms : M (List Ar)) : M D := fun ρ => bindR (ms ρ) fun as ρ => callF f as ρ
section
variable {K : PySem.W.Frag} {E : XK} {c : Cz} {Z : Addr → Prop} {ρ : Env} {σ : St} {H : Hp}
theorem toWs_none (r : Rel K c Z ρ σ H) : ∀ {as : List Ar} {vs : List V} {ws : List W}, toWs ρ as = some (ws, none) → rAr K σ H Z as vs → RepWs K H Z ws vs ∧ inAd ws vs = []
  | [], vs, ws, h, q => by
    cases q
    simp only [toWs, Option.some.injEq, Prod.mk.injEq] at h
    obtain ⟨h1, _⟩ := h
    subst h1
    exact ⟨rfl, rfl⟩
  | .d x :: r', vs, ws, h, q => by
    cases q with
    | cons q1 q2 =>
      simp only [toWs] at h
      cases e : toWs ρ r' with
      | none => rw [e] at h; cases h
      | some y =>
        obtain ⟨ws', o⟩ := y
        rw [e] at h
        simp only [Option.map_some, Option.some.injEq, Prod.mk.injEq] at h
        obtain ⟨h1, h2⟩ := h
        subst h1 h2
        obtain ⟨g1, g2⟩ := toWs_none r e q2
        refine ⟨⟨_, _, rfl, q1, g1⟩, ?_⟩
        show inAd (.val x :: ws') _ = []
        unfold inAd
        exact g2
  | .s i :: r', vs, ws, h, q => by
    simp only [toWs] at h
    split at h <;> cases h
theorem toWs_some (r : Rel K c Z ρ σ H) {i : Nat} : ∀ {as : List Ar} {vs : List V} {ws : List W}, toWs ρ as = some (ws, some i) → rAr K σ H Z as vs → ∃ p w t, ρ[i]? = some (some w) ∧ Hold w t ∧ σ[i]? = some (some (.ref p)) ∧ RepWs K H Z ws vs ∧ inAd ws vs = [p]
  | [], vs, ws, h, q => by
    simp [toWs] at h
  | .d x :: r', vs, ws, h, q => by
    cases q with
    | cons q1 q2 =>
      simp only [toWs] at h
      cases e : toWs ρ r' with
      | none => rw [e] at h; cases h
      | some y =>
        obtain ⟨ws', o⟩ := y
        rw [e] at h
        simp only [Option.map_some, Option.some.injEq, Prod.mk.injEq] at h
        obtain ⟨h1, h2⟩ := h
        subst h1 h2
        obtain ⟨p, w, t, a1, a2, a3, g1, g2⟩ := toWs_some r e q2
        refine ⟨p, w, t, a1, a2, a3, ⟨_, _, rfl, q1, g1⟩, ?_⟩
        show inAd (.val x :: ws') _ = [p]
        unfold inAd
        exact g2
  | .s j :: r', vs, ws, h, q => by
    cases q with
    | cons q1 q2 =>
      simp only [toWs] at h
      split at h
      · rename_i t ws' ht hr'
        cases h
        obtain ⟨w, hw, hh⟩ := holds_hold ht
        obtain ⟨p, h1, h2, h3⟩ := r.hold hw hh
        have e := h1.symm.trans q1
        cases e
        obtain ⟨g1, g2⟩ := toWs_none r hr' q2
        refine ⟨p, w, t, hw, hh, h1, ⟨p, _, rfl, h2, h3, g1⟩, ?_⟩
        show p :: inAd ws' _ = [p]
        rw [g2]
      · cases h
/-- a call's reading leads to the callee's promise -/
theorem call_gen {n : Nat} {f : FD} {as : List Ar} {vs : List V} {Q : VK} (r : Rel K c Z ρ σ H) (ha : rAr K σ H Z as vs) (hn : vs.length = n) (q : tR K E rD c Z σ H Q (callF f as ρ)) : spF K n f vs H Q E := by
  unfold callF at q
  cases e : toWs ρ as with
  | none => rw [e] at q; exact q.elim
  | some y =>
    obtain ⟨ws, o⟩ := y
    rw [e] at q
    cases o with
    | none =>
      obtain ⟨g1, g2⟩ := toWs_none r e ha
      refine ⟨Z, ws, by rw [g1.len]; exact hn, r.dom, g1, by rw [g2]; exact .nil, ?_⟩
      cases ef : f ws with
      | fail => simp only [ef] at q; exact q.elim
      | ok d ts =>
        simp only [ef] at q
        intro v H' hk ht hd
        rw [g2] at ht hk
        cases ts with
        | nil =>
          have s : Same H H' := fun a o h => hk a o (by simp) h
          exact q v H' (r.same s) (Ext.same s) hd
        | cons t ts =>
          obtain ⟨_, _, e2, _⟩ := ht
          cases e2
      | exc x l =>
        simp only [ef] at q
        intro ed us H' hk h1 h2 h3
        rw [g2] at hk
        have s : Same H H' := fun a o h => hk a o (by simp) h
        exact q ed us H' (r.same s) (Ext.same s) h1 h2 h3
    | some i =>
      obtain ⟨p, w, t, a1, a2, a3, g1, g2⟩ := toWs_some r e ha
      refine ⟨Z, ws, by rw [g1.len]; exact hn, r.dom, g1, by rw [g2]; simp, ?_⟩
      cases ef : f ws with
      | fail => simp only [ef] at q; exact q.elim
      | ok d ts =>
        simp only [ef] at q
        intro v H' hk ht hd
        rw [g2] at ht hk
        match ts, ht, q with
        | [], ht, q => cases ht
        | [t'], ht, q =>
          obtain ⟨p', r', e2, ht1, ht2⟩ := ht
          cases e2
          have hk' : ∀ a o, a ≠ p → H a = some o → H' a = some o := fun a o hne h => hk a o (by simpa using hne) h
          simp only [putBack, a1] at q
          have hz : Z p := by
            obtain ⟨q1, q2, z, _⟩ := r.hold a1 a2
            rw [a3] at q2
            cases q2
            exact z
          exact q v H' (r.put a1 a2 a3 hk' ht1) (fun a o nz h => hk' a o (fun e => nz (by rw [e]; exact hz)) h) hd
        | _ :: _ :: _, ht, q =>
          obtain ⟨_, _, e2, _, ht2⟩ := ht
          cases e2
          obtain ⟨_, _, e3, _⟩ := ht2
          cases e3
      | exc x l =>
        simp only [ef] at q
        exact q.elim
end
section
variable {X : Cx} {CX : CXT} {E : XK} {pos p : Pos} {e : Expr} {es : List Expr} {ms : M (List Ar)} {k n : Nat} {f : Addr} {fd : FuncData} {ps : List Str} {g : FD} {x : Str}
theorem rAr_len {K : PySem.W.Frag} {σ : St} {H : Hp} {Z : Addr → Prop} {as : List Ar} {vs : List V} (h : rAr K σ H Z as vs) : as.length = vs.length := Paired.length h
/-- what the callee is: its promise, its place, its binding -/
structure Callee (P : Program) (w : World) (K : PySem.W.Frag) (mg : Str → Option Value) (base : Heap) (CX : CXT) (k : Nat) (x : Str) (n : Nat) (g : FD) : Prop where
  ex : ∃ (f : Addr) (fd : FuncData) (ps : List Str), FnOk P w K mg base CX k f fd ps (spF K n g) ∧ mg x = some (.ref f) ∧ PySem.W.keepIn K (.ref f) = true ∧ Binds K fd ps [] ∧ ps.length = n
theorem d_call {j : Nat} (c : Callee X.prog X.w X.K X.mg X.base CX k x n g) (hr : Room j X.A) (hx : Passes CX X E) (ha : PA X (e :: es) (tAs X.K E ms)) (hj : k ≤ j := by decide) (hg : Gl X x := by rfl) (hdb : (x == ("__debug__" : Str)) = false := by decide)
    [hml : ArLen n ms] (he : starEach (e :: es) X.env = (false, eval e X.env) :: starEach es X.env := by rfl) (hpl : (backTo pos (starEach es X.env)).any (·.1) = false := by rfl) :
    PE X (.Call (.Name x p) (e :: es) [] pos) (tD X.K E (mCall g ms)) := by
  obtain ⟨f, fd, ps, F, hm, hk, hb, hps⟩ := c.ex
  refine (pe_call F (hr.mono hj) hg hm hk hb .nil hx ha hdb he hpl).imp fun σ H Q h => ?_
  obtain ⟨c, Z, ρ, r, q⟩ := h
  refine ⟨c, Z, ρ, r, ?_⟩
  have q' : tR X.K E rD c Z σ H Q (bindR (ms ρ) fun as ρ => callF g as ρ) := q
  cases em : ms ρ with
  | fail => rw [em] at q'; exact q'
  | exc x l ρ1 => rw [em] at q'; exact q'
  | ok as ρ1 =>
    rw [em] at q'
    intro vs H1 r1 e1 h1
    rw [List.append_nil]
    exact call_gen r1 h1 (by rw [← rAr_len h1]; exact hml.len _ _ _ em) (q'.ext e1)
end
end DL
set_option Elab.async false
set_option linter.all false
set_option maxRecDepth 100000
set_option maxHeartbeats 4000000
namespace DL
open PySem PySem.Spec PyProof.Rows L2
variable [CTab]
/-! ### dicts: look-ups -/
def lookD : List Key → List D → Key → Option D
  | j :: ks, d :: l, k => if j = k then some d else lookD ks l k
  | _, _, _ => none
section
variable {K : PySem.W.Frag} {H : Hp} {Z : Addr → Prop}
theorem lookD_rep {k : Key} : ∀ {ks : List Key} {l : List D} {vs : List V}, Reps K H Z l vs → match lookD ks l k with
    | some d => ∃ v, valV (ks.zip vs) k = some v ∧ Rep K H Z d v
    | none => valV (ks.zip vs) k = none
  | [], l, vs, r => by simp [lookD, valV]
  | j :: ks, [], vs, r => by
    cases (show vs = [] from r)
    simp [lookD, valV]
  | j :: ks, d :: l, vs, r => by
    obtain ⟨v, r', e, h1, h2⟩ := r.inv
    subst e
    have ih := lookD_rep (k := k) (ks := ks) h2
    unfold lookD
    rw [List.zip_cons_cons]
    by_cases e : j = k
    · rw [if_pos e, valV_pos e]
      exact ⟨v, rfl, h1⟩
    · rw [if_neg e, valV_neg e]
      exact ih
end
/-- PE of two readings -/
theorem pe_or {X : Cx} {e : Expr} {t u : TE} (h : PE X e t) (h' : PE X e u) : PE X e (fun σ H Q => t σ H Q ∨ u σ H Q) := ⟨fun pins s σ H Q I q => q.elim (h.run pins s σ H Q I) (h'.run pins s σ H Q I)⟩
/-! ### a[i], d[k] -/
def dItem (x y : D) : Option D := match x with
  | .dct ks l => y.key.bind fun k => lookD ks l k
  | _ => dIx x y
section
variable {X : Cx} {E : XK} {pos : Pos} {a b e f : Expr} {ma mb me mf : M D} {K : PySem.W.Frag}
theorem d_sub_ {k : Nat} (hr : Room k X.A) (ha : PE X a (tD X.K E ma)) (hb : PE X b (tD X.K E mb)) (hs : PlainIx b := by exact fun _ _ => rfl) (hd : NoSl b := by exact fun _ _ => rfl) : PE X (.Subscript a b pos) (tD X.K E (m2 dItem ma mb)) := by
  refine (pe_or (pe_dget (hu_of hr) ha hb hd) (pe_ix ix_seq ha hb hs)).imp fun σ H Q h => ?_
  obtain ⟨c, Z, ρ, r, q⟩ := h
  have q' : tR X.K E rD c Z σ H Q (bindR (ma ρ) fun x ρ => bindR (mb ρ) fun y ρ => liftO (dItem x y) ρ) := q
  have seq : (∀ x ρ1, ma ρ = .ok x ρ1 → ∀ y, dItem x y = dIx x y) → tOp (rIx X.K) (tD X.K E ma) (tD X.K E mb) σ H Q := fun hx => by
    refine op_gen ix_opD (ma := ma) (mb := mb) ⟨c, Z, ρ, r, ?_⟩
    show tR X.K E rD c Z σ H Q (bindR (ma ρ) fun x ρ => bindR (mb ρ) fun y ρ => liftO (dIx x y) ρ)
    cases em : ma ρ with
    | fail => rw [em] at q'; exact q'
    | exc _ _ _ => rw [em] at q'; exact q'
    | ok x ρ1 =>
      rw [em] at q'
      simp only [bindR_ok, hx x ρ1 em] at q'
      exact q'
  cases em : ma ρ with
  | fail => rw [em] at q'; exact q'.elim
  | exc _ _ _ => exact .inr (seq fun x ρ1 e => by rw [em] at e; cases e)
  | ok x ρ1 =>
    by_cases hx : ∃ ks l, x = .dct ks l
    · obtain ⟨ks, l, rfl⟩ := hx
      rw [em, bindR_ok] at q'
      refine .inl ⟨c, Z, ρ, r, ?_⟩
      rw [em]
      intro u H1 r1 e1 hx
      refine ⟨c, Z, ρ1, r1, (tR.ext q' e1).bind fun y ρ2 v H2 r2 e2 hy q2 => ?_⟩
      obtain ⟨d, hd, kk⟩ := q2.lift r2
      cases hk : y.key with
      | none => simp [dItem, hk] at hd
      | some k =>
        simp only [dItem, hk, Option.bind_some] at hd
        have hx2 : Rep X.K H2 Z (.dct ks l) u := Rep.ext e2 _ _ hx
        simp only [Rep] at hx2
        obtain ⟨p, vs, rfl, _, h1, _, h2⟩ := hx2
        have lk := lookD_rep (k := k) (ks := ks) h2
        rw [hd] at lk
        obtain ⟨w, hw, rw'⟩ := lk
        exact ⟨p, w, rfl, .inl ⟨_, k, h1, D.key_rep hk hy, hw.symm⟩, kk w H2 (Same.refl H2) rw'⟩
    · exact .inr (seq fun x2 ρ2 e y => by
        rw [em] at e
        cases e
        unfold dItem
        split
        · exact absurd ⟨_, _, rfl⟩ hx
        · rfl)
/-! ### d.get(k), d.get(k, x) -/
def dGet1 : D → D → Option D
  | .dct ks l, y => y.key.map fun k => (lookD ks l k).getD .non
  | _, _ => none
def dGet2 : D → D → D → Option D
  | .dct ks l, y, z => y.key.map fun k => (lookD ks l k).getD z
  | _, _, _ => none
def isDct : D → Bool
  | .dct _ _ => true
  | _ => false
def mGet1 (ma mb : M D) : M D := fun ρ => bindR (ma ρ) fun x ρ => if isDct x = true then bindR (mb ρ) fun y ρ => liftO (dGet1 x y) ρ else .fail
def mGet2 (ma mb mc : M D) : M D := fun ρ => bindR (ma ρ) fun x ρ => if isDct x = true then bindR (mb ρ) fun y ρ => bindR (mc ρ) fun z ρ => liftO (dGet2 x y z) ρ else .fail
theorem isD_of {H : Hp} {Z : Addr → Prop} {d : D} {v : V} (h : isDct d = true) (r : Rep K H Z d v) : ∃ a, v = .ref a ∧ IsD H a := by
  cases d <;> first | (cases h; done) | skip
  simp only [Rep] at r
  obtain ⟨p, vs, rfl, _, h1, _⟩ := r
  exact ⟨p, rfl, .inl ⟨_, h1⟩⟩
theorem look_at {H : Hp} {Z : Addr → Prop} {ks : List Key} {l : List D} {v y : V} {dy : D} {k : Key} (r : Rep K H Z (.dct ks l) v) (hk : dy.key = some k) (hy : Rep K H Z dy y) :
    ∃ a o, v = .ref a ∧ DGet H a y o ∧ match lookD ks l k with
      | some d => ∃ w, o = some w ∧ Rep K H Z d w
      | none => o = none := by
  simp only [Rep] at r
  obtain ⟨p, vs, rfl, _, h1, _, h2⟩ := r
  refine ⟨p, _, rfl, .inl ⟨_, k, h1, D.key_rep hk hy, rfl⟩, ?_⟩
  have lk := lookD_rep (k := k) (ks := ks) h2
  cases e : lookD ks l k with
  | none => rw [e] at lk; exact lk
  | some d =>
    rw [e] at lk
    exact lk
variable {apos cpos : Pos}
theorem d_get1 {k : Nat} (hr : Room k X.A) (ho : PE X a (tD X.K E ma)) (he : PE X e (tD X.K E me)) (m : M1 X a "get" apos e cpos := by exact ⟨by rfl, by rfl, by rfl, by rfl⟩) : PE X (.Call (.Attribute a "get" apos) [e] [] cpos) (tD X.K E (mGet1 ma me)) := by
  refine (pe_dget1 (hu_of hr) ho he m).imp fun σ H Q h => ?_
  obtain ⟨c, Z, ρ, r, q⟩ := h
  refine ⟨c, Z, ρ, r, q.bind fun x ρ1 u H1 r1 e1 hx q1 => ?_⟩
  split at q1
  · rename_i hd
    obtain ⟨p, rfl, hp⟩ := isD_of hd hx
    refine ⟨p, rfl, hp, c, Z, ρ1, r1, q1.bind fun y ρ2 v H2 r2 e2 hy q2 => ?_⟩
    obtain ⟨d, hd', kk⟩ := q2.lift r2
    cases x <;> first | (cases hd; done) | skip
    rename_i ks l
    cases hk : y.key with
    | none => simp [dGet1, hk] at hd'
    | some k =>
      simp only [dGet1, hk, Option.map_some, Option.some.injEq] at hd'
      obtain ⟨p', o, e3, g, lk⟩ := look_at (Rep.ext e2 _ _ hx) hk hy
      cases e3
      refine ⟨o, g, ?_⟩
      cases e4 : lookD ks l k with
      | none =>
        rw [e4] at lk hd'
        subst lk hd'
        exact kk _ H2 (Same.refl H2) rfl
      | some d' =>
        rw [e4] at lk hd'
        obtain ⟨w, rfl, hw⟩ := lk
        subst hd'
        exact kk _ H2 (Same.refl H2) hw
  · exact q1.elim
theorem d_get2 {k : Nat} (hr : Room k X.A) (ho : PE X a (tD X.K E ma)) (he : PE X e (tD X.K E me)) (hf : PE X f (tD X.K E mf)) (m : M2 X a "get" apos e f cpos := by exact ⟨by rfl, by rfl, by rfl, by rfl⟩) : PE X (.Call (.Attribute a "get" apos) [e, f] [] cpos) (tD X.K E (mGet2 ma me mf)) := by
  refine (pe_dget2 (hu_of hr) ho he hf m).imp fun σ H Q h => ?_
  obtain ⟨c, Z, ρ, r, q⟩ := h
  refine ⟨c, Z, ρ, r, q.bind fun x ρ1 u H1 r1 e1 hx q1 => ?_⟩
  split at q1
  · rename_i hd
    obtain ⟨p, rfl, hp⟩ := isD_of hd hx
    refine ⟨p, rfl, hp, c, Z, ρ1, r1, q1.bind fun y ρ2 v H2 r2 e2 hy q2 => ⟨c, Z, ρ2, r2, q2.bind fun z ρ3 w H3 r3 e3 hz q3 => ?_⟩⟩
    obtain ⟨d, hd', kk⟩ := q3.lift r3
    cases x <;> first | (cases hd; done) | skip
    rename_i ks l
    cases hk : y.key with
    | none => simp [dGet2, hk] at hd'
    | some k =>
      simp only [dGet2, hk, Option.map_some, Option.some.injEq] at hd'
      obtain ⟨p', o, e3', g, lk⟩ := look_at (Rep.ext e3 _ _ (Rep.ext e2 _ _ hx)) hk (Rep.ext e3 _ _ hy)
      cases e3'
      refine ⟨o, g, ?_⟩
      cases e4 : lookD ks l k with
      | none =>
        rw [e4] at lk hd'
        subst lk hd'
        exact kk _ H3 (Same.refl H3) hz
      | some d' =>
        rw [e4] at lk hd'
        obtain ⟨w', rfl, hw⟩ := lk
        subst hd'
        exact kk _ H3 (Same.refl H3) hw
  · exact q1.elim
end
/-! ### xs.index(y) -/
def idxV (y : V) : List V → Option Nat
  | [] => none
  | x :: r => if eqV x y = true then some 0 else (idxV y r).map (· + 1)
def idxP (y : PyData) : List PyData → Option Nat
  | [] => none
  | x :: r => if PyData.eqv x y = true then some 0 else (idxP y r).map (· + 1)
def mIndexOf (f : D → D → Option D) (ma mb : M D) : M D := fun ρ => bindR (ma ρ) fun x ρ => if x.lis.isSome = true then bindR (mb ρ) fun y ρ => liftO (f x y) ρ else .fail
def dIndex (x y : D) : Option D := x.lis.bind fun l => match y.sc, scs l with
  | some v, some vs => (idxV v vs).map fun j => .int (j : Nat)
  | _, _ => match toPy y, toPys l with
    | some p, some ps => if (SeqAt.shaped p && SeqAt.shaped (.list ps)) = true then (idxP p ps).map fun j => .int (j : Nat) else none
    | _, _ => none
abbrev mIndex (ma mb : M D) : M D := mIndexOf dIndex ma mb
theorem idxV_ok {y : V} : ∀ {xs : List V} {j : Nat}, idxV y xs = some j → ∃ z, xs[j]? = some z ∧ eqV z y = true ∧ ∀ (m : Nat) (z' : V), m < j → xs[m]? = some z' → eqV z' y = false
  | [], j, h => by cases h
  | x :: r, j, h => by
    unfold idxV at h
    split at h
    · rename_i e
      cases h
      exact ⟨x, rfl, e, fun m z' hm => absurd hm (Nat.not_lt_zero _)⟩
    · rename_i e
      cases hi : idxV y r with
      | none => rw [hi] at h; cases h
      | some i =>
        rw [hi, Option.map_some, Option.some.injEq] at h
        subst h
        obtain ⟨z, h1, h2, h3⟩ := idxV_ok hi
        refine ⟨z, by simpa using h1, h2, fun m z' hm hz => ?_⟩
        cases m with
        | zero =>
          simp only [List.getElem?_cons_zero, Option.some.injEq] at hz
          subst hz
          exact Bool.eq_false_iff.mpr e
        | succ m => exact h3 m z' (by omega) (by simpa using hz)
theorem idxP_ok {y : PyData} : ∀ {xs : List PyData} {j : Nat}, idxP y xs = some j → ∃ z, xs[j]? = some z ∧ PyData.eqv z y = true ∧ ∀ (m : Nat) (z' : PyData), m < j → xs[m]? = some z' → PyData.eqv z' y = false
  | [], j, h => by cases h
  | x :: r, j, h => by
    unfold idxP at h
    split at h
    · rename_i e
      cases h
      exact ⟨x, rfl, e, fun m z' hm => absurd hm (Nat.not_lt_zero _)⟩
    · rename_i e
      cases hi : idxP y r with
      | none => rw [hi] at h; cases h
      | some i =>
        rw [hi, Option.map_some, Option.some.injEq] at h
        subst h
        obtain ⟨z, h1, h2, h3⟩ := idxP_ok hi
        refine ⟨z, by simpa using h1, h2, fun m z' hm hz => ?_⟩
        cases m with
        | zero =>
          simp only [List.getElem?_cons_zero, Option.some.injEq] at hz
          subst hz
          exact Bool.eq_false_iff.mpr e
        | succ m => exact h3 m z' (by omega) (by simpa using hz)
section
variable {X : Cx} {E : XK} {pos apos cpos : Pos} {o e : Expr} {ma mb : M D} {K : PySem.W.Frag}
theorem Rep.tyL {H : Hp} {Z : Addr → Prop} {d : D} {l : List D} {v : V} (h : d.lis = some l) (r : Rep K H Z d v) : tyV K "list" v H := by
  cases d <;> simp only [D.lis, Option.some.injEq, reduceCtorEq] at h
  · simp only [Rep] at r
    obtain ⟨p, vs, rfl, h1, h2⟩ := r
    exact .inl ⟨rfl, vs, h1.sq⟩
  · simp only [Rep] at r
    obtain ⟨p, vs, rfl, h1, h2⟩ := r
    exact .inl ⟨rfl, vs, h1.sq⟩
theorem d_index {k : Nat} (hr : Room k X.A) (ho : PE X o (tD X.K E ma)) (he : PE X e (tD X.K E mb)) (hbase : attributeBase o "index" X.env (eval o X.env) = eval o X.env := by rfl)
    (hfew : ((backTo cpos (starEach [e] X.env)).all (fun x => !x.1) && (backToKw cpos (keywordEach [] X.env)).all (fun x => x.1.isSome) && decide ([e].length + ([] : List Keyword).length + (if ([] : List Keyword).isEmpty then 0 else 1) < 30)) = true := by rfl)
    (hline : (apos.endLine == cpos.line) = true := by rfl) (hs : starEach [e] X.env = (false, eval e X.env) :: starEach [] X.env := by rfl) : PE X (.Call (.Attribute o "index" apos) [e] [] cpos) (tD X.K E (mIndex ma mb)) := by
  refine (pe_bm PySem.F.plainAttrs_list PySem.F.slot_list_index PySem.F.type_list_index (mt_index.or (mt_indexD (by have := hr.un; omega))) ho (pa_cons he pa_nil hs) hbase hfew hline hs).imp fun σ H Q h => ?_
  obtain ⟨c, Z, ρ, r, q⟩ := h
  refine ⟨c, Z, ρ, r, q.bind fun x ρ1 u H1 r1 e1 hx q1 => ?_⟩
  split at q1
  · rename_i hl
    obtain ⟨l, hl⟩ := Option.isSome_iff_exists.mp hl
    refine ⟨Rep.tyL hl hx, c, Z, ρ1, r1, q1.bind fun y ρ2 v H2 r2 e2 hy q2 => ?_⟩
    obtain ⟨d, hd, kk⟩ := q2.lift r2
    have hx2 := Rep.ext e2 _ _ hx
    obtain ⟨p, vs, rfl, h1, h2⟩ := D.lis_rep hl hx2
    simp only [dIndex, hl, Option.bind_some] at hd
    split at hd
    · rename_i yv xs h3 h4
      cases hi : idxV yv xs with
      | none => rw [hi] at hd; cases hd
      | some j =>
        rw [hi] at hd
        cases hd
        have e5 := scs_rep h4 h2
        have e6 := D.sc_rep h3 hy
        subst e5 e6
        obtain ⟨z, g1, g2, g3⟩ := idxV_ok hi
        exact .inl ⟨p, _, _, j, z, rfl, rfl, h1, sc_flat h3, scs_flat h4, g1, g2, g3, kk _ H2 (Same.refl H2) rfl⟩
    · split at hd
      · rename_i yp ps h3 h4
        split at hd
        · rename_i hsh
          obtain ⟨s1, s2⟩ := Bool.and_eq_true_iff.mp hsh
          cases hi : idxP yp ps with
          | none => rw [hi] at hd; cases hd
          | some j =>
            rw [hi] at hd
            cases hd
            obtain ⟨z, g1, g2, g3⟩ := idxP_ok hi
            exact .inr ⟨p, _, yp, ps, j, z, rfl, rfl, .lst h1 (toPys_dp h4 h2), toPy_dp h3 hy, s2, s1, g1, g2, g3, kk _ H2 (Same.refl H2) rfl⟩
        · cases hd
      · cases hd
  · exact q1.elim
end
/-! ### C(..) -/
def mNew (c : Nat) (g : FD) (ms : M (List Ar)) : M D := fun ρ => bindR (ms ρ) fun as ρ => match toWs ρ as with
  | some (ws, none) => (match g (.inn (.ob c []) :: ws) with
    | .ok .non [.ob c' l] => if c' = c then .ok (.ob c l) ρ else .fail
    | .exc x l => .exc x l ρ
    | _ => .fail)
  | _ => .fail
/-- what is made: its class, its __init__ -/
structure Maker (P : Program) (w : World) (K : PySem.W.Frag) (mg : Str → Option Value) (base : Heap) (CX : CXT) (k : Nat) (x : Str) (n : Nat) (c : Nat) (g : FD) : Prop where
  nm : x = cN c
  gl : mg x = some (.ref (He.ga K x))
  ex : ∃ (f : Addr) (fd : FuncData) (ps : List Str), Mk K (He.ga K x) f ∧ FnOk P w K mg base CX k f fd ps (spF K (n + 1) g) ∧ Binds K fd ps [] ∧ ps.length = n + 1
section
variable {X : Cx} {CX : CXT} {E : XK} {pos p : Pos} {e : Expr} {es : List Expr} {ms : M (List Ar)} {k n c : Nat} {g : FD} {x : Str} {K : PySem.W.Frag}
theorem RepWs.ext {H H' : Hp} {Z : Addr → Prop} (e : Ext Z H H') : ∀ {ws : List W} {vs : List V}, (inAd ws vs = []) → RepWs K H Z ws vs → RepWs K H' Z ws vs
  | [], vs, _, h => h
  | .val d :: ws, vs, hi, h => by
    obtain ⟨v, r, e1, h1, h2⟩ := h
    subst e1
    have hi' : inAd ws r = [] := by
      have h0 : inAd (.val d :: ws) (v :: r) = inAd ws r := by simp [inAd]
      rw [h0] at hi
      exact hi
    exact ⟨v, r, rfl, h1.ext e, RepWs.ext e hi' h2⟩
  | .inn t :: ws, vs, hi, h => by
    obtain ⟨p, r, e1, _⟩ := h
    subst e1
    cases hi
  | .own _ :: ws, vs, _, h => h.elim
theorem RepWs.zed {H : Hp} {Z Z' : Addr → Prop} (hz : ∀ a o, ¬ Z a → H a = some o → ¬ Z' a) : ∀ {ws : List W} {vs : List V}, (inAd ws vs = []) → RepWs K H Z ws vs → RepWs K H Z' ws vs
  | [], vs, _, h => h
  | .val d :: ws, vs, hi, h => by
    obtain ⟨v, r, e1, h1, h2⟩ := h
    subst e1
    have hi' : inAd ws r = [] := by
      have h0 : inAd (.val d :: ws) (v :: r) = inAd ws r := by simp [inAd]
      rw [h0] at hi
      exact hi
    exact ⟨v, r, rfl, h1.zed hz, RepWs.zed hz hi' h2⟩
  | .inn t :: ws, vs, hi, h => by
    obtain ⟨p, r, e1, _⟩ := h
    subst e1
    cases hi
  | .own _ :: ws, vs, _, h => h.elim
theorem d_new {j : Nat} (mk : Maker X.prog X.w X.K X.mg X.base CX k x n c g) (hr : Room j X.A) (hx : Passes CX X E) (ha : PA X (e :: es) (tAs X.K E ms)) [hml : ArLen n ms] (hj : k + 1 ≤ j := by decide) (hg : Gl X x := by rfl) (hdb : (x == ("__debug__" : Str)) = false := by decide)
    (he : starEach (e :: es) X.env = (false, eval e X.env) :: starEach es X.env := by rfl) (hpl : (backTo pos (starEach es X.env)).any (·.1) = false := by rfl) :
    PE X (.Call (.Name x p) (e :: es) [] pos) (tD X.K E (mNew c g ms)) := by
  obtain ⟨f, fd, ps, M, F, hb, hps⟩ := mk.ex
  refine (pe_make M F (hr.mono hj) hg mk.gl hb .nil hx ha hdb he hpl).imp fun σ H Q h => ?_
  obtain ⟨cz, Z, ρ, r, q⟩ := h
  refine ⟨cz, Z, ρ, r, ?_⟩
  have q' : tR X.K E rD cz Z σ H Q (bindR (ms ρ) _) := q
  cases em : ms ρ with
  | fail => rw [em] at q'; exact q'
  | exc x l ρ1 => rw [em] at q'; exact q'
  | ok as ρ1 =>
    rw [em] at q'
    intro vs H1 r1 e1 h1 a dx ha hdx hne
    rw [List.append_nil]
    have q2 := q'.ext e1
    simp only [bindR_ok] at q2
    cases ew : toWs ρ1 as with
    | none => rw [ew] at q2; exact q2.elim
    | some y =>
      obtain ⟨ws, o⟩ := y
      rw [ew] at q2
      cases o with
      | some i => exact q2.elim
      | none =>
        obtain ⟨g1, g2⟩ := toWs_none r1 ew h1
        have s1 : Same H1 (upd H1 dx (.own a)) := same_upd hdx
        have ha2 : upd H1 dx (.own a) a = none := by rw [upd_ne (Ne.symm hne)]; exact ha
        have s2 : Same H1 (upd (upd H1 dx (.own a)) a (.ins (He.ga X.K x) dx [])) := s1.trans (same_upd ha2)
        have zs : ∀ b o, ¬ Z b → H1 b = some o → ¬ (Z b ∨ b = a) := fun b o n e z => z.elim n fun q => by
          rw [q, ha] at e
          cases e
        have hin : inAd (.inn (.ob c []) :: ws) (.ref a :: vs) = [a] := by
          show a :: inAd ws vs = [a]
          rw [g2]
        refine ⟨fun b => Z b ∨ b = a, .inn (.ob c []) :: ws, ?_, fun b z e => ?_, ⟨a, vs, rfl, .inr rfl, ⟨_, upd_same, dx, [], ?_, by simp, rfl⟩, (g1.zed zs g2).ext (Ext.same s2) g2⟩, by rw [hin]; simp, ?_⟩
        · show ws.length + 1 = n + 1
          rw [g1.len, ← rAr_len h1, hml.len _ _ _ em]
        · rcases z with z | z
          · exact r1.dom b z (s2.free e)
          · rw [z, upd_same] at e
            cases e
        · rw [mk.nm, List.zip_nil_right]
        · simp only at q2
          cases ef : g (.inn (.ob c []) :: ws) with
          | fail => rw [ef] at q2; exact q2.elim
          | exc x' l =>
            rw [ef] at q2
            intro ed us H' hk h1 h2 h3
            rw [hin] at hk
            have s3 : Same H1 H' := fun b o h => hk b o (by rw [List.mem_singleton]; exact ne_of_none h ha) (s2 b o h)
            exact q2 ed us H' (r1.same s3) (Ext.same s3) h1 h2 (Reps.zed (fun b o n e z => n (.inl z)) _ _ h3)
          | ok d ts =>
            rw [ef] at q2
            match d, ts, q2 with
            | .non, [.ob c' l], q2 =>
              simp only at q2
              split at q2
              · rename_i hc
                subst hc
                intro v H' hk ht hd
                rw [hin] at hk ht
                obtain ⟨p', r', e2, ⟨o, ho, dx', us, eo, hl, hr'⟩, _⟩ := ht
                cases e2
                subst eo
                have s3 : Same H1 H' := fun b o h => hk b o (by rw [List.mem_singleton]; exact ne_of_none h ha) (s2 b o h)
                refine ⟨hd, q2.new r1 s3 ?_⟩
                show Rep X.K H' Z (.ob c' l) (.ref a)
                simp only [Rep]
                exact ⟨a, dx', us, rfl, fun z => r1.dom a z ha, ho, hl, Reps.zed (fun b o n e z => n (.inl z)) _ _ hr'⟩
              · exact q2.elim
            | .non, [], q2 => exact q2.elim
            | .non, [.lst _], q2 => exact q2.elim
            | .non, [.dct _ _], q2 => exact q2.elim
            | .non, t1 :: _ :: _, q2 =>
              cases t1 <;> exact q2.elim
            | .bl _, _, q2 => exact q2.elim
            | .int _, _, q2 => exact q2.elim
            | .str _, _, q2 => exact q2.elim
            | .lst _, _, q2 => exact q2.elim
            | .rol _, _, q2 => exact q2.elim
            | .tup _, _, q2 => exact q2.elim
            | .dct _ _, _, q2 => exact q2.elim
            | .ob _ _, _, q2 => exact q2.elim
end
end DL
set_option Elab.async false
set_option linter.all false
set_option maxRecDepth 100000
set_option maxHeartbeats 4000000
namespace DL
open PySem PySem.Spec PyProof.Rows L2
variable [CTab]
/-! ### statements -/
def RelS (K : PySem.W.Frag) (c : Cz) (ρ : Env) (σ : St) (H : Hp) : Prop := ∃ Z, Rel K c Z ρ σ H
def tSR (K : PySem.W.Frag) (E : XK) (c : Cz) (Dn : Ends) : Res Fl → Prop
  | .fail => False
  | .ok .nx ρ => ∀ σ H, RelS K c ρ σ H → Dn.nx σ H
  | .ok .bk ρ => ∀ σ H, RelS K c ρ σ H → Dn.bk σ H
  | .ok .ct ρ => ∀ σ H, RelS K c ρ σ H → Dn.ct σ H
  | .ok (.rt d) ρ => ∀ σ v H, RelS K c ρ σ H → Rep K H c.Z0 d v → Dn.rt v H
  | .exc x l ρ => ∀ σ ed vs H, RelS K c ρ σ H → H ed = some (.xd ((cF x).zip vs)) → vs.length ≤ (cF x).length → Reps K H c.Z0 l vs → E (.ref (He.ga K (cN x))) (some ed) H
def tS (K : PySem.W.Frag) (E : XK) (m : M Fl) : TS := fun Dn σ H => ∃ c ρ, RelS K c ρ σ H ∧ tSR K E c Dn (m ρ)
section
variable {α β : Type} {K : PySem.W.Frag} {E : XK} {Ra : RG α β} {c : Cz} {Z : Addr → Prop} {ρ : Env} {σ : St} {H H1 : Hp} {Dn : Ends} {Q' : β → Hp → Prop}
theorem Rel.z0 (r : Rel K c Z ρ σ H) : ∀ a o, ¬ Z a → H a = some o → ¬ c.Z0 a := fun a o n _ z => n (r.base a z).1
theorem tSR.expr {r : Res α} {k : α → Env → Res Fl} (h : tSR K E c Dn (bindR r k)) (f : ∀ a ρ1 b H1, Rel K c Z ρ1 σ H1 → Ra K σ H1 Z a b → tSR K E c Dn (k a ρ1) → Q' b H1) : tR K E Ra c Z σ H Q' r := by
  cases r with
  | fail => exact h
  | ok a ρ => exact fun b H' h1 h2 h3 => f a ρ b H' h1 h3 h
  | exc x l ρ => exact fun ed vs H' h1 h2 h3 h4 h5 => h σ ed vs H' ⟨Z, h1⟩ h3 h4 (Reps.zed h1.z0 _ _ h5)
end
def mSeq (a b : M Fl) : M Fl := fun ρ => match a ρ with
  | .ok .nx ρ1 => b ρ1
  | r => r
def mSkip : M Fl := fun ρ => .ok .nx ρ
def mBreak : M Fl := fun ρ => .ok .bk ρ
def mCont : M Fl := fun ρ => .ok .ct ρ
def mSet (i : Nat) (m : M D) : M Fl := fun ρ => bindR (m ρ) fun d ρ => .ok .nx (ρ.set i (some (.val d)))
def mRet (m : M D) : M Fl := fun ρ => bindR (m ρ) fun d ρ => .ok (.rt d) ρ
def mRetN : M Fl := fun ρ => .ok (.rt .non) ρ
def mDo (m : M D) : M Fl := fun ρ => bindR (m ρ) fun _ ρ => .ok .nx ρ
def mIf (t : M Bool) (a b : M Fl) : M Fl := fun ρ => bindR (t ρ) fun k ρ => if k = true then a ρ else b ρ
def mNever : M Fl := fun _ => .fail
/-- a thing of one's own is data from here on -/
def mFrz (i : Nat) (m : M Fl) : M Fl := fun ρ => match ρ[i]? with
  | some (some (.own t)) => m (ρ.set i (some (.val t.toD)))
  | _ => .fail
/-- a slot is forgotten -/
def mDrop (i : Nat) (m : M Fl) : M Fl := fun ρ => m (ρ.set i none)
section
variable {X : Cx} {E : XK} {pos pos' : Pos} {st : Stmt} {rest : List Stmt} {e : Expr} {m : M D} {a b ms : M Fl} {t : M Bool}
theorem s_nil : PSs X [] (tS X.K E mSkip) := pss_nil.imp fun Dn σ H ⟨c, ρ, r, q⟩ => q σ H r
theorem s_cons (h1 : PS X st (tS X.K E a)) (h2 : PSs X rest (tS X.K E b)) : PSs X (st :: rest) (tS X.K E (mSeq a b)) := by
  refine (pss_cons h1 h2).imp fun Dn σ H h => ?_
  obtain ⟨c, ρ, r, q⟩ := h
  refine ⟨c, ρ, r, ?_⟩
  unfold mSeq at q
  cases ea : a ρ with
  | fail => rw [ea] at q; exact q
  | exc x l ρ1 => rw [ea] at q; exact q
  | ok f ρ1 =>
    rw [ea] at q
    cases f with
    | nx => exact fun σ1 H1 r1 => ⟨c, ρ1, r1, q⟩
    | bk => exact q
    | ct => exact q
    | rt d => exact q
theorem s_one (h1 : PS X st (tS X.K E a)) : PSs X [st] (tS X.K E a) := pss_one h1
theorem s_pass : PS X (.Pass pos) (tS X.K E mSkip) := ps_pass.imp fun Dn σ H ⟨c, ρ, r, q⟩ => q σ H r
theorem s_break : PS X (.Break pos) (tS X.K E mBreak) := ps_break.imp fun Dn σ H ⟨c, ρ, r, q⟩ => q σ H r
theorem s_cont : PS X (.Continue pos) (tS X.K E mCont) := ps_continue.imp fun Dn σ H ⟨c, ρ, r, q⟩ => q σ H r
theorem s_never : PS X st (tS X.K E mNever) := ps_never.imp fun Dn σ H ⟨c, ρ, r, q⟩ => q
theorem ss_never {sts : List Stmt} : PSs X sts (tS X.K E mNever) := pss_never.imp fun Dn σ H ⟨c, ρ, r, q⟩ => q
theorem s_set (i : Nat) {x : Str} (hN : X.N.Nodup) (he : PE X e (tD X.K E m)) (hi : X.N[i]? = some x := by rfl) (hx : Loc X.env.scope x := by first | exact Or.inl rfl | exact Or.inr rfl) (hs : swapsWith e (some (.Name x pos')) pos.line X.env = pure false := by rfl) (hf : X.fn x = true ∨ X.env.scope.names.lookup x = some .local := by first | exact .inl rfl | exact .inr rfl) :
    PS X (.Assign [.Name x pos'] e pos) (tS X.K E (mSet i m)) := by
  refine (ps_set hN hi hx he hs hf).imp fun Dn σ H h => ?_
  obtain ⟨c, ρ, ⟨Z, r⟩, q⟩ := h
  exact ⟨c, Z, ρ, r, tSR.expr (k := fun d ρ => .ok .nx (ρ.set i (some (.val d)))) q fun d ρ1 v H1 r1 h1 q1 => q1 _ _ ⟨Z, r1.set h1⟩⟩
theorem s_ret (he : PE X e (tD X.K E m)) : PS X (.Return (some e) pos) (tS X.K E (mRet m)) := by
  refine (ps_ret he).imp fun Dn σ H h => ?_
  obtain ⟨c, ρ, ⟨Z, r⟩, q⟩ := h
  exact ⟨c, Z, ρ, r, tSR.expr (k := fun d ρ => .ok (.rt d) ρ) q fun d ρ1 v H1 r1 h1 q1 => q1 σ v H1 ⟨Z, r1⟩ (Rep.zed r1.z0 _ _ h1)⟩
theorem s_retN : PS X (.Return none pos) (tS X.K E mRetN) := ps_retN.imp fun Dn σ H ⟨c, ρ, r, q⟩ => q σ .non H r rfl
theorem s_expr (he : PE X e (tD X.K E m)) (hs : swapsWith e none pos.line X.env = pure false := by rfl) : PS X (.Expr e pos) (tS X.K E (mDo m)) := by
  refine (ps_expr he hs).imp fun Dn σ H h => ?_
  obtain ⟨c, ρ, ⟨Z, r⟩, q⟩ := h
  exact ⟨c, Z, ρ, r, tSR.expr (k := fun d ρ => .ok .nx ρ) q fun d ρ1 v H1 r1 h1 q1 => q1 σ H1 ⟨Z, r1⟩⟩
theorem s_if {cnd : Expr} {p q : List Stmt} (hc : PT X cnd (tT X.K E t)) (ha : PSs X p (tS X.K E a)) (hb : PSs X q (tS X.K E b)) : PS X (.If cnd p q pos) (tS X.K E (mIf t a b)) := by
  refine (ps_if hc ha hb).imp fun Dn σ H h => ?_
  obtain ⟨c, ρ, ⟨Z, r⟩, q⟩ := h
  refine ⟨c, Z, ρ, r, tSR.expr (k := fun k ρ => if k = true then a ρ else b ρ) q fun k ρ1 k' H1 r1 h1 q1 => ?_⟩
  cases (show k = k' from h1)
  cases k with
  | true => exact iteT ⟨c, ρ1, ⟨Z, r1⟩, q1⟩
  | false => exact iteF ⟨c, ρ1, ⟨Z, r1⟩, q1⟩
theorem s_frz (i : Nat) (h : PS X st (tS X.K E a)) : PS X st (tS X.K E (mFrz i a)) := h.imp fun Dn σ H q => by
  obtain ⟨c, ρ, ⟨Z, r⟩, q⟩ := q
  unfold mFrz at q
  split at q
  · rename_i t ht
    obtain ⟨Z', r'⟩ := r.frz ht
    exact ⟨c, _, ⟨Z', r'⟩, q⟩
  · exact q.elim
theorem s_drop (i : Nat) (h : PS X st (tS X.K E a)) : PS X st (tS X.K E (mDrop i a)) := h.imp fun Dn σ H q => by
  obtain ⟨c, ρ, ⟨Z, r⟩, q⟩ := q
  exact ⟨c, _, ⟨Z, r.drop i⟩, q⟩
theorem ss_frz (i : Nat) (h : PSs X rest (tS X.K E a)) : PSs X rest (tS X.K E (mFrz i a)) := h.imp fun Dn σ H q => by
  obtain ⟨c, ρ, ⟨Z, r⟩, q⟩ := q
  unfold mFrz at q
  split at q
  · rename_i t ht
    obtain ⟨Z', r'⟩ := r.frz ht
    exact ⟨c, _, ⟨Z', r'⟩, q⟩
  · exact q.elim
theorem ss_drop (i : Nat) (h : PSs X rest (tS X.K E a)) : PSs X rest (tS X.K E (mDrop i a)) := h.imp fun Dn σ H q => by
  obtain ⟨c, ρ, ⟨Z, r⟩, q⟩ := q
  exact ⟨c, _, ⟨Z, r.drop i⟩, q⟩
end
/-! ### a new thing of one's own -/
def tO (K : PySem.W.Frag) (E : XK) (m : M Ct) : TE := fun σ H Q => ∃ c Z ρ, Rel K c Z ρ σ H ∧ match m ρ with
  | .fail => False
  | .ok t ρ' => ∀ p Z' H', NewAt K c Z' ρ' σ H' t p → (∀ d v, Rep K H Z d v → Rep K H' Z' d v) → Q (.ref p) H'
  | .exc x l ρ' => ∀ ed vs H', Rel K c Z ρ' σ H' → H' ed = some (.xd ((cF x).zip vs)) → vs.length ≤ (cF x).length → Reps K H' Z l vs → E (.ref (He.ga K (cN x))) (some ed) H'
theorem Rep.new {K : PySem.W.Frag} {Z : Addr → Prop} {H : Hp} {p : Addr} {o : HO} {d : D} {v : V} (h : Rep K H Z d v) (hp : H p = none) : Rep K (upd H p o) (fun a => Z a ∨ a = p) d v :=
  (h.zed fun a u n e z => z.elim n fun q => by rw [q, hp] at e; cases e).ext (Ext.same (same_upd hp))
def oLst (ms : M (List D)) : M Ct := fun ρ => bindR (ms ρ) fun l ρ => if l.length ≤ sizeLine then .ok (.lst l) ρ else .fail
def oDct : M Ct := fun ρ => .ok (.dct [] []) ρ
def mSetO (i : Nat) (m : M Ct) : M Fl := fun ρ => bindR (m ρ) fun t ρ => .ok .nx (ρ.set i (some (.own t)))
section
variable {X : Cx} {E : XK} {pos pos' : Pos} {e : Expr} {es : List Expr} {mo : M Ct} {ms : M (List D)}
theorem o_list (h : PA X es (tAr X.K E ms)) : PE X (.List es pos) (tO X.K E (oLst ms)) := by
  refine (pe_lst h).imp fun σ H Q h => ?_
  obtain ⟨c, Z, ρ, r, q⟩ := h
  unfold oLst at q
  refine ⟨c, Z, ρ, r, ?_⟩
  cases em : ms ρ with
  | fail => rw [em] at q; exact q
  | exc x l ρ1 => rw [em] at q; exact fun ed vs H' h1 h2 h3 h4 h5 => q ed vs H' h1 h3 h4 h5
  | ok l ρ1 =>
    rw [em] at q
    simp only [bindR_ok] at q
    intro vs H1 r1 e1 h1
    have h1 : Reps X.K H1 Z l vs := h1
    by_cases hl : l.length ≤ sizeLine
    · rw [if_pos hl] at q
      exact ⟨by rw [← h1.len]; exact hl, fun p hp => q p _ _ (r1.newAt hp ⟨vs, rfl, h1⟩) fun d v hd => Rep.new (hd.ext e1) hp⟩
    · rw [if_neg hl] at q
      exact q.elim
theorem o_dict : PE X (.Dict [] [] pos) (tO X.K E oDct) := by
  refine pe_dnewK.imp fun σ H Q h => ?_
  obtain ⟨c, Z, ρ, r, q⟩ := h
  exact fun p hp => q p _ _ (r.newAt hp ⟨[], rfl, rfl, rfl⟩) fun d v hd => Rep.new hd hp
theorem s_setO (i : Nat) {x : Str} (hN : X.N.Nodup) (he : PE X e (tO X.K E mo)) (hi : X.N[i]? = some x := by rfl) (hx : Loc X.env.scope x := by first | exact Or.inl rfl | exact Or.inr rfl) (hs : swapsWith e (some (.Name x pos')) pos.line X.env = pure false := by rfl) (hf : X.fn x = true ∨ X.env.scope.names.lookup x = some .local := by first | exact .inl rfl | exact .inr rfl) :
    PS X (.Assign [.Name x pos'] e pos) (tS X.K E (mSetO i mo)) := by
  refine (ps_set hN hi hx he hs hf).imp fun Dn σ H h => ?_
  obtain ⟨c, ρ, ⟨Z, r⟩, q⟩ := h
  unfold mSetO at q
  refine ⟨c, Z, ρ, r, ?_⟩
  cases em : mo ρ with
  | fail => rw [em] at q; exact q
  | exc x l ρ1 => rw [em] at q; exact fun ed vs H' h1 h3 h4 h5 => q σ ed vs H' ⟨Z, h1⟩ h3 h4 (Reps.zed h1.z0 _ _ h5)
  | ok t ρ1 =>
    rw [em] at q
    exact fun p Z' H' n _ => q _ _ ⟨Z', n.set i⟩
end
/-! ### changes of a thing of one's own -/
/-- the thing in slot i becomes another, given data -/
def mMut (i : Nat) (f : Ct → D → Option Ct) (m : M D) : M Fl := fun ρ => bindR (m ρ) fun d ρ => match ρ[i]? with
  | some (some w) => (match holds ρ i with
    | some t => (match f t d with
      | some t' => .ok .nx (ρ.set i (some (w.put t')))
      | none => .fail)
    | none => .fail)
  | _ => .fail
def cApp : Ct → D → Option Ct
  | .lst l, d => if l.length < sizeLine then some (.lst (l ++ [d])) else none
  | _, _ => none
def cExt : Ct → D → Option Ct
  | .lst l, .lst r => if l.length + r.length ≤ sizeLine then some (.lst (l ++ r)) else none
  | _, _ => none
def mApp (i : Nat) (m : M D) : M Fl := fun ρ => match holds ρ i with
  | some (.lst _) => mMut i cApp m ρ
  | _ => .fail
def mExt (i : Nat) (m : M D) : M Fl := fun ρ => match holds ρ i with
  | some (.lst _) => mMut i cExt m ρ
  | _ => .fail
def mAug (i : Nat) (f : D → D → Option D) (m : M D) : M Fl := fun ρ => match ρ[i]? with
  | some (some (.val a)) => bindR (m ρ) fun b ρ => (match f a b with
    | some d => .ok .nx (ρ.set i (some (.val d)))
    | none => .fail)
  | _ => .fail
section
variable {X : Cx} {E : XK} {pos pos' apos cpos : Pos} {e : Expr} {m : M D} {K : PySem.W.Frag}
theorem mut_gen {i : Nat} {f : Ct → D → Option Ct} {c : Cz} {Z : Addr → Prop} {ρ : Env} {σ : St} {H : Hp} {Dn : Ends} {d : D}
    (q : tSR K E c Dn (match ρ[i]? with
      | some (some w) => (match holds ρ i with
        | some t => (match f t d with
          | some t' => Res.ok Fl.nx (ρ.set i (some (w.put t')))
          | none => .fail)
        | none => .fail)
      | _ => .fail)) (r : Rel K c Z ρ σ H) :
    ∃ p t t', σ[i]? = some (some (.ref p)) ∧ RepC K H Z t p ∧ Z p ∧ f t d = some t' ∧ ∀ H', (∀ a o, a ≠ p → H a = some o → H' a = some o) → RepC K H' Z t' p → Dn.nx σ H' := by
  split at q
  · rename_i w hw
    split at q
    · rename_i t ht
      split at q
      · rename_i t' hf
        obtain ⟨w', hw', hh⟩ := holds_hold ht
        rw [hw] at hw'
        cases hw'
        obtain ⟨p, h1, h2, h3⟩ := r.hold hw hh
        exact ⟨p, t, t', h1, h3, h2, hf, fun H' hk hn => q _ _ ⟨Z, r.put hw hh h1 hk hn⟩⟩
      · exact q.elim
    · exact q.elim
  · exact q.elim
/-- x.append(e) -/
theorem s_append (i : Nat) {x : Str} {np : Pos} (he : PE X e (tD X.K E m)) (hN : X.N[i]? = some x := by rfl) (hv : Vis X.env.scope x := by first | exact Or.inl rfl | exact Or.inr (Or.inl rfl) | exact Or.inr (Or.inr rfl)) (hd : (x == ("__debug__" : Str)) = false := by decide) (hcd : (x == ("__classdict__" : Str)) = false := by decide)
    (hbase : attributeBase (.Name x np) "append" X.env (eval (.Name x np) X.env) = eval (.Name x np) X.env := by rfl)
    (hfew : ((backTo cpos (starEach [e] X.env)).all (fun x => !x.1) && (backToKw cpos (keywordEach [] X.env)).all (fun x => x.1.isSome) && decide ([e].length + ([] : List Keyword).length + (if ([] : List Keyword).isEmpty then 0 else 1) < 30)) = true := by rfl)
    (hline : (apos.endLine == cpos.line) = true := by rfl) (hs : starEach [e] X.env = (false, eval e X.env) :: starEach [] X.env := by rfl)
    (hsw : swapsWith (.Call (.Attribute (.Name x np) "append" apos) [e] [] cpos) none pos.line X.env = pure false := by rfl) :
    PS X (.Expr (.Call (.Attribute (.Name x np) "append" apos) [e] [] cpos) pos) (tS X.K E (mApp i m)) := by
  refine (ps_expr (pe_bm PySem.F.plainAttrs_list PySem.F.slot_list_append PySem.F.type_list_append mt_append (pe_var hN hv hd hcd) (pa_cons he pa_nil hs) hbase hfew hline hs) hsw).imp fun Dn σ H h => ?_
  obtain ⟨c, ρ, ⟨Z, r⟩, q⟩ := h
  unfold mApp at q
  split at q
  · rename_i l0 ht
    obtain ⟨w, hw, hh⟩ := holds_hold ht
    obtain ⟨p, h1, h2, o, h3, vs, rfl, h4⟩ := r.hold hw hh
    refine ⟨_, h1, .inl ⟨rfl, vs, SqL.of h3⟩, c, Z, ρ, r, tSR.expr q fun d ρ1 v H1 r1 hd q1 => ?_⟩
    obtain ⟨p', t, t', g1, g2, g3, g4, k⟩ := mut_gen q1 r1
    rw [h1] at g1
    cases g1
    obtain ⟨o, g5, g6⟩ := g2
    cases t with
    | dct _ _ => cases g4
    | ob _ _ => cases g4
    | lst l =>
      obtain ⟨us, rfl, g7⟩ := g6
      have g4 : (if l.length < sizeLine then some (Ct.lst (l ++ [d])) else none) = some t' := g4
      split at g4
      · rename_i hl
        cases g4
        refine ⟨p, us, v, rfl, rfl, g5, by rw [← g7.len]; exact hl, k _ (fun a o ne e => by rw [upd_ne ne]; exact e) ⟨_, upd_same, _, rfl, ?_⟩⟩
        have ex : Ext Z H1 (upd H1 p (.lst (us ++ [v]))) := fun a o nz e => by rw [upd_ne (fun z => nz (by rw [z]; exact g3))]; exact e
        exact (Reps.ext ex _ _ g7).app (Reps.one (Rep.ext ex _ _ hd))
      · cases g4
  · exact q.elim
/-- += of lists, the right one locked or not -/
def rExtL : R2 := fun x y H Q => ∃ l b xs zs, x = .ref l ∧ y = .ref b ∧ H l = some (.lst xs) ∧ Rd H b (.lst zs) ∧ xs.length + zs.length ≤ sizeLine ∧ Q (.ref l) (upd H l (.lst (xs ++ zs)))
theorem iop_extL : OpR X (inplaceOp .Add) rExtL := by
  intro pins s σ H x y v u Q I rx ry h
  obtain ⟨l, b, xs, zs, rfl, rfl, hH, hB, hz, q⟩ := h
  cases rx
  cases ry
  obtain ⟨_, its, n, r, hl, e⟩ := I.lstM hH
  obtain ⟨_, its2, n2, r2, hl2, e2⟩ := lst_at I hB
  have hsz : its.toArray.size + its2.toArray.size ≤ sizeLine := by simp only [List.size_toArray]; omega
  have hno : ¬ (!its.toArray.isEmpty && Builtin.List.listTooLong (its.toArray.size + its2.toArray.size)) = true := by rw [notLongL hsz, Bool.and_false]; exact Bool.false_ne_true
  refine iadd_road ⟨_, e, rfl⟩ ⟨_, e2, rfl⟩ (call_meets PySem.F.slot_list_iadd ⟨_, e, rfl⟩ PySem.F.entry_list_iadd (PySem.F.args_list_iadd_2 _ _)
    (AutoSeq1.list___iadd___list_list_0 l its.toArray n b its2.toArray n2 hno (by simp only [List.size_toArray]; omega) (by omega)) ⟨e, e2, ?_⟩)
  exact ⟨.ref l, _, I.lset (its' := its ++ its2) (t' := s.toks) hH e (by simp) (r.append r2) (by simp only [List.length_append]; omega), rfl, q⟩
theorem set_same {σ : St} {i : Nat} {v : V} (h : σ[i]? = some (some v)) : σ.set i (some v) = σ := by
  apply List.ext_getElem?
  intro j
  by_cases hj : i = j
  · subst hj
    rw [List.getElem?_set_self (List.getElem?_eq_some_iff.mp h).1, h]
  · rw [List.getElem?_set_ne hj]
/-- x += e, x a list of one's own -/
theorem s_extend (i : Nat) {x : Str} (hN : X.N.Nodup) (he : PE X e (tD X.K E m)) (hi : X.N[i]? = some x := by rfl) (hx : Loc X.env.scope x := by first | exact Or.inl rfl | exact Or.inr rfl) (hf : X.fn x = true ∨ X.env.scope.names.lookup x = some .local := by first | exact .inl rfl | exact .inr rfl) :
    PS X (.AugAssign (.Name x pos') .Add e pos) (tS X.K E (mExt i m)) := by
  refine (ps_aug hN hi hx he iop_extL hf).imp fun Dn σ H h => ?_
  obtain ⟨c, ρ, ⟨Z, r⟩, q⟩ := h
  unfold mExt at q
  split at q
  · rename_i l0 ht
    obtain ⟨w, hw, hh⟩ := holds_hold ht
    obtain ⟨p, h1, h2, _⟩ := r.hold hw hh
    refine ⟨_, h1, c, Z, ρ, r, tSR.expr q fun d ρ1 v H1 r1 hd q1 => ?_⟩
    obtain ⟨p', t, t', g1, g2, g3, g4, k⟩ := mut_gen q1 r1
    rw [h1] at g1
    cases g1
    obtain ⟨o, g5, g6⟩ := g2
    cases t with
    | dct _ _ => cases g4
    | ob _ _ => cases g4
    | lst l =>
      cases d <;> first | (cases g4; done) | skip
      rename_i rr
      obtain ⟨us, rfl, g7⟩ := g6
      have hd : Rep X.K H1 Z (.lst rr) v := hd
      simp only [Rep] at hd
      obtain ⟨b, zs, rfl, ⟨nz, hb⟩, hz⟩ := hd
      have g4 : (if l.length + rr.length ≤ sizeLine then some (Ct.lst (l ++ rr)) else none) = some t' := g4
      split at g4
      · rename_i hl
        cases g4
        refine ⟨p, b, us, zs, rfl, rfl, g5, hb, by rw [← g7.len, ← hz.len]; exact hl, ?_⟩
        show Dn.nx (σ.set i (some (V.ref p))) _
        rw [set_same h1]
        have ex : Ext Z H1 (upd H1 p (.lst (us ++ zs))) := fun a o nz e => by rw [upd_ne (fun z => nz (by rw [z]; exact g3))]; exact e
        exact k _ (fun a o ne e => by rw [upd_ne ne]; exact e) ⟨_, upd_same, _, rfl, (Reps.ext ex _ _ g7).app (Reps.ext ex _ _ hz)⟩
      · cases g4
  · exact q.elim
/-- x += e, x -= e of numbers -/
theorem s_augI (i : Nat) {x : Str} {op : Operator} {g : Int → Int → Int} {f : D → D → Option D} (ho : PIp X op (ipI g)) (hg : ∀ a b d, f a b = some d → ∃ j k, a = .int j ∧ b = .int k ∧ d = .int (g j k)) (hN : X.N.Nodup) (he : PE X e (tD X.K E m)) (hi : X.N[i]? = some x := by rfl) (hx : Loc X.env.scope x := by first | exact Or.inl rfl | exact Or.inr rfl) (hf : X.fn x = true ∨ X.env.scope.names.lookup x = some .local := by first | exact .inl rfl | exact .inr rfl) :
    PS X (.AugAssign (.Name x pos') op e pos) (tS X.K E (mAug i f m)) := by
  refine (ps_aug hN hi hx he ho hf).imp fun Dn σ H h => ?_
  obtain ⟨c, ρ, ⟨Z, r⟩, q⟩ := h
  unfold mAug at q
  split at q
  · rename_i dx hx'
    obtain ⟨v, h1, h2⟩ := r.val i dx hx'
    refine ⟨v, h1, c, Z, ρ, r, tSR.expr q fun b ρ1 y H1 r1 hb q3 => ?_⟩
    cases ef : f dx b with
    | none => rw [ef] at q3; exact q3.elim
    | some d =>
      rw [ef] at q3
      obtain ⟨j, k, rfl, rfl, rfl⟩ := hg _ _ _ ef
      cases (show v = _ from h2)
      cases (show y = _ from hb)
      exact ⟨j, k, rfl, rfl, q3 _ _ ⟨Z, r1.set (d := .int (g j k)) rfl⟩⟩
  · exact q.elim
end
end DL
set_option Elab.async false
set_option linter.all false
set_option maxRecDepth 100000
set_option maxHeartbeats 4000000
namespace DL
open PySem PySem.Spec PyProof.Rows L2
variable [CTab]
/-! ### targets -/
/-- the slots outside of these are as they were -/
def Out (is : List Nat) (σ σ' : St) : Prop := σ'.length = σ.length ∧ ∀ j, j ∉ is → σ'[j]? = σ[j]?
theorem Out.refl {is : List Nat} {σ : St} : Out is σ σ := ⟨rfl, fun _ _ => rfl⟩
theorem Out.trans {is : List Nat} {σ σ1 σ2 : St} (a : Out is σ σ1) (b : Out is σ1 σ2) : Out is σ σ2 := ⟨b.1.trans a.1, fun j h => (b.2 j h).trans (a.2 j h)⟩
theorem Out.mono {is js : List Nat} {σ σ' : St} (a : Out is σ σ') (h : ∀ j ∈ is, j ∈ js) : Out js σ σ' := ⟨a.1, fun j n => a.2 j fun z => n (h j z)⟩
abbrev MT := D → Env → Option Env
abbrev MTs := List D → Env → Option Env
def tTG (K : PySem.W.Frag) (is : List Nat) (g : MT) : TG := fun v σ H Q => ∃ c Z ρ d ρ', Rel K c Z ρ σ H ∧ Rep K H Z d v ∧ g d ρ = some ρ' ∧ ∀ σ' H', Rel K c Z ρ' σ' H' → Same H H' → Out is σ σ' → Q σ' H'
def tTGs (K : PySem.W.Frag) (is : List Nat) (g : MTs) : TGs := fun vs σ H Q => ∃ c Z ρ l ρ', Rel K c Z ρ σ H ∧ Reps K H Z l vs ∧ g l ρ = some ρ' ∧ ∀ σ' H', Rel K c Z ρ' σ' H' → Same H H' → Out is σ σ' → Q σ' H'
theorem _root_.L2.PG.imp {X : Cx} {e : Expr} {t t' : TG} (h : PG X e t) (i : ∀ v σ H Q, t' v σ H Q → t v σ H Q) : PG X e t' := ⟨fun pins s σ H v u Q I r q => h.run pins s σ H v u Q I r (i v σ H Q q)⟩
theorem _root_.L2.PGs.imp {X : Cx} {e : List Expr} {t t' : TGs} (h : PGs X e t) (i : ∀ v σ H Q, t' v σ H Q → t v σ H Q) : PGs X e t' := ⟨fun pins s σ H v u Q I r q => h.run pins s σ H v u Q I r (i v σ H Q q)⟩
def mTN (i : Nat) : MT := fun d ρ => some (ρ.set i (some (.val d)))
def mTNil : MTs := fun l ρ => match l with
  | [] => some ρ
  | _ => none
def mTCons (g : MT) (gs : MTs) : MTs := fun l ρ => match l with
  | d :: r => (g d ρ).bind (gs r)
  | _ => none
def mTT (gs : MTs) : MT := fun d ρ => match d with
  | .tup l => gs l ρ
  | _ => none
section
variable {X : Cx} {E : XK} {pos pos' : Pos} {e : Expr} {es : List Expr} {g : MT} {gs : MTs} {is js : List Nat} {m : M D}
theorem Out.set {i : Nat} {σ : St} {x : Option V} : Out [i] σ (σ.set i x) := ⟨by simp, fun j h => List.getElem?_set_ne (fun e => h (by rw [e]; simp))⟩
theorem g_name (i : Nat) {x : Str} (hN : X.N.Nodup) (hi : X.N[i]? = some x := by rfl) (hx : Loc X.env.scope x := by first | exact Or.inl rfl | exact Or.inr rfl) (hf : X.fn x = true ∨ X.env.scope.names.lookup x = some .local := by first | exact .inl rfl | exact .inr rfl) : PG X (.Name x pos) (tTG X.K [i] (mTN i)) := by
  refine (pg_name hN hi hx hf).imp fun v σ H Q h => ?_
  obtain ⟨c, Z, ρ, d, ρ', r, hd, hg, q⟩ := h
  cases hg
  exact q _ H (r.set hd) (Same.refl H) Out.set
theorem gs_nil : PGs X [] (tTGs X.K [] mTNil) := by
  refine pgs_nil.imp fun v σ H Q h => ?_
  obtain ⟨c, Z, ρ, l, ρ', r, hl, hg, q⟩ := h
  unfold mTNil at hg
  split at hg
  · cases hg
    exact ⟨hl, q σ H r (Same.refl H) Out.refl⟩
  · cases hg
theorem gs_cons (h1 : PG X e (tTG X.K is g)) (h2 : PGs X es (tTGs X.K js gs)) (hs : (assignEach (e :: es) X.env).map (·.2) = assign e X.env :: (assignEach es X.env).map (·.2) := by rfl) : PGs X (e :: es) (tTGs X.K (is ++ js) (mTCons g gs)) := by
  refine (pgs_cons h1 h2 hs).imp fun v σ H Q h => ?_
  obtain ⟨c, Z, ρ, l, ρ', r, hl, hg, q⟩ := h
  unfold mTCons at hg
  split at hg
  · rename_i d rest
    obtain ⟨u, us, rfl, hd, hr⟩ := hl.inv
    cases e1 : g d ρ with
    | none => rw [e1] at hg; cases hg
    | some ρ1 =>
      rw [e1] at hg
      refine ⟨u, us, rfl, c, Z, ρ, d, ρ1, r, hd, e1, fun σ1 H1 r1 s1 o1 => ⟨c, Z, ρ1, rest, ρ', r1, Reps.ext (Ext.same s1) _ _ hr, hg, fun σ2 H2 r2 s2 o2 => ?_⟩⟩
      exact q σ2 H2 r2 (s1.trans s2) ((o1.mono fun j hj => List.mem_append_left _ hj).trans (o2.mono fun j hj => List.mem_append_right _ hj))
  · cases hg
theorem gs_len : ∀ {l : List D} {ρ ρ' : Env} {gs : MTs} {n : Nat}, (∀ l ρ ρ', gs l ρ = some ρ' → l.length = n) → gs l ρ = some ρ' → l.length = n := fun h e => h _ _ _ e
class TgLen (n : outParam Nat) (gs : MTs) : Prop where
  len : ∀ l ρ ρ', gs l ρ = some ρ' → l.length = n
instance : TgLen 0 mTNil := ⟨fun l ρ ρ' h => by
  unfold mTNil at h
  split at h
  · rfl
  · cases h⟩
instance {n : Nat} {g : MT} {gs : MTs} [i : TgLen n gs] : TgLen (n + 1) (mTCons g gs) := ⟨fun l ρ ρ' h => by
  unfold mTCons at h
  split at h
  · rename_i d r
    cases e1 : g d ρ with
    | none => rw [e1] at h; cases h
    | some ρ1 =>
      rw [e1] at h
      exact congrArg (· + 1) (i.len _ _ _ h)
  · cases h⟩
theorem g_tup {k n : Nat} [tl : TgLen n gs] (hc : X.calm = true) (h : PGs X es (tTGs X.K is gs)) (hn : (assignEach es X.env).length = n := by rfl) (hst : (assignEach es X.env).findIdx? (·.1) = none := by rfl) : PG X (.Tuple es k pos) (tTG X.K is (mTT gs)) := by
  refine (pg_tup hc h hn hst).imp fun v σ H Q h => ?_
  obtain ⟨c, Z, ρ, d, ρ', r, hd, hg, q⟩ := h
  unfold mTT at hg
  split at hg
  · rename_i l
    simp only [Rep] at hd
    obtain ⟨a, vs, rfl, h1, h2⟩ := hd
    exact ⟨a, vs, rfl, h1.sq, by rw [← h2.len]; exact tl.len _ _ _ hg, c, Z, ρ, l, ρ', r, h2, hg, q⟩
  · cases hg
/-- target = e -/
def mAsg (g : MT) (m : M D) : M Fl := fun ρ => bindR (m ρ) fun d ρ => match g d ρ with
  | some ρ' => .ok .nx ρ'
  | none => .fail
theorem s_asg {tg : Expr} (he : PE X e (tD X.K E m)) (hg : PG X tg (tTG X.K is g)) (hs : swapsWithSole [tg] e pos.line X.env = pure false := by rfl) (hw : swappedStores [tg] e X.env = pure none := by rfl) (h1 : (assignEach [tg] X.env).map (·.2) = [assign tg X.env] := by rfl) : PS X (.Assign [tg] e pos) (tS X.K E (mAsg g m)) := by
  refine (ps_asg he hg hs hw h1).imp fun Dn σ H h => ?_
  obtain ⟨c, ρ, ⟨Z, r⟩, q⟩ := h
  refine ⟨c, Z, ρ, r, tSR.expr q fun d ρ1 v H1 r1 hd q1 => ?_⟩
  cases e1 : g d ρ1 with
  | none => rw [e1] at q1; exact q1.elim
  | some ρ' =>
    rw [e1] at q1
    exact ⟨c, Z, ρ1, d, ρ', r1, hd, e1, fun σ' H' r' s' _ => q1 σ' H' ⟨Z, r'⟩⟩
/-- a, b = x, y -/
def mPar (i j : Nat) (ms : M (List D)) : M Fl := fun ρ => bindR (ms ρ) fun l ρ => match l with
  | [a, b] => .ok .nx ((ρ.set i (some (.val a))).set j (some (.val b)))
  | _ => .fail
theorem s_par (i j : Nat) {x y : Str} {a b : Expr} {ms : M (List D)} {px py pt : Pos} {kt k2 pt2} (hc : X.calm = true) (hN : X.N.Nodup) (ha : PA X [a, b] (tAr X.K E ms)) (hi : X.N[i]? = some x := by rfl) (hj : X.N[j]? = some y := by rfl) (hij : i ≠ j := by decide)
    (hx : X.env.scope.names.lookup x = some .local := by rfl) (hy : X.env.scope.names.lookup y = some .local := by rfl)
    (hw : swappedStores [.Tuple [.Name x px, .Name y py] kt pt] (.Tuple [a, b] k2 pt2) X.env = pure (some [x, y]) := by rfl)
    (hs : swapsWithSole [.Tuple [.Name x px, .Name y py] kt pt] (.Tuple [a, b] k2 pt2) pos.line X.env = pure false := by rfl) :
    PS X (.Assign [.Tuple [.Name x px, .Name y py] kt pt] (.Tuple [a, b] k2 pt2) pos) (tS X.K E (mPar i j ms)) := by
  refine (ps_par hc hN hi hj hij hx hy ha hw hs).imp fun Dn σ H h => ?_
  obtain ⟨c, ρ, ⟨Z, r⟩, q⟩ := h
  refine ⟨c, Z, ρ, r, tSR.expr q fun l ρ1 vs H1 r1 hl q1 => ?_⟩
  have hl : Reps X.K H1 Z l vs := hl
  split at q1
  · obtain ⟨v, u, rfl, h1, h2⟩ := hl.inv2
    exact ⟨v, u, rfl, q1 _ _ ⟨Z, (r1.set h1).set h2⟩⟩
  · exact q1.elim
end
/-! ### what is walked -/
/-- a walk over these, as long as the data of ex stand -/
structure WkD (K : PySem.W.Frag) (J : It) (ds : List D) (ex : List (D × V)) : Prop where
  go : ∀ (H : Hp) (Z : Addr → Prop), (∀ p, Z p → H p ≠ none) → (∀ q ∈ ex, Rep K H Z q.1 q.2) → ∀ (i : Nat) (d : D), ds[i]? = some d → J.go i H ∧ ∀ x H', J.yld i H x H' → Same H H' ∧ Rep K H' Z d x
  stop : ∀ (H : Hp) (Z : Addr → Prop), (∀ q ∈ ex, Rep K H Z q.1 q.2) → J.stop ds.length H
def iR (K : PySem.W.Frag) (E : XK) (c : Cz) (Z : Addr → Prop) (σ : St) (H : Hp) (R : It → Hp → Prop) : Res (List D) → Prop
  | .fail => False
  | .ok ds ρ' => ∀ J ex H', Rel K c Z ρ' σ H' → Ext Z H H' → (∀ q ∈ ex, Rep K H' Z q.1 q.2) → WkD K J ds ex → R J H'
  | .exc x l ρ' => ∀ ed vs H', Rel K c Z ρ' σ H' → Ext Z H H' → H' ed = some (.xd ((cF x).zip vs)) → vs.length ≤ (cF x).length → Reps K H' Z l vs → E (.ref (He.ga K (cN x))) (some ed) H'
def iD (K : PySem.W.Frag) (E : XK) (m : M (List D)) : TI := fun σ H R => ∃ c Z ρ, Rel K c Z ρ σ H ∧ iR K E c Z σ H R (m ρ)
theorem _root_.L2.PI.imp {X : Cx} {tg e : Expr} {t t' : TI} (h : PI X tg e t) (i : ∀ σ H R, t' σ H R → t σ H R) : PI X tg e t' := ⟨fun pins s σ H R I q => h.run pins s σ H R I (i σ H R q)⟩
def mItL (m : M D) : M (List D) := fun ρ => bindR (m ρ) fun d ρ => liftO d.lis ρ
def mItT (m : M D) : M (List D) := fun ρ => bindR (m ρ) fun d ρ => match d with
  | .tup l => .ok l ρ
  | _ => .fail
def mItLT (m : M D) : M (List D) := fun ρ => bindR (m ρ) fun d ρ => liftO d.seq ρ
def rngD (lo : Int) (n : Nat) : List D := (List.range n).map fun i : Nat => .int (lo + (i : Int))
def lim62 (i : Int) : Bool := decide (-(2 ^ 62) ≤ i ∧ i < 2 ^ 62)
def mRng1 (m : M D) : M (List D) := fun ρ => bindR (m ρ) fun d ρ => match d with
  | .int j => if lim62 j = true then .ok (rngD 0 j.toNat) ρ else .fail
  | _ => .fail
def mRng2 (m m' : M D) : M (List D) := fun ρ => bindR (m ρ) fun d ρ => bindR (m' ρ) fun e ρ => match d, e with
  | .int i, .int j => if (lim62 i && lim62 j) = true then .ok (rngD i (j - i).toNat) ρ else .fail
  | _, _ => .fail
def enumD : Nat → List D → List D
  | _, [] => []
  | i, d :: r => .tup [.int (i : Int), d] :: enumD (i + 1) r
def mEnum (m : M D) : M (List D) := fun ρ => bindR (m ρ) fun d ρ => match d.lis with
  | some l => .ok (enumD 0 l) ρ
  | none => .fail
def zipD : List D → List D → List D
  | a :: r, b :: t => .tup [a, b] :: zipD r t
  | _, _ => []
def mZip (m m' : M D) : M (List D) := fun ρ => bindR (m ρ) fun d ρ => bindR (m' ρ) fun e ρ => match d, e with
  | .tup l, .tup r => .ok (zipD l r) ρ
  | _, _ => (match d.lis, e.lis with
    | some l, some r => .ok (zipD l r) ρ
    | _, _ => .fail)
section
variable {X : Cx} {E : XK} {pos p tpos : Pos} {tg e e2 : Expr} {m m' : M D} {K : PySem.W.Frag}
theorem iR.ext {c : Cz} {Z : Addr → Prop} {σ : St} {H H1 : Hp} {R : It → Hp → Prop} {r : Res (List D)} (h : iR K E c Z σ H R r) (e : Ext Z H H1) : iR K E c Z σ H1 R r := by
  cases r with
  | fail => exact h
  | ok ds ρ => exact fun J ex H' a b => h J ex H' a (e.trans b)
  | exc x l ρ => exact fun ed vs H' a b => h ed vs H' a (e.trans b)
theorem iR.bind {c : Cz} {Z : Addr → Prop} {σ : St} {H : Hp} {R : It → Hp → Prop} {r : Res D} {k : D → Env → Res (List D)} {Q' : V → Hp → Prop} (h : iR K E c Z σ H R (bindR r k))
    (f : ∀ d ρ1 v H1, Rel K c Z ρ1 σ H1 → Ext Z H H1 → Rep K H1 Z d v → iR K E c Z σ H1 R (k d ρ1) → Q' v H1) : tR K E rD c Z σ H Q' r := by
  cases r with
  | fail => exact h
  | ok d ρ1 => exact fun v H1 r1 e1 h1 => f d ρ1 v H1 r1 e1 h1 (iR.ext h e1)
  | exc x l ρ1 => exact h
theorem wk_list {a : Addr} {d : D} {l : List D} (hd : d.lis = some l) : WkD K (Itl K a) l [(d, .ref a)] := by
  have at_ : ∀ (H : Hp) (Z : Addr → Prop), (∀ q ∈ [(d, V.ref a)], Rep K H Z q.1 q.2) → ∃ vs, SqL K H a vs ∧ Reps K H Z l vs := fun H Z h => by
    obtain ⟨p, vs, e, h1, h2⟩ := D.lis_rep hd (h _ (List.mem_singleton.mpr rfl))
    cases e
    exact ⟨vs, h1, h2⟩
  refine ⟨fun H Z hz h i x hx => ?_, fun H Z h => ?_⟩
  · obtain ⟨vs, h1, h2⟩ := at_ H Z h
    obtain ⟨v, hv, rv⟩ := h2.get hx
    refine ⟨⟨vs, v, h1, hv⟩, fun y H' hy => ?_⟩
    obtain ⟨rfl, hy⟩ := hy
    have e := hy vs h1
    rw [hv] at e
    cases e
    exact ⟨Same.refl _, rv⟩
  · obtain ⟨vs, h1, h2⟩ := at_ H Z h
    exact ⟨vs, h1, by rw [h2.len]; exact Nat.le_refl _⟩
theorem wk_tup {a : Addr} {l : List D} : WkD K (Itt K a) l [(.tup l, .ref a)] := by
  have at_ : ∀ (H : Hp) (Z : Addr → Prop), (∀ q ∈ [(D.tup l, V.ref a)], Rep K H Z q.1 q.2) → ∃ vs, SqT K H a vs ∧ Reps K H Z l vs := fun H Z h => by
    have h0 := h _ (List.mem_singleton.mpr rfl)
    simp only [Rep] at h0
    obtain ⟨p, vs, e, h1, h2⟩ := h0
    cases e
    exact ⟨vs, h1.sq, h2⟩
  refine ⟨fun H Z hz h i x hx => ?_, fun H Z h => ?_⟩
  · obtain ⟨vs, h1, h2⟩ := at_ H Z h
    obtain ⟨v, hv, rv⟩ := h2.get hx
    refine ⟨⟨vs, v, h1, hv⟩, fun y H' hy => ?_⟩
    obtain ⟨rfl, hy⟩ := hy
    have e := hy vs h1
    rw [hv] at e
    cases e
    exact ⟨Same.refl _, rv⟩
  · obtain ⟨vs, h1, h2⟩ := at_ H Z h
    exact ⟨vs, h1, by rw [h2.len]; exact Nat.le_refl _⟩
theorem i_list (he : PE X e (tD X.K E m)) : PI X tg e (iD X.K E (mItL m)) := by
  refine (pi_list he).imp fun σ H R ⟨c, Z, ρ, r, q⟩ => ⟨c, Z, ρ, r, iR.bind q fun d ρ1 v H1 r1 e1 h1 q => ?_⟩
  cases e1 : d.lis with
  | none => rw [e1] at q; exact q.elim
  | some l =>
    rw [e1] at q
    obtain ⟨a, vs, rfl, g1, g2⟩ := D.lis_rep e1 h1
    exact ⟨a, rfl, ⟨vs, g1⟩, q _ _ H1 r1 Ext.refl (fun q hq => by rw [List.mem_singleton.mp hq]; exact h1) (wk_list e1)⟩
theorem i_tup (he : PE X e (tD X.K E m)) : PI X tg e (iD X.K E (mItT m)) := by
  refine (pi_tup he).imp fun σ H R ⟨c, Z, ρ, r, q⟩ => ⟨c, Z, ρ, r, iR.bind q fun d ρ1 v H1 r1 e1 h1 q => ?_⟩
  cases d <;> first | (exact q.elim; done) | skip
  rename_i l
  have h1' := h1
  simp only [Rep] at h1
  obtain ⟨a, vs, rfl, g1, g2⟩ := h1
  exact ⟨a, rfl, ⟨vs, g1.sq⟩, q _ _ H1 r1 Ext.refl (fun q hq => by rw [List.mem_singleton.mp hq]; exact h1') wk_tup⟩
theorem pi_or {t u : TI} (h : PI X tg e t) (h' : PI X tg e u) : PI X tg e (fun σ H R => t σ H R ∨ u σ H R) := ⟨fun pins s σ H R I q => q.elim (h.run pins s σ H R I) (h'.run pins s σ H R I)⟩
/-- a list or a tuple -/
theorem i_seq (he : PE X e (tD X.K E m)) : PI X tg e (iD X.K E (mItLT m)) := by
  refine (pi_or (i_list he) (i_tup he)).imp fun σ H R h => ?_
  obtain ⟨c, Z, ρ, r, q⟩ := h
  unfold mItLT at q
  cases em : m ρ with
  | fail => rw [em] at q; exact q.elim
  | exc x l ρ1 =>
    rw [em] at q
    refine .inl ⟨c, Z, ρ, r, ?_⟩
    unfold mItL
    rw [em]
    exact q
  | ok d ρ1 =>
    rw [em, bindR_ok] at q
    by_cases ht : ∃ l, d = .tup l
    · obtain ⟨l, rfl⟩ := ht
      refine .inr ⟨c, Z, ρ, r, ?_⟩
      unfold mItT
      rw [em]
      exact q
    · refine .inl ⟨c, Z, ρ, r, ?_⟩
      unfold mItL
      rw [em, bindR_ok]
      have e1 : d.seq = d.lis := by
        cases d <;> first | rfl | exact absurd ⟨_, rfl⟩ ht
      rw [← e1]
      exact q
theorem rngD_len {lo : Int} {n : Nat} : (rngD lo n).length = n := by simp [rngD]
theorem wk_rng {lo : Int} {n : Nat} : WkD K (Itr lo n) (rngD lo n) [] := by
  refine ⟨fun H Z hz h i x hx => ?_, fun H Z h => ?_⟩
  · have hi : i < n := by
      have := (List.getElem?_eq_some_iff.mp hx).1
      rw [rngD_len] at this
      exact this
    have ex : x = .int (lo + (i : Int)) := by
      simp only [rngD, List.getElem?_map, List.getElem?_range hi, Option.map_some, Option.some.injEq] at hx
      exact hx.symm
    refine ⟨hi, fun y H' hy => ?_⟩
    obtain ⟨rfl, rfl⟩ := hy
    subst ex
    exact ⟨Same.refl _, rfl⟩
  · show n ≤ (rngD lo n).length
    rw [rngD_len]
    exact Nat.le_refl _
theorem i_rng1 (he : PE X e (tD X.K E m)) (hm : X.mg "range" = none) (hg : Gl X "range" := by rfl) (hs : starEach [e] X.env = [(false, eval e X.env)] := by rfl) (hs' : starEach [e] X.env = (false, eval e X.env) :: starEach [] X.env := by rfl) : PI X tg (.Call (.Name "range" p) [e] [] pos) (iD X.K E (mRng1 m)) := by
  refine (pi_range1 hg hm (pa_cons he pa_nil hs') hs).imp fun σ H R ⟨c, Z, ρ, r, q⟩ => ⟨c, Z, ρ, r, iR.bind q fun d ρ1 v H1 r1 e1 h1 q => ?_⟩
  cases d <;> first | (exact q.elim; done) | skip
  rename_i j
  cases (show v = _ from h1)
  by_cases hl : lim62 j = true
  · have q : iR X.K E c Z σ H1 R (if lim62 j = true then .ok (rngD 0 j.toNat) ρ1 else .fail) := q
    rw [if_pos hl] at q
    obtain ⟨l1, l2⟩ := of_decide_eq_true hl
    exact ⟨j, rfl, l1, l2, q _ [] H1 r1 Ext.refl (fun q hq => by cases hq) wk_rng⟩
  · have q : iR X.K E c Z σ H1 R (if lim62 j = true then .ok (rngD 0 j.toNat) ρ1 else .fail) := q
    rw [if_neg hl] at q
    exact q.elim
theorem i_rng2 (he : PE X e (tD X.K E m)) (he2 : PE X e2 (tD X.K E m')) (hm : X.mg "range" = none) (hg : Gl X "range" := by rfl) (hs : starEach [e, e2] X.env = [(false, eval e X.env), (false, eval e2 X.env)] := by rfl) (hs' : starEach [e, e2] X.env = (false, eval e X.env) :: starEach [e2] X.env := by rfl)
    (hs2 : starEach [e2] X.env = [(false, eval e2 X.env)] := by rfl) (hs2' : starEach [e2] X.env = (false, eval e2 X.env) :: starEach [] X.env := by rfl) : PI X tg (.Call (.Name "range" p) [e, e2] [] pos) (iD X.K E (mRng2 m m')) := by
  refine (pi_range2 hg hm (pa_cons he (pa_cons he2 pa_nil hs2') hs') hs hs2).imp fun σ H R ⟨c, Z, ρ, r, q0⟩ => ⟨c, Z, ρ, r, iR.bind q0 fun d ρ1 v H1 r1 e1 h1 q1 => ⟨c, Z, ρ1, r1, iR.bind q1 fun d' ρ2 v' H2 r2 e2 h2 q => ?_⟩⟩
  split at q
  · rename_i i j
    cases (show v = _ from h1)
    cases (show v' = _ from h2)
    split at q
    · rename_i hl
      obtain ⟨l1, l2⟩ := Bool.and_eq_true_iff.mp hl
      obtain ⟨a1, a2⟩ := of_decide_eq_true l1
      obtain ⟨b1, b2⟩ := of_decide_eq_true l2
      exact ⟨i, j, rfl, ⟨a1, a2, b1, b2⟩, q _ [] H2 r2 Ext.refl (fun q hq => by cases hq) wk_rng⟩
    · exact q.elim
  · exact q.elim
theorem enumD_get : ∀ {l : List D} {k i : Nat} {d : D}, (enumD k l)[i]? = some d → ∃ x, l[i]? = some x ∧ d = .tup [.int ((k + i : Nat) : Int), x]
  | [], k, i, d, h => by simp [enumD] at h
  | a :: r, k, 0, d, h => by
    simp only [enumD, List.getElem?_cons_zero, Option.some.injEq] at h
    exact ⟨a, rfl, h.symm⟩
  | a :: r, k, i + 1, d, h => by
    simp only [enumD, List.getElem?_cons_succ] at h
    obtain ⟨x, h1, h2⟩ := enumD_get h
    refine ⟨x, by simpa using h1, ?_⟩
    rw [h2]
    have e : k + 1 + i = k + (i + 1) := by omega
    rw [e]
theorem enumD_len : ∀ (l : List D) (k : Nat), (enumD k l).length = l.length
  | [], _ => rfl
  | _ :: r, k => congrArg (· + 1) (enumD_len r (k + 1))
theorem wk_enum {a : Addr} {d : D} {l : List D} (hd : d.lis = some l) : WkD K (Ite K a) (enumD 0 l) [(d, .ref a)] := by
  have at_ : ∀ (H : Hp) (Z : Addr → Prop), (∀ q ∈ [(d, V.ref a)], Rep K H Z q.1 q.2) → ∃ vs, SqL K H a vs ∧ Reps K H Z l vs := fun H Z h => by
    obtain ⟨p, vs, e, h1, h2⟩ := D.lis_rep hd (h _ (List.mem_singleton.mpr rfl))
    cases e
    exact ⟨vs, h1, h2⟩
  refine ⟨fun H Z hz h i x hx => ?_, fun H Z h => ?_⟩
  · obtain ⟨vs, h1, h2⟩ := at_ H Z h
    obtain ⟨y, hy, rfl⟩ := enumD_get hx
    obtain ⟨v, hv, rv⟩ := h2.get hy
    refine ⟨⟨vs, v, h1, hv⟩, fun u H' hu => ?_⟩
    obtain ⟨T, x', rfl, hT, rfl, hx'⟩ := hu
    have e := hx' vs h1
    rw [hv] at e
    cases e
    exact ⟨same_upd hT, new_tup hz hT (Reps.cons (by show V.int _ = V.int _; rw [Nat.zero_add]) (Reps.one rv))⟩
  · obtain ⟨vs, h1, h2⟩ := at_ H Z h
    exact ⟨vs, h1, by rw [enumD_len, h2.len]; exact Nat.le_refl _⟩
theorem i_enum {elts : List Expr} {kk : Nat} (he : PE X e (tD X.K E m)) (hm : X.mg "enumerate" = none) (hg : Gl X "enumerate" := by rfl) (hs : starEach [e] X.env = [(false, eval e X.env)] := by rfl) (hs' : starEach [e] X.env = (false, eval e X.env) :: starEach [] X.env := by rfl) : PI X (.Tuple elts kk tpos) (.Call (.Name "enumerate" p) [e] [] pos) (iD X.K E (mEnum m)) := by
  refine (pi_enum hg hm (pa_cons he pa_nil hs') hs).imp fun σ H R ⟨c, Z, ρ, r, q⟩ => ⟨c, Z, ρ, r, iR.bind q fun d ρ1 v H1 r1 e1 h1 q => ?_⟩
  cases e1 : d.lis with
  | none => simp only [e1] at q; exact q.elim
  | some l =>
    simp only [e1] at q
    obtain ⟨a, vs, rfl, g1, g2⟩ := D.lis_rep e1 h1
    exact ⟨a, vs, rfl, g1, q _ _ H1 r1 Ext.refl (fun q hq => by rw [List.mem_singleton.mp hq]; exact h1) (wk_enum e1)⟩
theorem zipD_get : ∀ {l r : List D} {i : Nat} {d : D}, (zipD l r)[i]? = some d → ∃ x y, l[i]? = some x ∧ r[i]? = some y ∧ d = .tup [x, y]
  | [], r, i, d, h => by simp [zipD] at h
  | a :: l, [], i, d, h => by simp [zipD] at h
  | a :: l, b :: r, 0, d, h => by
    simp only [zipD, List.getElem?_cons_zero, Option.some.injEq] at h
    exact ⟨a, b, rfl, rfl, h.symm⟩
  | a :: l, b :: r, i + 1, d, h => by
    simp only [zipD, List.getElem?_cons_succ] at h
    obtain ⟨x, y, h1, h2, h3⟩ := zipD_get h
    exact ⟨x, y, by simpa using h1, by simpa using h2, h3⟩
theorem zipD_len : ∀ (l r : List D), (zipD l r).length = min l.length r.length
  | [], r => by simp [zipD]
  | a :: l, [] => by simp [zipD]
  | a :: l, b :: r => by
    simp only [zipD, List.length_cons, zipD_len l r]
    omega
theorem wk_zip {a b : Addr} {d d' : D} {l r : List D} (hd : d.lis = some l) (hd' : d'.lis = some r) : WkD K (Itz K a b) (zipD l r) [(d, .ref a), (d', .ref b)] := by
  have at_ : ∀ (H : Hp) (Z : Addr → Prop), (∀ q ∈ [(d, V.ref a), (d', V.ref b)], Rep K H Z q.1 q.2) → ∃ vs us, SqL K H a vs ∧ Reps K H Z l vs ∧ SqL K H b us ∧ Reps K H Z r us := fun H Z h => by
    obtain ⟨p, vs, e, h1, h2⟩ := D.lis_rep hd (h (d, .ref a) (by simp))
    obtain ⟨p', us, e', h3, h4⟩ := D.lis_rep hd' (h (d', .ref b) (by simp))
    cases e
    cases e'
    exact ⟨vs, us, h1, h2, h3, h4⟩
  refine ⟨fun H Z hz h i x hx => ?_, fun H Z h => ?_⟩
  · obtain ⟨vs, us, h1, h2, h3, h4⟩ := at_ H Z h
    obtain ⟨x1, y1, hx1, hy1, rfl⟩ := zipD_get hx
    obtain ⟨v, hv, rv⟩ := h2.get hx1
    obtain ⟨u, hu, ru⟩ := h4.get hy1
    refine ⟨⟨vs, us, v, u, h1, h3, hv, hu⟩, fun w H' hw => ?_⟩
    obtain ⟨T, x', y', rfl, hT, rfl, k1, k2⟩ := hw
    have e := k1 vs h1
    have e' := k2 us h3
    rw [hv] at e
    rw [hu] at e'
    cases e
    cases e'
    exact ⟨same_upd hT, new_tup hz hT (Reps.cons rv (Reps.one ru))⟩
  · obtain ⟨vs, us, h1, h2, h3, h4⟩ := at_ H Z h
    have := h2.len
    have := h4.len
    exact ⟨vs, us, h1, h3, by rw [zipD_len]; omega⟩
theorem wk_zipT {a b : Addr} {l r : List D} : WkD K (RZ.ItzT K a b) (zipD l r) [(.tup l, .ref a), (.tup r, .ref b)] := by
  have at_ : ∀ (H : Hp) (Z : Addr → Prop), (∀ q ∈ [(D.tup l, V.ref a), (D.tup r, V.ref b)], Rep K H Z q.1 q.2) → ∃ vs us, SqT K H a vs ∧ Reps K H Z l vs ∧ SqT K H b us ∧ Reps K H Z r us := fun H Z h => by
    have g1 := h (.tup l, .ref a) (by simp)
    have g2 := h (.tup r, .ref b) (by simp)
    simp only [Rep] at g1 g2
    obtain ⟨p, vs, e, h1, h2⟩ := g1
    obtain ⟨p', us, e', h3, h4⟩ := g2
    cases e
    cases e'
    exact ⟨vs, us, h1.sq, h2, h3.sq, h4⟩
  refine ⟨fun H Z hz h i x hx => ?_, fun H Z h => ?_⟩
  · obtain ⟨vs, us, h1, h2, h3, h4⟩ := at_ H Z h
    obtain ⟨x1, y1, hx1, hy1, rfl⟩ := zipD_get hx
    obtain ⟨v, hv, rv⟩ := h2.get hx1
    obtain ⟨u, hu, ru⟩ := h4.get hy1
    refine ⟨⟨vs, us, v, u, h1, h3, hv, hu⟩, fun w H' hw => ?_⟩
    obtain ⟨T, x', y', rfl, hT, rfl, k1, k2⟩ := hw
    have e := k1 vs h1
    have e' := k2 us h3
    rw [hv] at e
    rw [hu] at e'
    cases e
    cases e'
    exact ⟨same_upd hT, new_tup hz hT (Reps.cons rv (Reps.one ru))⟩
  · obtain ⟨vs, us, h1, h2, h3, h4⟩ := at_ H Z h
    have := h2.len
    have := h4.len
    exact ⟨vs, us, h1, h3, by rw [zipD_len]; omega⟩
theorem i_zip {elts : List Expr} {kk : Nat} (he : PE X e (tD X.K E m)) (he2 : PE X e2 (tD X.K E m')) (hm : X.mg "zip" = none) (hg : Gl X "zip" := by rfl) (hs : starEach [e, e2] X.env = (false, eval e X.env) :: starEach [e2] X.env := by rfl) (hs2 : starEach [e2] X.env = (false, eval e2 X.env) :: starEach [] X.env := by rfl)
    (hpl : (backTo pos (starEach [e2] X.env)).any (·.1) = false := by rfl) : PI X (.Tuple elts kk tpos) (.Call (.Name "zip" p) [e, e2] [] pos) (iD X.K E (mZip m m')) := by
  refine (RZ.pi_zipA hg hm (pa_cons he (pa_cons he2 pa_nil hs2) hs) hs hpl).imp fun σ H R ⟨c, Z, ρ, r, q0⟩ => ⟨c, Z, ρ, r, iR.bind q0 fun d ρ1 v H1 r1 e1 h1 q1 => ⟨c, Z, ρ1, r1, iR.bind q1 fun d' ρ2 v' H2 r2 e2 h2 q => ?_⟩⟩
  have h1' := Rep.ext e2 _ _ h1
  split at q
  · rename_i l l'
    have h1'' := h1'
    have h2' : Rep X.K H2 Z (.tup l') v' := h2
    simp only [Rep] at h1'' h2'
    obtain ⟨a, vs, rfl, g1, g2⟩ := h1''
    obtain ⟨b, us, rfl, g3, g4⟩ := h2'
    exact ⟨a, b, vs, us, rfl, .inr ⟨g1.sq, g3.sq, q _ _ H2 r2 Ext.refl (fun q hq => by
      rcases List.mem_cons.mp hq with e | hq
      · rw [e]; exact h1'
      · rw [List.mem_singleton.mp hq]; exact h2) wk_zipT⟩⟩
  · split at q
    · rename_i l l' g1 g2
      obtain ⟨a, vs, rfl, k1, k2⟩ := D.lis_rep g1 h1'
      obtain ⟨b, us, rfl, k3, k4⟩ := D.lis_rep g2 h2
      exact ⟨a, b, vs, us, rfl, .inl ⟨k1, k3, q _ _ H2 r2 Ext.refl (fun q hq => by
        rcases List.mem_cons.mp hq with e | hq
        · rw [e]; exact h1'
        · rw [List.mem_singleton.mp hq]; exact h2) (wk_zip g1 g2)⟩⟩
    · exact q.elim
end
end DL
set_option Elab.async false
set_option linter.all false
set_option maxRecDepth 100000
set_option maxHeartbeats 4000000
namespace DL
open PySem PySem.Spec PyProof.Rows L2
variable [CTab]
/-! ### more data that must stand, for a while -/
def Cz.withEx (c : Cz) (ex : List (D × V)) : Cz := { c with ex := ex ++ c.ex }
section
variable {K : PySem.W.Frag} {c : Cz} {Z : Addr → Prop} {ρ : Env} {σ : St} {H : Hp} {ex : List (D × V)}
theorem Rel.more (r : Rel K c Z ρ σ H) (h : ∀ q ∈ ex, Rep K H Z q.1 q.2) : Rel K (c.withEx ex) Z ρ σ H :=
  ⟨r.frame, r.keep, r.base, r.len, r.dom, r.val, r.own, r.inn, r.inj, fun q hq => (List.mem_append.mp hq).elim (h q) (r.xs q), r.hd⟩
theorem Rel.less (r : Rel K (c.withEx ex) Z ρ σ H) : Rel K c Z ρ σ H :=
  ⟨r.frame, r.keep, r.base, r.len, r.dom, r.val, r.own, r.inn, r.inj, fun q hq => r.xs q (List.mem_append_right _ hq), r.hd⟩
theorem Rel.exs (r : Rel K (c.withEx ex) Z ρ σ H) : ∀ q ∈ ex, Rep K H Z q.1 q.2 := fun q hq => r.xs q (List.mem_append_left _ hq)
theorem RelS.less (r : RelS K (c.withEx ex) ρ σ H) : RelS K c ρ σ H := ⟨r.choose, r.choose_spec.less⟩
end
/-! ### for -/
def forGo (g : MT) (body : M Fl) : List D → Env → Res Fl
  | [], ρ => .ok .nx ρ
  | d :: ds, ρ => match g d ρ with
    | none => .fail
    | some ρ1 => (match body ρ1 with
      | .ok .nx ρ2 => forGo g body ds ρ2
      | .ok .ct ρ2 => forGo g body ds ρ2
      | .ok .bk ρ2 => .ok .nx ρ2
      | r => r)
def mFor (mi : M (List D)) (g : MT) (body : M Fl) : M Fl := fun ρ => bindR (mi ρ) fun ds ρ => forGo g body ds ρ
def whileGo (t : M Bool) (body : M Fl) : Nat → Env → Res Fl
  | 0, _ => .fail
  | n + 1, ρ => bindR (t ρ) fun k ρ1 => if k = true then (match body ρ1 with
      | .ok .nx ρ2 => whileGo t body n ρ2
      | .ok .ct ρ2 => whileGo t body n ρ2
      | .ok .bk ρ2 => .ok .nx ρ2
      | r => r) else .ok .nx ρ1
/-- a while of at most so many turns -/
def mWhile (n : Nat) (t : M Bool) (body : M Fl) : M Fl := whileGo t body n
section
variable {X : Cx} {E : XK} {pos : Pos} {tg iter e : Expr} {body : List Stmt} {mi : M (List D)} {g : MT} {is : List Nat} {b : M Fl} {t : M Bool}
theorem s_for (hp : PassesOwn (model X.prog X.w) X.A X.env X.xe) (hc : X.calm = true) (hi : PI X tg iter (iD X.K E mi)) (hg : PG X tg (tTG X.K is g)) (hb : PSs X body (tS X.K E b)) (hs : ∀ x, foldedSetIterable iter X.env x = pure x := by intro _; rfl) : PS X (.For tg iter body [] pos) (tS X.K E (mFor mi g b)) := by
  refine (ps_for hp hc hi hg hb hs).imp fun Dn σ H h => ?_
  obtain ⟨c, ρ, ⟨Z, r⟩, q⟩ := h
  refine ⟨c, Z, ρ, r, ?_⟩
  unfold mFor at q
  cases em : mi ρ with
  | fail => rw [em] at q; exact q
  | exc x l ρ1 => rw [em] at q; exact fun ed vs H' h1 h2 h3 h4 h5 => q σ ed vs H' ⟨Z, h1⟩ h3 h4 (Reps.zed h1.z0 _ _ h5)
  | ok ds ρ1 =>
    rw [em, bindR_ok] at q
    intro J ex H1 r1 e1 hex wk
    refine ⟨fun i m σ H => m = ds.length - i ∧ i ≤ ds.length ∧ ∃ ρ, RelS X.K (c.withEx ex) ρ σ H ∧ tSR X.K E c Dn (forGo g b (ds.drop i) ρ), ⟨_, rfl, Nat.zero_le _, ρ1, ⟨Z, r1.more hex⟩, q⟩, ?_⟩
    rintro i m σ2 H2 ⟨rfl, hi2, ρ2, ⟨Z2, r2⟩, q2⟩
    by_cases hlt : i < ds.length
    · refine .inr ?_
      have hd : ds[i]? = some ds[i] := List.getElem?_eq_getElem hlt
      obtain ⟨go, yl⟩ := wk.go H2 Z2 r2.dom r2.exs i ds[i] hd
      rw [List.drop_eq_getElem_cons hlt] at q2
      unfold forGo at q2
      cases eg : g ds[i] ρ2 with
      | none => rw [eg] at q2; exact q2.elim
      | some ρ3 =>
        rw [eg] at q2
        simp only at q2
        refine ⟨go, fun σ' H' => ∃ ρ, RelS X.K (c.withEx ex) ρ σ' H' ∧ tSR X.K E c Dn (forGo g b (ds.drop (i + 1)) ρ), fun σ' H' ⟨ρ', r', q'⟩ => ⟨ds.length - (i + 1), by omega, rfl, hlt, ρ', r', q'⟩, fun x H' y => ?_⟩
        obtain ⟨s3, rd⟩ := yl x H' y
        refine ⟨c.withEx ex, Z2, ρ2, ds[i], ρ3, r2.same s3, rd, eg, fun σ4 H4 r4 s4 _ => ⟨c.withEx ex, ρ3, ⟨Z2, r4⟩, ?_⟩⟩
        cases eb : b ρ3 with
        | fail => rw [eb] at q2; exact q2
        | exc x l ρ4 => rw [eb] at q2; exact fun σ ed vs H h1 h2 h3 h4 => q2 σ ed vs H h1.less h2 h3 h4
        | ok f ρ4 =>
          rw [eb] at q2
          cases f with
          | nx => exact fun σ H r => ⟨ρ4, r, q2⟩
          | ct => exact fun σ H r => ⟨ρ4, r, q2⟩
          | bk => exact fun σ H r => q2 σ H r.less
          | rt d => exact fun σ v H r hd => q2 σ v H r.less hd
    · have e0 : i = ds.length := by omega
      subst e0
      rw [List.drop_length] at q2
      exact .inl ⟨wk.stop H2 Z2 r2.exs, q2 σ2 H2 ⟨Z2, r2.less⟩⟩
theorem s_while (n : Nat) (hp : PassesOwn (model X.prog X.w) X.A X.env X.xe) (ht : PT X e (tT X.K E t)) (hb : PSs X body (tS X.K E b)) : PS X (.While e body [] pos) (tS X.K E (mWhile n t b)) := by
  refine (ps_while hp ht hb).imp fun Dn σ H h => ?_
  obtain ⟨c, ρ, r, q⟩ := h
  refine ⟨fun m σ H => ∃ ρ, RelS X.K c ρ σ H ∧ tSR X.K E c Dn (whileGo t b m ρ), ⟨n, ρ, r, q⟩, ?_⟩
  rintro m σ1 H1 ⟨ρ1, ⟨Z, r1⟩, q1⟩
  cases m with
  | zero => exact q1.elim
  | succ m =>
    unfold whileGo at q1
    refine ⟨c, Z, ρ1, r1, tSR.expr q1 fun k ρ2 k' H2 r2 hk q2 => ?_⟩
    cases (show k = k' from hk)
    cases k with
    | false => exact iteF (q2 σ1 H2 ⟨Z, r2⟩)
    | true =>
      rw [if_pos rfl] at q2
      refine iteT ⟨fun σ' H' => ∃ ρ, RelS X.K c ρ σ' H' ∧ tSR X.K E c Dn (whileGo t b m ρ), fun σ' H' ⟨ρ', r', q'⟩ => ⟨m, Nat.lt_succ_self m, ρ', r', q'⟩, c, ρ2, ⟨Z, r2⟩, ?_⟩
      cases eb : b ρ2 with
      | fail => rw [eb] at q2; exact q2
      | exc x l ρ4 => rw [eb] at q2; exact q2
      | ok f ρ4 =>
        rw [eb] at q2
        cases f with
        | nx => exact fun σ H r => ⟨ρ4, r, q2⟩
        | ct => exact fun σ H r => ⟨ρ4, r, q2⟩
        | bk => exact fun σ H r => q2 σ H r
        | rt d => exact fun σ v H r hd => q2 σ v H r hd
end
/-! ### comprehensions -/
def notOwn (ρ : Env) (i : Nat) : Bool := match ρ[i]? with
  | some (some (.own _)) => false
  | some (some (.inn _)) => false
  | _ => true
def wipeE (ρ : Env) : List Nat → Env
  | [] => ρ
  | v :: vs => (wipeE ρ vs).set v none
/-- the slots vs as in ρ, the others as in ρ' -/
def restore (ρ ρ' : Env) : List Nat → Env
  | [] => ρ'
  | v :: vs => (restore ρ ρ' vs).set v ((ρ[v]?).getD none)
def lcGo (vs : List Nat) (g : MT) (t : M Bool) (m : M D) : List D → Env → Res (List D)
  | [], ρ => .ok [] ρ
  | d :: ds, ρ => match g d (wipeE ρ vs) with
    | none => .fail
    | some ρ1 => bindR (t ρ1) fun k ρ2 => if k = true then bindR (m ρ2) fun y ρ3 => bindR (lcGo vs g t m ds (restore ρ ρ3 vs)) fun ys ρ4 => .ok (y :: ys) ρ4
      else lcGo vs g t m ds (restore ρ ρ2 vs)
def mLc (vs : List Nat) (mi : M (List D)) (g : MT) (t : M Bool) (m : M D) : M (List D) := fun ρ => bindR (mi ρ) fun ds ρ => if (vs.all (notOwn ρ) && decide (ds.length ≤ sizeLine)) = true then lcGo vs g t m ds ρ else .fail
def mTrue : M Bool := fun ρ => .ok true ρ
def mLcD (m : M (List D)) : M D := fun ρ => bindR (m ρ) fun l ρ => .ok (.lst l) ρ
def oLc (m : M (List D)) : M Ct := fun ρ => bindR (m ρ) fun l ρ => .ok (.lst l) ρ
section
variable {K : PySem.W.Frag} {c : Cz} {Z : Addr → Prop} {ρ ρ' : Env} {σ σ' : St} {H H' : Hp} {vs : List Nat}
theorem wipeE_len : ∀ vs : List Nat, (wipeE ρ vs).length = ρ.length
  | [] => rfl
  | v :: vs => by simp [wipeE, wipeE_len vs]
theorem Rel.wipe (r : Rel K c Z ρ σ H) : ∀ vs : List Nat, Rel K c Z (wipeE ρ vs) (L2.wipe σ vs) H
  | [] => r
  | v :: vs => by
    have r1 := (Rel.wipe r vs).drop v
    -- the slot itself is emptied too
    have at_ : ∀ {j : Nat} {w : W}, ((wipeE ρ vs).set v none)[j]? = some (some w) → ((L2.wipe σ vs).set v none)[j]? = (L2.wipe σ vs)[j]? := fun {j w} h => by
      by_cases e : v = j
      · subst e
        have hl : v < (wipeE ρ vs).length := by
          have := (List.getElem?_eq_some_iff.mp h).1
          simpa using this
        rw [List.getElem?_set_self hl] at h
        cases h
      · rw [List.getElem?_set_ne e]
    show Rel K c Z ((wipeE ρ vs).set v none) ((L2.wipe σ vs).set v none) H
    refine ⟨r1.frame, r1.keep, r1.base, by simp [r1.len], r1.dom, fun i d h => ?_, fun i t h => ?_, fun i t h => ?_, fun i j p hi hj h1 h2 => ?_, r1.xs, fun q hq => ?_⟩
    · obtain ⟨u, h1, h2⟩ := r1.val i d h
      exact ⟨u, by rw [at_ h]; exact h1, h2⟩
    · obtain ⟨p, h1, h2⟩ := r1.own i t h
      exact ⟨p, by rw [at_ h]; exact h1, h2⟩
    · obtain ⟨p, h1, h2⟩ := r1.inn i t h
      exact ⟨p, by rw [at_ h]; exact h1, h2⟩
    · obtain ⟨t, ht⟩ := id hi
      obtain ⟨u, hu⟩ := id hj
      rw [ht.elim at_ at_] at h1
      rw [hu.elim at_ at_] at h2
      exact r1.inj i j p hi hj h1 h2
    · obtain ⟨g1, g2, g3⟩ := r1.hd q hq
      refine ⟨g1, g2, fun j hj e => ?_⟩
      obtain ⟨t, ht⟩ := id hj
      rw [ht.elim at_ at_] at e
      exact g3 j hj e
theorem restore_at : ∀ (vs : List Nat) (j : Nat), ρ'.length = ρ.length → (restore ρ ρ' vs)[j]? = if j ∈ vs then ρ[j]? else ρ'[j]?
  | [], j, _ => by simp [restore]
  | v :: vs, j, hl => by
    have ih := restore_at vs j hl
    have len : ∀ vs, (restore ρ ρ' vs).length = ρ'.length := by
      intro vs
      induction vs with
      | nil => rfl
      | cons a r ih => simp [restore, ih]
    unfold restore
    by_cases e : v = j
    · subst e
      by_cases hv : v < ρ.length
      · rw [List.getElem?_set_self (by rw [len, hl]; exact hv), if_pos List.mem_cons_self, List.getElem?_eq_getElem hv]
        rfl
      · rw [if_pos List.mem_cons_self, List.getElem?_eq_none (by simp [len, hl]; omega), List.getElem?_eq_none (by omega)]
    · rw [List.getElem?_set_ne e, ih]
      have e2 : ¬ j = v := fun z => e z.symm
      simp [e2]
theorem restore_len : ∀ vs : List Nat, (restore ρ ρ' vs).length = ρ'.length
  | [] => rfl
  | v :: vs => by simp [restore, restore_len vs]
theorem wipe_at : ∀ (vs : List Nat) (j : Nat), j ∉ vs → (L2.wipe σ vs)[j]? = σ[j]?
  | [], j, _ => rfl
  | v :: vs, j, h => by
    simp only [List.mem_cons, not_or] at h
    show ((L2.wipe σ vs).set v none)[j]? = σ[j]?
    rw [List.getElem?_set_ne (Ne.symm h.1), wipe_at vs j h.2]
theorem notOwn_no {i : Nat} (h : notOwn ρ i = true) : ¬ isOwn ρ i := fun ⟨t, e⟩ => by
  unfold notOwn at h
  rcases e with e | e <;> (rw [e] at h; cases h)
/-- behind an item -/
theorem Rel.back (r : Rel K c Z ρ σ H) (r' : Rel K c Z ρ' σ' H') (hn : ∀ v ∈ vs, notOwn ρ v = true) (e : Ext Z H H') (o : ∀ j, j ∉ vs → σ'[j]? = σ[j]?) (hl : σ'.length = σ.length) : Rel K c Z (restore ρ ρ' vs) σ H' := by
  have hlen : ρ'.length = ρ.length := by rw [r'.len, r.len, hl]
  have at_ : ∀ j, (restore ρ ρ' vs)[j]? = if j ∈ vs then ρ[j]? else ρ'[j]? := fun j => restore_at vs j hlen
  have own' : ∀ j, isOwn (restore ρ ρ' vs) j → j ∉ vs ∧ isOwn ρ' j := fun j ⟨t, h⟩ => by
    rw [at_] at h
    by_cases hj : j ∈ vs
    · rw [if_pos hj] at h
      exact absurd ⟨t, h⟩ (notOwn_no (hn j hj))
    · rw [if_neg hj] at h
      exact ⟨hj, t, h⟩
  refine ⟨r'.frame, r'.keep, r'.base, by rw [restore_len, hlen, r.len], r'.dom, fun j d h => ?_, fun j t h => ?_, fun j t h => ?_, fun i j p hi hj h1 h2 => ?_, r'.xs, fun q hq => ?_⟩
  · rw [at_] at h
    by_cases hj : j ∈ vs
    · rw [if_pos hj] at h
      obtain ⟨v, h1, h2⟩ := r.val j d h
      exact ⟨v, h1, h2.ext e⟩
    · rw [if_neg hj] at h
      obtain ⟨v, h1, h2⟩ := r'.val j d h
      exact ⟨v, by rw [← o j hj]; exact h1, h2⟩
  · obtain ⟨hj, _⟩ := own' j ⟨t, .inl h⟩
    rw [at_, if_neg hj] at h
    obtain ⟨p, h1, h2⟩ := r'.own j t h
    exact ⟨p, by rw [← o j hj]; exact h1, h2⟩
  · obtain ⟨hj, _⟩ := own' j ⟨t, .inr h⟩
    rw [at_, if_neg hj] at h
    obtain ⟨p, h1, h2⟩ := r'.inn j t h
    exact ⟨p, by rw [← o j hj]; exact h1, h2⟩
  · obtain ⟨a1, a2⟩ := own' i hi
    obtain ⟨b1, b2⟩ := own' j hj
    rw [← o i a1] at h1
    rw [← o j b1] at h2
    exact r'.inj i j p a2 b2 h1 h2
  · obtain ⟨g1, g2, g3⟩ := r'.hd q hq
    refine ⟨g1, g2, fun j hj ej => ?_⟩
    obtain ⟨a1, a2⟩ := own' j hj
    rw [← o j a1] at ej
    exact g3 j a2 ej
end
end DL
set_option Elab.async false
set_option linter.all false
set_option maxRecDepth 100000
set_option maxHeartbeats 4000000
namespace DL
open PySem PySem.Spec PyProof.Rows L2
variable [CTab]
/-! ### a new list that no slot holds, while a comprehension runs -/
def Cz.withHid (c : Cz) (D : Addr) (t : Ct) : Cz := { c with hid := (D, t) :: c.hid }
section
variable {K : PySem.W.Frag} {c : Cz} {Z : Addr → Prop} {ρ ρ' : Env} {σ σ' : St} {H H' : Hp} {vs : List Nat} {D : Addr} {t t' : Ct}
theorem NewAt.hide (n : NewAt K c Z ρ σ H t D) : Rel K (c.withHid D t) Z ρ σ H :=
  ⟨n.rel.frame, n.rel.keep, n.rel.base, n.rel.len, n.rel.dom, n.rel.val, n.rel.own, n.rel.inn, n.rel.inj, n.rel.xs, fun q hq => by
    rcases List.mem_cons.mp hq with e | hq
    · subst e
      exact ⟨n.z, n.at_, n.no⟩
    · exact n.rel.hd q hq⟩
theorem Rel.hidAt (r : Rel K (c.withHid D t) Z ρ σ H) : Z D ∧ RepC K H Z t D ∧ ∀ j, isOwn ρ j → σ[j]? ≠ some (some (.ref D)) := r.hd (D, t) List.mem_cons_self
theorem Rel.unhide (r : Rel K (c.withHid D t) Z ρ σ H) : Rel K c Z ρ σ H :=
  ⟨r.frame, r.keep, r.base, r.len, r.dom, r.val, r.own, r.inn, r.inj, r.xs, fun q hq => r.hd q (List.mem_cons_of_mem _ hq)⟩
theorem Rel.showAt (r : Rel K (c.withHid D t) Z ρ σ H) (h0 : c.H0 D = none) (hn : ∀ q ∈ c.hid, q.1 ≠ D) : NewAt K c Z ρ σ H t D :=
  ⟨r.unhide, r.hidAt.1, h0, r.hidAt.2.1, r.hidAt.2.2, hn⟩
/-- the new thing alone has changed -/
theorem Rel.putHid (r : Rel K (c.withHid D t) Z ρ σ H) (h0 : c.H0 D = none) (hn : ∀ q ∈ c.hid, q.1 ≠ D) (hk : ∀ a o, a ≠ D → H a = some o → H' a = some o) (h' : RepC K H' Z t' D) : Rel K (c.withHid D t') Z ρ σ H' := by
  obtain ⟨hz, hc, ho⟩ := r.hidAt
  have e0 : Ext Z H H' := fun a o n e => hk a o (fun q => n (by rw [q]; exact hz)) e
  have alive : ∀ a, H' a = none → H a = none := fun a e => by
    cases q : H a with
    | none => rfl
    | some o =>
      by_cases ha : a = D
      · obtain ⟨o', ho⟩ := h'.some
        rw [ha, ho] at e
        cases e
      · rw [hk a o ha q] at e
        cases e
  have keepC : ∀ {q u}, q ≠ D → RepC K H Z u q → RepC K H' Z u q := fun {q u} hne hu => by
    obtain ⟨o, ho⟩ := hu.some
    exact hu.ext e0 (by rw [hk q o hne ho, ho])
  refine ⟨fun a o n e => ?_, fun a e => r.keep a (alive a e), r.base, r.len, fun a z e => r.dom a z (alive a e), fun j d hd => ?_, fun j u hu => ?_, fun j u hu => ?_, r.inj, fun q hq => (r.xs q hq).ext e0, fun q hq => ?_⟩
  · refine hk a o (fun q => ?_) (r.frame a o n e)
    subst q
    have e : c.H0 a = some o := e
    rw [h0] at e
    cases e
  · obtain ⟨v, q1, q2⟩ := r.val j d hd
    exact ⟨v, q1, q2.ext e0⟩
  · obtain ⟨q, q1, q2, q3, q4⟩ := r.own j u hu
    exact ⟨q, q1, q2, q3, keepC (fun e => ho j ⟨u, .inl hu⟩ (by rw [q1, e])) q4⟩
  · obtain ⟨q, q1, q2, q3, q4⟩ := r.inn j u hu
    exact ⟨q, q1, q2, q3, keepC (fun e => ho j ⟨u, .inr hu⟩ (by rw [q1, e])) q4⟩
  · rcases List.mem_cons.mp hq with e | hq
    · subst e
      exact ⟨hz, h', ho⟩
    · obtain ⟨g1, g2, g3⟩ := r.hd q (List.mem_cons_of_mem _ hq)
      exact ⟨g1, keepC (hn q hq) g2, g3⟩
/-- without D among what may change -/
theorem NewAt.frz (n : NewAt K c Z ρ σ H t D) {Y : Addr → Prop} (hY : ∀ a, Z a ↔ (Y a ∨ a = D)) (hD : ¬ Y D) : Rel K c Y ρ σ H ∧ Rep K H Y t.toD (.ref D) := by
  have r := n.rel
  have zs : ∀ a o, ¬ Z a → H a = some o → ¬ Y a := fun a o n _ y => n ((hY a).mpr (.inl y))
  refine ⟨⟨r.frame, r.keep, fun a z => ⟨?_, (r.base a z).2⟩, r.len, fun a z => r.dom a ((hY a).mpr (.inl z)), fun j d hd => ?_, fun j u hu => ?_, fun j u hu => ?_, r.inj, fun q hq => (r.xs q hq).zed zs, fun q hq => ?_⟩, ?_⟩
  · rcases (hY a).mp (r.base a z).1 with y | e
    · exact y
    · exact absurd n.new (by rw [← e]; exact (r.base a z).2)
  · obtain ⟨v, q1, q2⟩ := r.val j d hd
    exact ⟨v, q1, q2.zed zs⟩
  · obtain ⟨q, q1, q2, q3, q4⟩ := r.own j u hu
    refine ⟨q, q1, ((hY q).mp q2).resolve_right fun e => n.no j ⟨u, .inl hu⟩ (by rw [q1, e]), q3, q4.zed zs⟩
  · obtain ⟨q, q1, q2, q3, q4⟩ := r.inn j u hu
    refine ⟨q, q1, ((hY q).mp q2).resolve_right fun e => n.no j ⟨u, .inr hu⟩ (by rw [q1, e]), q3, q4.zed zs⟩
  · obtain ⟨g1, g2, g3⟩ := r.hd q hq
    exact ⟨((hY _).mp g1).resolve_right (n.nh q hq), g2.zed zs, g3⟩
  · obtain ⟨o, h1, h2⟩ := n.at_
    exact CtHO.toD hD h1 (h2.zed zs)
theorem wipe_len : ∀ vs : List Nat, (L2.wipe σ vs).length = σ.length
  | [] => rfl
  | v :: vs => by
    show ((L2.wipe σ vs).set v none).length = σ.length
    rw [List.length_set, wipe_len vs]
theorem wipe_get : ∀ (vs : List Nat) (j : Nat), (L2.wipe σ vs)[j]? = if j ∈ vs ∧ j < σ.length then some none else σ[j]?
  | [], j => by simp [L2.wipe]
  | v :: vs, j => by
    show ((L2.wipe σ vs).set v none)[j]? = _
    by_cases e : v = j
    · subst e
      by_cases hv : v < σ.length
      · rw [List.getElem?_set_self (by rw [wipe_len]; exact hv), if_pos ⟨List.mem_cons_self, hv⟩]
      · rw [if_neg (fun h => hv h.2), List.getElem?_eq_none (by simp [wipe_len]; omega), List.getElem?_eq_none (by omega)]
    · rw [List.getElem?_set_ne e, wipe_get vs j]
      have e2 : ¬ j = v := fun z => e z.symm
      simp [e2]
theorem wipe_eq (hl : σ'.length = σ.length) (h : ∀ j, j ∉ vs → σ'[j]? = σ[j]?) : L2.wipe σ' vs = L2.wipe σ vs := by
  apply List.ext_getElem?
  intro j
  rw [wipe_get, wipe_get, hl]
  by_cases hj : j ∈ vs
  · by_cases hlt : j < σ.length
    · simp [hj, hlt]
    · rw [if_neg (fun h => hlt h.2), if_neg (fun h => hlt h.2), List.getElem?_eq_none (by omega), List.getElem?_eq_none (by omega)]
  · simp [hj, h j hj]
end
/-! ### list comprehensions with one for -/
abbrev E0 : XK := fun _ _ _ => False
def noX {α : Type} : Res α → Res α
  | .exc _ _ _ => .fail
  | r => r
def lcIt (vs : List Nat) (g : MT) (t : M Bool) (m : M D) (d : D) (ρ : Env) : Res (Option D) := match g d (wipeE ρ vs) with
  | none => .fail
  | some ρ1 => (match t ρ1 with
    | .ok true ρ2 => (match m ρ2 with
      | .ok y ρ3 => .ok (some y) (restore ρ ρ3 vs)
      | _ => .fail)
    | .ok false ρ2 => .ok none (restore ρ ρ2 vs)
    | _ => .fail)
def lcs (f : D → Env → Res (Option D)) : List D → Env → Res (List D)
  | [], ρ => .ok [] ρ
  | d :: ds, ρ => match f d ρ with
    | .ok o ρ1 => (match lcs f ds ρ1 with
      | .ok ys ρ2 => .ok (match o with | some y => y :: ys | none => ys) ρ2
      | r => r)
    | _ => .fail
/-- the items of a comprehension -/
def mComp (vs : List Nat) (mi : M (List D)) (g : MT) (t : M Bool) (m : M D) : M (List D) := fun ρ => bindR (mi ρ) fun ds ρ => if (vs.all (notOwn ρ) && decide (ds.length ≤ sizeLine)) = true then lcs (lcIt vs g t m) ds ρ else .fail
section
variable {K : PySem.W.Frag} {c : Cz} {Z : Addr → Prop} {ρ ρ' : Env} {σ σ' : St} {H H' : Hp} {vs is : List Nat} {t : Ct} {mi : M (List D)} {g : MT} {tt : M Bool} {m : M D}
theorem notOwn_back (hl : ρ'.length = ρ.length) (h : ∀ v ∈ vs, notOwn ρ v = true) : ∀ v ∈ vs, notOwn (restore ρ ρ' vs) v = true := fun v hv => by
  have e : (restore ρ ρ' vs)[v]? = ρ[v]? := by rw [restore_at vs v hl, if_pos hv]
  have h := h v hv
  unfold notOwn at h ⊢
  rw [e]
  exact h
theorem lcs_len {f : D → Env → Res (Option D)} : ∀ {ds : List D} {ρ ρ' : Env} {ys : List D}, lcs f ds ρ = .ok ys ρ' → ys.length ≤ ds.length
  | [], ρ, ρ', ys, h => by cases h; exact Nat.le_refl _
  | d :: ds, ρ, ρ', ys, h => by
    unfold lcs at h
    split at h
    · rename_i o ρ1 e1
      split at h
      · rename_i zs ρ2 e2
        have := lcs_len e2
        cases h
        cases o <;> simp <;> omega
      · rename_i r hr
        exact absurd h (hr _ _)
    · cases h
theorem lcs_noexc {f : D → Env → Res (Option D)} {x : Nat} {l : List D} : ∀ {ds : List D} {ρ ρ' : Env}, lcs f ds ρ ≠ .exc x l ρ'
  | [], ρ, ρ', h => by cases h
  | d :: ds, ρ, ρ', h => by
    unfold lcs at h
    split at h
    · split at h
      · cases h
      · exact lcs_noexc h
    · cases h
theorem lc_gen {σ : St} {H : Hp} {Q : VK} {E : XK} (hg : ∀ j ∈ is, j ∈ vs)
    (h : ∃ c Z ρ, Rel K c Z ρ σ H ∧ match mComp vs mi g tt m ρ with
      | .fail => False
      | .exc x l ρ' => ∀ ed us H', Rel K c Z ρ' σ H' → Ext Z H H' → H' ed = some (.xd ((cF x).zip us)) → us.length ≤ (cF x).length → Reps K H' Z l us → E (.ref (He.ga K (cN x))) (some ed) H'
      | .ok l ρ' => ∀ D H1 H', H1 D = none → Ext Z H H1 → (∀ p, Z p → H1 p ≠ none) → NewAt K c (fun a => Z a ∨ a = D) ρ' σ H' (.lst l) D → Ext (fun a => Z a ∨ a = D) H1 H' → Q (.ref D) H') :
    tLc (iD K E mi) (tTG K is g) (tT K E0 tt) (tD K E0 m) vs σ H Q := by
  obtain ⟨c, Z, ρ, r, q⟩ := h
  refine ⟨c, Z, ρ, r, ?_⟩
  unfold mComp at q
  cases em : mi ρ with
  | fail => rw [em] at q; exact q
  | exc x l ρ1 => rw [em] at q; exact q
  | ok ds ρ1 =>
    rw [em, bindR_ok] at q
    intro J ex H1 r1 e1 hex wk D hD
    split at q
    · exact q.elim
    · rename_i x l ρ' hx
      exfalso
      split at hx
      · exact lcs_noexc hx
      · cases hx
    · rename_i l ρF hx
      split at hx
      · rename_i hb
        obtain ⟨hno, hlen⟩ := Bool.and_eq_true_iff.mp hb
        have hno : ∀ v ∈ vs, notOwn ρ1 v = true := by simpa using hno
        have hlen : ds.length ≤ sizeLine := of_decide_eq_true hlen
        have fin := fun H' => q D H1 H' hD e1 r1.dom
        clear q em
        have n0 := (r1.more hex).newAt (p := D) (o := .lst []) (t := .lst []) hD ⟨[], rfl, Reps.nil⟩
        refine ⟨fun i k H => k = ds.length - i ∧ i ≤ ds.length ∧ ∃ ys ρ zs, ys.length ≤ i ∧ Rel K ((c.withEx ex).withHid D (.lst ys)) (fun a => Z a ∨ a = D) ρ σ H ∧ Ext (fun a => Z a ∨ a = D) H1 H ∧ (∀ v ∈ vs, notOwn ρ v = true) ∧ lcs (lcIt vs g tt m) (ds.drop i) ρ = .ok zs ρF ∧ ys ++ zs = l,
          ⟨_, rfl, Nat.zero_le _, [], ρ1, l, Nat.zero_le _, n0.hide, fun a o nz e => by rw [upd_ne (fun z => nz (.inr z))]; exact e, hno, hx, rfl⟩, ?_⟩
        rintro i k H2 ⟨rfl, hi, ys, ρ2, zs, hys, r2, e2, hno2, hgo, hl⟩
        by_cases hlt : i < ds.length
        · refine .inr ?_
          have hd : ds[i]? = some ds[i] := List.getElem?_eq_getElem hlt
          obtain ⟨go, yl⟩ := wk.go H2 _ r2.dom (fun q hq => r2.xs q (List.mem_append_left _ hq)) i ds[i] hd
          rw [List.drop_eq_getElem_cons hlt] at hgo
          unfold lcs at hgo
          cases ef : lcIt vs g tt m ds[i] ρ2 with
          | fail => rw [ef] at hgo; cases hgo
          | exc _ _ _ => rw [ef] at hgo; cases hgo
          | ok o ρ3 =>
            rw [ef] at hgo
            simp only at hgo
            cases er : lcs (lcIt vs g tt m) (ds.drop (i + 1)) ρ3 with
            | fail => rw [er] at hgo; cases hgo
            | exc _ _ _ => rw [er] at hgo; cases hgo
            | ok ws ρ4 =>
              rw [er] at hgo
              simp only at hgo
              refine ⟨go, fun H' => ∃ ys', ys'.length ≤ i + 1 ∧ Rel K ((c.withEx ex).withHid D (.lst ys')) (fun a => Z a ∨ a = D) ρ3 σ H' ∧ Ext (fun a => Z a ∨ a = D) H1 H' ∧ (∀ v ∈ vs, notOwn ρ3 v = true) ∧ ys' ++ ws = l,
                fun H' ⟨ys', k1, k2, k3, k4, k5⟩ => ⟨ds.length - (i + 1), by omega, rfl, hlt, ys', ρ3, ws, k1, k2, k3, k4, by rw [er]; cases hgo; rfl, k5⟩, fun x H' y => ?_⟩
              obtain ⟨s3, rd⟩ := yl x H' y
              unfold lcIt at ef
              split at ef
              · cases ef
              · rename_i ρg hgd
                refine ⟨_, _, _, _, ρg, (r2.same s3).wipe vs, rd, hgd, fun σ4 H4 r4 s4 o4 => ?_⟩
                have out4 : ∀ j, j ∉ vs → σ4[j]? = σ[j]? := fun j hj => (o4.2 j fun z => hj (hg j z)).trans (wipe_at vs j hj)
                have len4 : σ4.length = σ.length := by rw [o4.1, wipe_len]
                refine ⟨(wipe_eq len4 out4), _, _, _, r4, ?_⟩
                split at ef
                · rename_i ρt ht
                  rw [ht]
                  intro b H5 r5 e5 hb5
                  cases (show true = b from hb5)
                  rw [if_pos rfl]
                  refine ⟨_, _, _, r5, ?_⟩
                  split at ef
                  · rename_i yv ρy hy
                    rw [hy]
                    intro v H6 r6 e6 hv
                    cases ef
                    have ex6 : Ext (fun a => Z a ∨ a = D) H2 H6 := ((Ext.same s3).trans (Ext.same s4)).trans (e5.trans e6)
                    have rb := Rel.back (r2) r6 hno2 ex6 out4 len4
                    obtain ⟨hz, ⟨o, ho, us, rfl, hus⟩, _⟩ := r6.hidAt
                    refine ⟨us, ho, by rw [← hus.len]; omega, ys ++ [yv], by simp; omega, rb.putHid n0.new n0.nh (fun a o ne e => by rw [upd_ne ne]; exact e) ⟨_, upd_same, _, rfl, ?_⟩, ?_, notOwn_back (by rw [r6.len, r2.len, len4]) hno2, ?_⟩
                    · have ex7 : Ext (fun a => Z a ∨ a = D) H6 (upd H6 D (.lst (us ++ [v]))) := fun a o nz e => by rw [upd_ne (fun z => nz (.inr z))]; exact e
                      exact (Reps.ext ex7 _ _ hus).app (Reps.one (Rep.ext ex7 _ _ hv))
                    · exact e2.trans (ex6.trans fun a o nz e => by rw [upd_ne (fun z => nz (.inr z))]; exact e)
                    · cases hgo
                      rw [← hl]
                      simp
                  · cases ef
                · rename_i ρt ht
                  rw [ht]
                  intro b H5 r5 e5 hb5
                  cases (show false = b from hb5)
                  rw [if_neg (by decide)]
                  cases ef
                  have ex6 : Ext (fun a => Z a ∨ a = D) H2 H5 := ((Ext.same s3).trans (Ext.same s4)).trans e5
                  refine ⟨ys, by omega, Rel.back r2 r5 hno2 ex6 out4 len4, e2.trans ex6, notOwn_back (by rw [r5.len, r2.len, len4]) hno2, ?_⟩
                  cases hgo
                  rw [← hl]
                · cases ef
        · have e0 : i = ds.length := by omega
          subst e0
          rw [List.drop_length] at hgo
          cases hgo
          rw [List.append_nil] at hl
          subst hl
          have rl : Rel K (c.withHid D (.lst ys)) (fun a => Z a ∨ a = D) _ σ H2 := ⟨r2.frame, r2.keep, r2.base, r2.len, r2.dom, r2.val, r2.own, r2.inn, r2.inj, fun q hq => r2.xs q (List.mem_append_right _ hq), r2.hd⟩
          exact .inl ⟨wk.stop H2 _ (fun q hq => r2.xs q (List.mem_append_left _ hq)), fin H2 (rl.showAt n0.new n0.nh) e2⟩
      · cases hx
end
end DL
set_option Elab.async false
set_option linter.all false
set_option maxRecDepth 100000
set_option maxHeartbeats 4000000
namespace DL
open PySem PySem.Spec PyProof.Rows L2
variable [CTab]
section
variable {X : Cx} {E : XK} {pos spos py : Pos} {elt tg iter e : Expr} {ifs : List Expr} {scope : Scope} {own : List (Str × Nat)} {vs is : List Nat} {mi : M (List D)} {g : MT} {t : M Bool} {m : M D} {y : Str}
theorem ts_nil : PTs X [] (tT X.K E mTrue) := ⟨fun pins s σ H Q I h => pts_nil.run pins s σ H Q I (by
  obtain ⟨c, Z, ρ, r, q⟩ := h
  exact q true H r Ext.refl rfl)⟩
theorem ts_one (h : PT X e (tT X.K E t)) : PTs X [e] (tT X.K E t) := pts_one h
theorem ext_or {Z : Addr → Prop} {D : Addr} {H H' : Hp} (e : Ext (fun a => Z a ∨ a = D) H H') (h : H D = none) : Ext Z H H' := fun a o nz ea => e a o (fun z => z.elim nz fun q => by rw [q, h] at ea; cases ea) ea
theorem lcD {K : PySem.W.Frag} {σ : St} {H : Hp} {Q : VK} (hg : ∀ j ∈ is, j ∈ vs) (h : tD K E (mLcD (mComp vs mi g t m)) σ H Q) : tLc (iD K E mi) (tTG K is g) (tT K E0 t) (tD K E0 m) vs σ H Q := by
  obtain ⟨c, Z, ρ, r, q⟩ := h
  refine lc_gen hg ⟨c, Z, ρ, r, ?_⟩
  unfold mLcD at q
  cases ec : mComp vs mi g t m ρ with
  | fail => rw [ec] at q; exact q
  | exc x l ρ' => rw [ec] at q; exact q
  | ok l ρ' =>
    rw [ec] at q
    intro D H1 H' hD e1 hz n e2
    have hnz : ¬ Z D := fun z => hz D z hD
    obtain ⟨r', rp⟩ := n.frz (Y := Z) (fun a => Iff.rfl) hnz
    exact q (.ref D) H' r' (e1.trans (ext_or e2 hD)) rp
theorem lcO {K : PySem.W.Frag} {σ : St} {H : Hp} {Q : VK} (hg : ∀ j ∈ is, j ∈ vs) (h : tO K E (oLc (mComp vs mi g t m)) σ H Q) : tLc (iD K E mi) (tTG K is g) (tT K E0 t) (tD K E0 m) vs σ H Q := by
  obtain ⟨c, Z, ρ, r, q⟩ := h
  refine lc_gen hg ⟨c, Z, ρ, r, ?_⟩
  unfold oLc at q
  cases ec : mComp vs mi g t m ρ with
  | fail => rw [ec] at q; exact q
  | exc x l ρ' => rw [ec] at q; exact fun ed us H' h1 h2 h3 h4 h5 => q ed us H' h1 h3 h4 h5
  | ok l ρ' =>
    rw [ec] at q
    exact fun D H1 H' hD e1 hz n e2 => q D _ H' n fun d v hd => ((hd.ext e1).zed fun a u nz e z => z.elim nz fun q => by rw [q, hD] at e; cases e).ext e2
/-- [elt for tg in iter if ..] -/
theorem d_lc (own : List (Str × Nat)) (hc : X.calm = true) (hN : X.N.Nodup) (ok : BlkOk X.N X.env.scope scope own) (hg0 : ∀ j ∈ is, j ∈ own.map (·.2)) (hi : PI X tg iter (iD X.K E mi))
    (hg : ∀ (s : Shared) (H : Hp) (C : Addr) (cl : List (Str × Addr)) (fp : List Addr), PG (X.blk s H scope (compEnvC scope cl C X.env) fp) tg (tTG X.K is g)) (ht : ∀ (s : Shared) (H : Hp) (C : Addr) (cl : List (Str × Addr)) (fp : List Addr), PTs (X.blk s H scope (compEnvC scope cl C X.env) fp) ifs (tT X.K E0 t))
    (he : ∀ (s : Shared) (H : Hp) (C : Addr) (cl : List (Str × Addr)) (fp : List Addr), PE (X.blk s H scope (compEnvC scope cl C X.env) fp) elt (tD X.K E0 m)) (hs : ∀ x, foldedSetIterable iter X.env x = pure x := by intro _; rfl) :
    PE X (.ListComp elt [⟨tg, iter, ifs, 0⟩] scope pos) (tD X.K E (mLcD (mComp (own.map (·.2)) mi g t m))) :=
  (pe_lc hc hN hi ok hg ht he hs).imp fun _ _ _ h => lcD hg0 h
theorem o_lc (own : List (Str × Nat)) (hc : X.calm = true) (hN : X.N.Nodup) (ok : BlkOk X.N X.env.scope scope own) (hg0 : ∀ j ∈ is, j ∈ own.map (·.2)) (hi : PI X tg iter (iD X.K E mi))
    (hg : ∀ (s : Shared) (H : Hp) (C : Addr) (cl : List (Str × Addr)) (fp : List Addr), PG (X.blk s H scope (compEnvC scope cl C X.env) fp) tg (tTG X.K is g)) (ht : ∀ (s : Shared) (H : Hp) (C : Addr) (cl : List (Str × Addr)) (fp : List Addr), PTs (X.blk s H scope (compEnvC scope cl C X.env) fp) ifs (tT X.K E0 t))
    (he : ∀ (s : Shared) (H : Hp) (C : Addr) (cl : List (Str × Addr)) (fp : List Addr), PE (X.blk s H scope (compEnvC scope cl C X.env) fp) elt (tD X.K E0 m)) (hs : ∀ x, foldedSetIterable iter X.env x = pure x := by intro _; rfl) :
    PE X (.ListComp elt [⟨tg, iter, ifs, 0⟩] scope pos) (tO X.K E (oLc (mComp (own.map (·.2)) mi g t m))) :=
  (pe_lc hc hN hi ok hg ht he hs).imp fun _ _ _ h => lcO hg0 h
/-- y = [..], y a local, all on one line -/
theorem s_setLc (i : Nat) (own : List (Str × Nat)) (hc : X.calm = true) (hN : X.N.Nodup) (ok : BlkOk X.N X.env.scope scope own) (hg0 : ∀ j ∈ is, j ∈ own.map (·.2)) (hi : PI X tg iter (iD X.K E mi))
    (hg : ∀ (s : Shared) (H : Hp) (C : Addr) (cl : List (Str × Addr)) (fp : List Addr), PG (X.blk s H scope (compEnvC scope cl C X.env) fp) tg (tTG X.K is g)) (ht : ∀ (s : Shared) (H : Hp) (C : Addr) (cl : List (Str × Addr)) (fp : List Addr), PTs (X.blk s H scope (compEnvC scope cl C X.env) fp) ifs (tT X.K E0 t))
    (he : ∀ (s : Shared) (H : Hp) (C : Addr) (cl : List (Str × Addr)) (fp : List Addr), PE (X.blk s H scope (compEnvC scope cl C X.env) fp) elt (tD X.K E0 m)) (hs : ∀ x, foldedSetIterable iter X.env x = pure x := by intro _; rfl)
    (hy : X.N[i]? = some y := by rfl) (hyl : X.env.scope.names.lookup y = some .local := by rfl) (hsw : swapsWith (.ListComp elt [⟨tg, iter, ifs, 0⟩] scope pos) (some (.Name y py)) spos.line X.env = pure true := by exact sw_true rfl rfl rfl (by decide +kernel)) :
    PS X (.Assign [.Name y py] (.ListComp elt [⟨tg, iter, ifs, 0⟩] scope pos) spos) (tS X.K E (mSet i (mLcD (mComp (own.map (·.2)) mi g t m)))) := by
  refine (ps_setLc hc hN hy hyl hsw hi ok hg ht he hs).imp fun Dn σ H h => ?_
  obtain ⟨c, ρ, ⟨Z, r⟩, q⟩ := h
  exact lcD hg0 ⟨c, Z, ρ, r, tSR.expr (k := fun d ρ => .ok .nx (ρ.set i (some (.val d)))) q fun d ρ1 v H1 r1 h1 q1 => q1 _ _ ⟨Z, r1.set h1⟩⟩
theorem s_setLcO (i : Nat) (own : List (Str × Nat)) (hc : X.calm = true) (hN : X.N.Nodup) (ok : BlkOk X.N X.env.scope scope own) (hg0 : ∀ j ∈ is, j ∈ own.map (·.2)) (hi : PI X tg iter (iD X.K E mi))
    (hg : ∀ (s : Shared) (H : Hp) (C : Addr) (cl : List (Str × Addr)) (fp : List Addr), PG (X.blk s H scope (compEnvC scope cl C X.env) fp) tg (tTG X.K is g)) (ht : ∀ (s : Shared) (H : Hp) (C : Addr) (cl : List (Str × Addr)) (fp : List Addr), PTs (X.blk s H scope (compEnvC scope cl C X.env) fp) ifs (tT X.K E0 t))
    (he : ∀ (s : Shared) (H : Hp) (C : Addr) (cl : List (Str × Addr)) (fp : List Addr), PE (X.blk s H scope (compEnvC scope cl C X.env) fp) elt (tD X.K E0 m)) (hs : ∀ x, foldedSetIterable iter X.env x = pure x := by intro _; rfl)
    (hy : X.N[i]? = some y := by rfl) (hyl : X.env.scope.names.lookup y = some .local := by rfl) (hsw : swapsWith (.ListComp elt [⟨tg, iter, ifs, 0⟩] scope pos) (some (.Name y py)) spos.line X.env = pure true := by exact sw_true rfl rfl rfl (by decide +kernel)) :
    PS X (.Assign [.Name y py] (.ListComp elt [⟨tg, iter, ifs, 0⟩] scope pos) spos) (tS X.K E (mSetO i (oLc (mComp (own.map (·.2)) mi g t m)))) := by
  refine (ps_setLc hc hN hy hyl hsw hi ok hg ht he hs).imp fun Dn σ H h => ?_
  obtain ⟨c, ρ, ⟨Z, r⟩, q⟩ := h
  refine lcO hg0 ⟨c, Z, ρ, r, ?_⟩
  unfold mSetO at q
  cases em : oLc (mComp (own.map (·.2)) mi g t m) ρ with
  | fail => rw [em] at q; exact q
  | exc x l ρ1 => rw [em] at q; exact fun ed vs H' h1 h3 h4 h5 => q σ ed vs H' ⟨Z, h1⟩ h3 h4 (Reps.zed h1.z0 _ _ h5)
  | ok t ρ1 =>
    rw [em] at q
    exact fun p Z' H' n _ => q _ _ ⟨Z', n.set i⟩
end
end DL
set_option Elab.async false
set_option linter.all false
set_option maxRecDepth 100000
set_option maxHeartbeats 4000000
namespace DL
open PySem PySem.Spec PyProof.Rows L2
variable [CTab]
/-! ### a def by its body -/
def startE (n : Nat) (ws : List W) : Env := ws.map some ++ List.replicate (n - ws.length) none
/-- what became of the things handed in -/
def outsE (ρ : Env) : List W → Nat → Option (List Ct)
  | [], _ => some []
  | .inn _ :: ws, i => match ρ[i]? with
    | some (some (.inn t)) => (outsE ρ ws (i + 1)).map (t :: ·)
    | _ => none
  | _ :: ws, i => outsE ρ ws (i + 1)
def finE (d : D) (ρ : Env) (ws : List W) : FR := match outsE ρ ws 0 with
  | some ts => .ok d ts
  | none => .fail
/-- x: it may raise -/
def runF (n : Nat) (x : Bool) (m : M Fl) : FD := fun ws => match m (startE n ws) with
  | .ok .nx ρ => finE .non ρ ws
  | .ok (.rt d) ρ => finE d ρ ws
  | .exc c l _ => if x = true then .exc c l else .fail
  | _ => .fail
def inP : List W → List V → Nat → Option Addr
  | .inn _ :: _, .ref p :: _, 0 => some p
  | _ :: ws, _ :: vs, i + 1 => inP ws vs i
  | _, _, _ => none
section
variable {K : PySem.W.Frag} {H : Hp} {Z : Addr → Prop}
theorem inP_mem : ∀ {ws : List W} {vs : List V} {i : Nat} {p : Addr}, inP ws vs i = some p → p ∈ inAd ws vs := by
  intro ws
  induction ws with
  | nil => intro vs i p h; simp [inP] at h
  | cons w ws ih =>
    intro vs i p h
    cases vs with
    | nil => cases w <;> simp [inP] at h
    | cons v vs =>
      cases i with
      | zero =>
        cases w <;> cases v <;> simp [inP] at h
        subst h
        simp [inAd]
      | succ i =>
        have h2 : inP ws vs i = some p := by
          cases w <;> simpa [inP] using h
        have := ih h2
        cases w <;> cases v <;> simp [inAd, this]
theorem inP_inj : ∀ {ws : List W} {vs : List V} {i j : Nat} {p : Addr}, (inAd ws vs).Nodup → inP ws vs i = some p → inP ws vs j = some p → i = j := by
  intro ws
  induction ws with
  | nil => intro vs i j p _ h; simp [inP] at h
  | cons w ws ih =>
    intro vs i j p nd hi hj
    cases vs with
    | nil => cases w <;> simp [inP] at hi
    | cons v vs =>
      have step : ∀ {k}, inP (w :: ws) (v :: vs) (k + 1) = inP ws vs k := by
        intro k
        cases w <;> simp [inP]
      cases i with
      | zero =>
        cases j with
        | zero => rfl
        | succ j =>
          rw [step] at hj
          cases w <;> cases v <;> simp [inP] at hi
          subst hi
          simp only [inAd, List.nodup_cons] at nd
          exact absurd (inP_mem hj) nd.1
      | succ i =>
        have nd2 : (inAd ws vs).Nodup := by
          cases w <;> cases v <;> simp [inAd] at nd <;> first | exact nd | exact nd.2
        cases j with
        | zero =>
          rw [step] at hi
          cases w <;> cases v <;> simp [inP] at hj
          subst hj
          simp only [inAd, List.nodup_cons] at nd
          exact absurd (inP_mem hi) nd.1
        | succ j =>
          rw [step] at hi hj
          rw [ih nd2 hi hj]
theorem repWs_get : ∀ {ws : List W} {vs : List V} {i : Nat} {w : W}, RepWs K H Z ws vs → ws[i]? = some w → (∃ d v, w = .val d ∧ vs[i]? = some v ∧ Rep K H Z d v) ∨ (∃ t p, w = .inn t ∧ vs[i]? = some (.ref p) ∧ Z p ∧ RepC K H Z t p ∧ inP ws vs i = some p)
  | [], vs, i, w, h, e => by simp at e
  | .val d :: ws, vs, i, w, h, e => by
    obtain ⟨v, r, e1, h1, h2⟩ := h
    subst e1
    cases i with
    | zero =>
      simp only [List.getElem?_cons_zero, Option.some.injEq] at e
      exact .inl ⟨d, v, e.symm, rfl, h1⟩
    | succ i =>
      simp only [List.getElem?_cons_succ] at e
      rcases repWs_get h2 e with q | ⟨t, p, q1, q2, q3, q4, q5⟩
      · exact .inl (by simpa using q)
      · exact .inr ⟨t, p, q1, by simpa using q2, q3, q4, by simpa [inP] using q5⟩
  | .inn t :: ws, vs, i, w, h, e => by
    obtain ⟨p, r, e1, h0, h1, h2⟩ := h
    subst e1
    cases i with
    | zero =>
      simp only [List.getElem?_cons_zero, Option.some.injEq] at e
      exact .inr ⟨t, p, e.symm, rfl, h0, h1, by simp [inP]⟩
    | succ i =>
      simp only [List.getElem?_cons_succ] at e
      rcases repWs_get h2 e with q | ⟨t, p, q1, q2, q3, q4, q5⟩
      · exact .inl (by simpa using q)
      · exact .inr ⟨t, p, q1, by simpa using q2, q3, q4, by simpa [inP] using q5⟩
  | .own _ :: ws, vs, i, w, h, e => h.elim
theorem startE_get {n : Nat} {ws : List W} {i : Nat} {w : W} (h : (startE n ws)[i]? = some (some w)) : ws[i]? = some w := by
  unfold startE at h
  by_cases hi : i < ws.length
  · rw [List.getElem?_append_left (by simpa using hi), List.getElem?_map] at h
    simpa using h
  · rw [List.getElem?_append_right (by simpa using Nat.le_of_not_lt hi)] at h
    rw [List.getElem?_replicate] at h
    split at h <;> simp at h
theorem start_get {N : List Str} {vs : List V} {i : Nat} {v : V} (h : vs[i]? = some v) : (start N vs)[i]? = some (some v) := by
  unfold L2.start
  have hi := (List.getElem?_eq_some_iff.mp h).1
  rw [List.getElem?_append_left (by simpa using hi), List.getElem?_map, h]
  rfl
def startCz (ws : List W) (vs : List V) (H : Hp) (Z : Addr → Prop) : Cz := ⟨inP ws vs, H, Z, [], []⟩
theorem rel_start {N : List Str} {ws : List W} {vs : List V} (hz : ∀ p, Z p → H p ≠ none) (hr : RepWs K H Z ws vs) (nd : (inAd ws vs).Nodup) : Rel K (startCz ws vs H Z) Z (startE N.length ws) (start N vs) H where
  frame := fun a o _ e => e
  keep := fun a e => e
  base := fun a z => ⟨z, hz a z⟩
  len := by simp [startE, L2.start, hr.len]
  dom := hz
  val := fun i d e => by
    rcases repWs_get hr (startE_get e) with ⟨d', v, e1, h1, h2⟩ | ⟨t, p, e1, _⟩
    · cases e1
      exact ⟨v, start_get h1, h2⟩
    · cases e1
  own := fun i t e => by
    rcases repWs_get hr (startE_get e) with ⟨d', v, e1, h1, h2⟩ | ⟨t, p, e1, _⟩ <;> cases e1
  inn := fun i t e => by
    rcases repWs_get hr (startE_get e) with ⟨d', v, e1, h1, h2⟩ | ⟨t, p, e1, h1, h2, h3, h4⟩
    · cases e1
    · cases e1
      exact ⟨p, start_get h1, h2, h4, h3⟩
  inj := fun i j p hi hj h1 h2 => by
    have at_ : ∀ k, isOwn (startE N.length ws) k → (start N vs)[k]? = some (some (.ref p)) → inP ws vs k = some p := fun k ⟨t, h⟩ hs => by
      rcases h with h | h
      · rcases repWs_get hr (startE_get h) with ⟨d', v, e1, _⟩ | ⟨t, p, e1, _⟩ <;> cases e1
      · rcases repWs_get hr (startE_get h) with ⟨d', v, e1, _⟩ | ⟨t, q, e1, g1, g2, g3, g4⟩
        · cases e1
        · rw [start_get g1] at hs
          cases hs
          exact g4
    exact inP_inj nd (at_ i hi h1) (at_ j hj h2)
  xs := fun q hq => by cases hq
  hd := fun q hq => by cases hq
theorem outs_rep {c : Cz} {Z' : Addr → Prop} {σ : St} {H' : Hp} {ρ : Env} (r : Rel K c Z' ρ σ H') : ∀ {ws : List W} {vs : List V} {ts : List Ct} {k : Nat}, RepWs K H Z ws vs → (∀ i, inP ws vs i = c.P (k + i)) → outsE ρ ws k = some ts → RepCs K H' c.Z0 ts (inAd ws vs)
  | [], vs, ts, k, h, hp, e => by
    cases (show vs = [] from h)
    cases e
    rfl
  | .val d :: ws, vs, ts, k, h, hp, e => by
    obtain ⟨v, q, e1, h1, h2⟩ := h
    subst e1
    have h0 : inAd (.val d :: ws) (v :: q) = inAd ws q := by simp [inAd]
    rw [h0]
    exact outs_rep r h2 (fun i => by have := hp (i + 1); simp only [inP] at this; rw [this]; congr 1; omega) (show outsE ρ ws (k + 1) = some ts from e)
  | .inn t :: ws, vs, ts, k, h, hp, e => by
    obtain ⟨p, q, e1, h0, h1, h2⟩ := h
    subst e1
    show RepCs K H' c.Z0 ts (p :: inAd ws q)
    unfold outsE at e
    split at e
    · rename_i t' ht
      cases e2 : outsE ρ ws (k + 1) with
      | none => rw [e2] at e; cases e
      | some ts' =>
        rw [e2] at e
        cases e
        obtain ⟨p', g1, g2, g3, g4⟩ := r.inn k t' ht
        have hp0 : c.P k = some p := by
          have := hp 0
          simp only [inP, Nat.add_zero] at this
          exact this.symm
        rw [hp0] at g3
        cases g3
        exact ⟨p, _, rfl, g4.zed r.z0, outs_rep r h2 (fun i => by have := hp (i + 1); simp only [inP] at this; rw [this]; congr 1; omega) e2⟩
    · cases e
  | .own _ :: ws, vs, ts, k, h, hp, e => h.elim
/-- the promise leads to the body's reading -/
theorem run_core {N : List Str} {n : Nat} {x : Bool} {m : M Fl} {vs : List V} {Q : VK} {E : XK} {E' : XK} (hE : x = true → E' = E) (h : spF K n (runF N.length x m) vs H Q E) : tS K E' m { nx := fun _ H' => Q .non H', rt := Q } (start N vs) H := by
  obtain ⟨Z, ws, hl, hz, hr, nd, h⟩ := h
  refine ⟨startCz ws vs H Z, startE N.length ws, ⟨Z, rel_start hz hr nd⟩, ?_⟩
  have fr : ∀ {σ' H' ρ'}, RelS K (startCz ws vs H Z) ρ' σ' H' → ∀ a o, a ∉ inAd ws vs → H a = some o → H' a = some o := fun ⟨Z', r⟩ a o ha e => r.frame a o (fun i hi => ha (inP_mem hi)) e
  unfold runF at h
  cases em : m (startE N.length ws) with
  | fail => rw [em] at h; exact h
  | exc c l ρ =>
    rw [em] at h
    simp only at h
    split at h
    · exact h.elim
    · rename_i he
      split at he <;> cases he
    · rename_i c' l' he
      split at he
      · rename_i hx
        cases he
        rw [hE hx]
        exact fun σ ed us H' r h1 h2 h3 => h ed us H' (fr r) h1 h2 h3
      · cases he
  | ok f ρ =>
    rw [em] at h
    have fin : ∀ {d : D} {v : V} {σ' H'}, (match finE d ρ ws with
        | .fail => False
        | .ok d ts => ∀ v H', (∀ a o, a ∉ inAd ws vs → H a = some o → H' a = some o) → RepCs K H' Z ts (inAd ws vs) → Rep K H' Z d v → Q v H'
        | .exc c l => ∀ ed us H', (∀ a o, a ∉ inAd ws vs → H a = some o → H' a = some o) → H' ed = some (.xd ((cF c).zip us)) → us.length ≤ (cF c).length → Reps K H' Z l us → E (.ref (He.ga K (cN c))) (some ed) H') →
        RelS K (startCz ws vs H Z) ρ σ' H' → Rep K H' Z d v → Q v H' := by
      intro d v σ' H' h r hd
      unfold finE at h
      cases eo : outsE ρ ws 0 with
      | none => rw [eo] at h; exact h.elim
      | some ts =>
        rw [eo] at h
        have f := fr r
        obtain ⟨Z', r⟩ := r
        exact h v H' f (outs_rep r hr (fun i => by rw [Nat.zero_add]; rfl) eo) hd
    cases f with
    | nx => exact fun σ' H' r => fin h r rfl
    | rt d => exact fun σ' v H' r hd => fin h r hd
    | bk => exact h.elim
    | ct => exact h.elim
end
section
variable {P : Program} {w : World} {K : PySem.W.Frag} {mg : Str → Option Value} {base : Heap} {x qual : Str} {params : Arguments} {body : List Stmt} {scope : Scope} {f : Addr} {fd : FuncData} {N ps : List Str} {k : Nat} {m : M Fl} {kws : List (Str × V)} {dvs : List V}
/-- a def that raises nothing -/
theorem fn_ok (F : FunD K x qual params body scope dvs kws f fd) (S : FnScope N ps scope)
    (hb : ∀ (cdv : Value) (A : Around) (outer : List PySem.Env) (s : Shared) (H : Hp) (E : XK), Room k (A.deeper (envOfC qual scope s.heap.objs.size f cdv)) → PSs (cxOf CX0 P w K mg base N qual scope f cdv A outer s H E).nox body (tS K E0 m)) :
    FnOk P w K mg base CX0 (k + 1) f fd ps (spF K ps.length (runF N.length false m)) :=
  F.ok S spF_len fun cdv A outer s H vs Q E hr h => ⟨_, PSs.nox (hb cdv A outer s H E hr), run_core (fun e => by cases e) h⟩
/-- a def that may raise -/
theorem fn_okX {CX : CXT} (F : FunD K x qual params body scope dvs kws f fd) (S : FnScope N ps scope)
    (hb : ∀ (cdv : Value) (A : Around) (outer : List PySem.Env) (s : Shared) (H : Hp) (E : XK), Room k (A.deeper (envOfC qual scope s.heap.objs.size f cdv)) → PSs (cxOf CX P w K mg base N qual scope f cdv A outer s H E) body (tS K E m)) :
    FnOk P w K mg base CX (k + 1) f fd ps (spF K ps.length (runF N.length true m)) :=
  F.ok S spF_len fun cdv A outer s H vs Q E hr h => ⟨_, hb cdv A outer s H E hr, run_core (fun _ => rfl) h⟩
end
end DL
set_option Elab.async false
set_option linter.all false
set_option maxRecDepth 100000
set_option maxHeartbeats 4000000
/-! ### the truth of an object by the text's own __bool__ -/
namespace OB
open PySem PySem.Spec PyProof.Rows L2
section
variable {X : Cx} {CX : CXT} {n : Nat} {C f : Addr} {fd : FuncData} {ps : List Str} {sp : Sp} {E : XK}
theorem truthy_ref {M : Model} {A : Around} {a : Addr} {Q : Bool → Shared → Prop} {E : Value → Shared → Prop} {s : Shared} (h : wpAny M A (callSpecial? (.ref a) "__bool__" []) (fun r s' => ∃ b, r = some (.bool b) ∧ Q b s') E s) : wpAny M A (truthy (.ref a)) Q E s := by
  unfold truthy
  first
    | exact wpAny_bind (wpAny_mono h (fun r s' h' => by obtain ⟨b, rfl, q⟩ := h'; exact wpAny_pure q) fun _ _ x => x)
    | exact wpAny_bind (wpAny_pure (wpAny_bind (wpAny_mono h (fun r s' h' => by obtain ⟨b, rfl, q⟩ := h'; exact wpAny_pure q) fun _ _ x => x)))
theorem truthy_at (F : FnOk X.prog X.w X.K X.mg X.base CX n f fd ps sp) (hs : PySem.W.findIn X.K (.ref C) "__bool__" = some (some (.ref f))) (hf : PySem.W.isFn X.K (.ref f) = true) (hb : Binds X.K fd ps []) (hx : Passes CX X E)
    {A : Around} {pins : List (Addr × Obj)} {σ : L2.St} {H : Hp} {s : Shared} {a dx : Addr} {fs : List (Str × V)} {Q : Bool → Hp → Prop} (sb : Sub X n A) (I : Inv X pins σ H s) (ha : H a = some (.ins C dx fs))
    (h : sp [.ref a] H (fun v H' => ∃ b, v = .bl b ∧ Q b H') E) : wpAny (model X.prog X.w) A (truthy (.ref a)) (fun b s' => ∃ H', Inv X pins σ H' s' ∧ Q b H') X.xe s := by
  obtain ⟨mA, J, _⟩ := ins_get I.hok ha
  obtain ⟨od, J, _⟩ := J.look
  refine truthy_ref (PySem.W.special_fn I.kIn J hs (beq_iff_eq.mp hf) ?_)
  have e0 : Env0 X.prog X.w X.K X.mg X.base A X.stack s H := by
    have e := I.env0
    exact ⟨by rw [sb.fr]; exact e.frames, e.mod, e.bs, e.bsz, e.funs, e.frf, e.hok, e.bare⟩
  have hl := F.len _ _ _ _ h
  have r2 : Vals [V.ref a] [Value.ref a] := .cons rfl .nil
  refine wpAny_call (codeAny_mono (F.run A X.stack s H ⟨[.ref a], []⟩ [.ref a] [.ref a] _ E sb.room e0 (by
    have := hb s [.ref a] I.kIn (by simpa using hl)
    simpa using this) r2 h) fun r s' hq => ?_)
  cases r with
  | error e => exact hx pins σ H s e s' I hq
  | ok fl =>
    cases fl with
    | ret w =>
      obtain ⟨z, H', I', rz, b, ez, q⟩ := I.after hq
      subst ez
      cases rz
      exact ⟨b, rfl, H', I', q⟩
    | next => exact False.elim hq
    | brk => exact False.elim hq
    | cont => exact False.elim hq
def rOwnB (C : Addr) (sp : Sp) (E : XK) : V → Hp → (Bool → Hp → Prop) → Prop := fun x H Q => ∃ a dx fs, x = .ref a ∧ H a = some (.ins C dx fs) ∧ sp [.ref a] H (fun v H' => ∃ b, v = .bl b ∧ Q b H') E
theorem tru_own (F : FnOk X.prog X.w X.K X.mg X.base CX n f fd ps sp) (hs : PySem.W.findIn X.K (.ref C) "__bool__" = some (some (.ref f))) (hf : PySem.W.isFn X.K (.ref f) = true) (hb : Binds X.K fd ps []) (hx : Passes CX X E) (hr : Room n X.A) : TruR X (rOwnB C sp E) := by
  intro pins s σ H x v Q I rx h
  obtain ⟨a, dx, fs, rfl, ha, h⟩ := h
  cases rx
  exact truthy_at F hs hf hb hx ⟨hr, rfl⟩ I ha h
/-- bool(x) -/
theorem plain_bool_new : plainId "bool.__new__" = true := by decide +kernel
theorem bool_new (x : Value) : Builtin.«bool.__new__» ⟨[.type "bool", x], []⟩ = (isSubtype (.type "bool") (.type "bool") >>= fun b => if (!b) = true then (do rule "bool.__new__.no-subtype"; raiseError "TypeError" s!"bool.__new__({← typeName (.type "bool")}): {← typeName (.type "bool")} is not a subtype of bool") else truthy x >>= fun b => pure (.done (.ret (.bool b)))) := by
  first | rfl | kernel_rfl
theorem code_bool_new {prog : Program} {w : World} {A : Around} {s : Shared} {x : Value} {Q E : Value → Shared → Prop} (h : wpAny (model prog w) A.in1 (truthy x) (fun b s' => Q (.bool b) s') E s) :
    codeAny (model prog w) A (.call (.builtin "bool.__new__") ⟨[.type "bool", x], []⟩) (wants Q E) s := by
  refine codeAny_of_tree ?_
  show wpAny _ A.in1 (do checkBuiltinCall "bool.__new__" ⟨[.type "bool", x], []⟩; again (.builtin "bool.__new__" ⟨[.type "bool", x], []⟩)) _ _ s
  refine wpAny_bind (wpAny_of_eq (PySem.F.newCall_bool_1 _) (wpAny_pure ⟨plainId_quiet plain_bool_new _, codeAny_builtin PySem.F.entry_bool_new ?_⟩))
  rw [Around.under_plainId plain_bool_new _, bool_new, PySem.F.conv_sub_bool, pure_bind, if_neg (by decide)]
  exact wpAny_bind (wpAny_mono h (fun b s' q => wpAny_pure q) fun _ _ x => x)
theorem call_boolO (F : FnOk X.prog X.w X.K X.mg X.base CX n f fd ps sp) (hs : PySem.W.findIn X.K (.ref C) "__bool__" = some (some (.ref f))) (hf : PySem.W.isFn X.K (.ref f) = true) (hb : Binds X.K fd ps []) (hx : Passes CX X E) (hr : Room (n + 2) X.A) :
    CallR X (.type "bool") (fun xs H Q => ∃ x, xs = [x] ∧ rOwnB C sp E x H fun b H' => Q (.bl b) H') := by
  intro pins s σ H xs us Q I r h
  obtain ⟨x, rfl, a, dx, fs, rfl, ha, h⟩ := h
  obtain rfl := Vals.ref1 r
  have key := truthy_at F hs hf hb hx (A := X.A.in1.in1) (Q := fun b H' => Q (.bl b) H') (sb := ⟨hr.in1.in1, rfl⟩) I ha h
  refine callType_codes (Q₁ := fun obj s₁ => s₁.TypeIs obj "bool" ∧ EP X pins σ Q obj s₁) PySem.F.called_bool (PySem.F.typeCall_bool_1 _) PySem.F.entry_object_init
    (code_bool_new (A := X.A.in1) (wpAny_mono key (fun b s' q => ⟨rfl, .bl b, q.choose, q.choose_spec.1, rfl, q.choose_spec.2⟩) fun _ _ x => x)) fun obj s₁ h₁ => ?_
  exact ⟨h₁.1, PySem.F.args_object_init_2 obj _, object_init_meets PySem.F.called_bool.init.lookup PySem.F.called_bool.made (by decide) X.prog X.w X.A.in1 _ s₁ ⟨h₁.1, rfl, h₁.2⟩⟩
end
end OB
set_option Elab.async false
set_option linter.all false
set_option maxRecDepth 100000
set_option maxHeartbeats 4000000
namespace DL
open PySem PySem.Spec PyProof.Rows L2
variable [CTab]
/-! ### calls without arguments -/
section
variable {X : Cx} {CX : CXT} {E : XK} {pos p : Pos} {k c : Nat} {g : FD} {x : Str}
theorem d_call0 {j : Nat} (c : Callee X.prog X.w X.K X.mg X.base CX k x 0 g) (hr : Room j X.A) (hx : Passes CX X E) (hj : k ≤ j := by decide) (hg : Gl X x := by rfl) (hdb : (x == ("__debug__" : Str)) = false := by decide) :
    PE X (.Call (.Name x p) [] [] pos) (tD X.K E (mCall g mANil)) := by
  obtain ⟨f, fd, ps, F, hm, hk, hb, hps⟩ := c.ex
  refine (pe_call0 F (hr.mono hj) hg hm hk hb .nil hx hdb).imp fun σ H Q h => ?_
  obtain ⟨c, Z, ρ, r, q⟩ := h
  exact call_gen (as := []) r .nil rfl q
end
/-! ### self.f = e -/
/-- the j-th field of the thing in slot i -/
def cFld (c j : Nat) : Ct → D → Option Ct
  | .ob c' l, d => if c' = c then (if j < l.length then some (.ob c (l.set j d)) else if j = l.length then some (.ob c (l ++ [d])) else none) else none
  | _, _ => none
def mFld (i c j : Nat) (m : M D) : M Fl := mMut i (cFld c j) m
theorem putF_at {f : Str} {v : V} : ∀ {ns : List Str} {vs : List V} {j : Nat}, ns.Nodup → ns[j]? = some f → (j < vs.length → putF f v (ns.zip vs) = ns.zip (vs.set j v)) ∧ (j = vs.length → putF f v (ns.zip vs) = ns.zip (vs ++ [v]))
  | [], vs, j, _, h => by simp at h
  | n :: ns, [], j, nd, h => by
    refine ⟨fun hj => absurd hj (Nat.not_lt_zero _), fun hj => ?_⟩
    subst hj
    simp only [List.length_nil, List.getElem?_cons_zero, Option.some.injEq] at h
    subst h
    simp [putF]
  | n :: ns, u :: vs, 0, nd, h => by
    simp only [List.getElem?_cons_zero, Option.some.injEq] at h
    subst h
    refine ⟨fun _ => by simp [putF], fun hj => by simp at hj⟩
  | n :: ns, u :: vs, j + 1, nd, h => by
    obtain ⟨hn, hr⟩ := List.nodup_cons.mp nd
    simp only [List.getElem?_cons_succ] at h
    have hne : ¬ n = f := fun e => hn (by rw [e]; exact List.mem_of_getElem? h)
    obtain ⟨h1, h2⟩ := putF_at (v := v) (vs := vs) hr h
    refine ⟨fun hj => ?_, fun hj => ?_⟩
    · rw [List.zip_cons_cons, List.set_cons_succ, List.zip_cons_cons]
      show (if n = f then _ else (n, u) :: putF f v (ns.zip vs)) = _
      rw [if_neg hne, h1 (by simpa using hj)]
    · rw [List.zip_cons_cons, List.cons_append, List.zip_cons_cons]
      show (if n = f then _ else (n, u) :: putF f v (ns.zip vs)) = _
      rw [if_neg hne, h2 (by simpa using hj)]
section
variable {X : Cx} {E : XK} {pos pos' : Pos} {e : Expr} {m : M D}
theorem s_fld {n : Nat} {f x : Str} {xp : Pos} (cf : CFacts X.K n) (i c j : Nat) (hc : c < n) (hj : (cF c)[j]? = some f) (hl : (cF c).length < 1000) (he : PE X e (tD X.K E m)) (hN : X.N[i]? = some x := by rfl) (hv : Vis X.env.scope x := by first | exact Or.inl rfl | exact Or.inr (Or.inl rfl) | exact Or.inr (Or.inr rfl)) (hd : (x == ("__debug__" : Str)) = false := by decide)
    (hcd : (x == ("__classdict__" : Str)) = false := by decide) (hs : swapsWith e (some (.Attribute (.Name x xp) f pos')) pos.line X.env = pure false := by rfl) : PS X (.Assign [.Attribute (.Name x xp) f pos'] e pos) (tS X.K E (mFld i c j m)) := by
  refine (ps_fld (pe_var hN hv hd hcd) he hs).imp fun Dn σ H h => ?_
  obtain ⟨cz, ρ, ⟨Z, r⟩, q⟩ := h
  refine ⟨cz, Z, ρ, r, tSR.expr q fun d ρ1 v H1 r1 hd q1 => ?_⟩
  obtain ⟨p, t, t', h1, ⟨o, h2, h3⟩, hz, hf, k⟩ := mut_gen q1 r1
  have hd : Rep X.K H1 Z d v := hd
  cases t with
  | lst _ => cases hf
  | dct _ _ => cases hf
  | ob c' l =>
    have hf : (if c' = c then (if j < l.length then some (Ct.ob c (l.set j d)) else if j = l.length then some (Ct.ob c (l ++ [d])) else none) else none) = some t' := hf
    split at hf
    · rename_i ec
      subst ec
      obtain ⟨dx, vs, rfl, hlen, hr⟩ := h3
      have hll := hr.len
      obtain ⟨g1, g2⟩ := putF_at (v := v) (vs := vs) (cf.nd c' hc) hj
      have ex : ∀ o', Ext Z H1 (upd H1 p o') := fun o' a o nz e => by rw [upd_ne (fun z => nz (by rw [z]; exact hz))]; exact e
      have hz1 : ((cF c').zip vs).length < 1000 := by rw [List.length_zip]; omega
      have hjl := (List.getElem?_eq_some_iff.mp hj).1
      refine ⟨_, h1, p, _, dx, _, rfl, h2, (cf.cls c' hc).cl, cf.noat c' f hc (List.mem_of_getElem? hj), hz1, ?_⟩
      refine k _ (fun a o ne e => by rw [upd_ne ne]; exact e) ?_
      split at hf
      · rename_i hlt
        cases hf
        exact ⟨_, upd_same, dx, vs.set j v, by rw [g1 (by omega)], by simpa using hlen, Reps.set (Rep.ext (ex _) _ _ hd) j (Reps.ext (ex _) _ _ hr)⟩
      · split at hf
        · rename_i hlt heq
          cases hf
          exact ⟨_, upd_same, dx, vs ++ [v], by rw [g2 (by omega)], by simp; omega, (Reps.ext (ex _) _ _ hr).app (Reps.one (Rep.ext (ex _) _ _ hd))⟩
        · cases hf
    · cases hf
end
/-! ### the truth of objects -/
/-- the class at c has a __bool__ that does g -/
structure Booler (P : Program) (w : World) (K : PySem.W.Frag) (mg : Str → Option Value) (base : Heap) (CX : CXT) (k : Nat) (c : Nat) (g : FD) : Prop where
  ex : ∃ (f : Addr) (fd : FuncData) (ps : List Str), PySem.W.findIn K (.ref (He.ga K (cN c))) "__bool__" = some (some (.ref f)) ∧ PySem.W.isFn K (.ref f) = true ∧ FnOk P w K mg base CX k f fd ps (spF K 1 g) ∧ Binds K fd ps []
def obTru (bs : List (Nat × FD)) : D → Option Bool
  | .ob c l => match bs.lookup c with
    | some g => (match g [.val (.ob c l)] with
      | .ok (.bl b) [] => some b
      | _ => none)
    | none => none
  | d => dTru d
def fBoolO (bs : List (Nat × FD)) : List D → Option D
  | [.ob c l] => (obTru bs (.ob c l)).map .bl
  | l => fBool l
section
variable {P : Program} {w : World} {X : Cx} {CX : CXT} {E : XK} {e : Expr} {m : M D} {k : Nat} {bs : List (Nat × FD)}
theorem lookupB {bs : List (Nat × FD)} {c : Nat} {g : FD} : bs.lookup c = some g → (c, g) ∈ bs := by
  induction bs with
  | nil => intro h; cases h
  | cons p r ih =>
    obtain ⟨a, b⟩ := p
    rw [List.lookup_cons]
    cases e : c == a with
    | true =>
      intro h
      cases h
      rw [eq_of_beq e]
      exact List.mem_cons_self
    | false => exact fun h => List.mem_cons_of_mem _ (ih h)
/-- what the own __bool__ is given -/
theorem ob_sp {K : PySem.W.Frag} {H : Hp} {Z : Addr → Prop} {c : Nat} {l : List D} {v : V} {g : FD} {b : Bool} {Q : Bool → Hp → Prop} (hz : ∀ p, Z p → H p ≠ none) (hr : Rep K H Z (.ob c l) v) (hg : g [.val (.ob c l)] = .ok (.bl b) []) (q : ∀ H', Same H H' → Q b H') :
    spF K 1 g [v] H (fun u H' => ∃ b, u = .bl b ∧ Q b H') E := by
  have hi : inAd [W.val (.ob c l)] [v] = [] := by simp [inAd]
  refine ⟨Z, [.val (.ob c l)], rfl, hz, ⟨v, [], rfl, hr, rfl⟩, by rw [hi]; exact .nil, ?_⟩
  rw [hg]
  intro u H' hk _ hu
  rw [hi] at hk
  exact ⟨b, hu, q H' fun a o h => hk a o (by simp) h⟩
theorem tru_objs (hb : ∀ q ∈ bs, Booler X.prog X.w X.K X.mg X.base CX k q.1 q.2) (hx : Passes CX X E) (hr : Room k X.A) : TruR X (fun x H Q => ∃ q ∈ bs, OB.rOwnB (He.ga X.K (cN q.1)) (spF X.K 1 q.2) E x H Q) := by
  intro pins s σ H x v Q I rx h
  obtain ⟨q, hq, h⟩ := h
  obtain ⟨f, fd, ps, h1, h2, F, hB⟩ := (hb q hq).ex
  exact OB.tru_own F h1 h2 hB hx hr pins s σ H x v Q I rx h
def mTruO (bs : List (Nat × FD)) (m : M D) : M Bool := fun ρ => bindR (m ρ) fun d ρ => liftO (obTru bs d) ρ
theorem _root_.L2.TruR.or {r r' : V → Hp → (Bool → Hp → Prop) → Prop} (h : TruR X r) (h' : TruR X r') : TruR X (fun x H Q => r x H Q ∨ r' x H Q) := fun pins s σ H x v Q I rx q => q.elim (h pins s σ H x v Q I rx) (h' pins s σ H x v Q I rx)
theorem tR.liftBs {K : PySem.W.Frag} {o : Option Bool} {c : Cz} {Z : Addr → Prop} {ρ : Env} {σ : St} {H : Hp} {Q : Bool → Hp → Prop} (h : tR K E rB c Z σ H Q (liftO o ρ)) (r : Rel K c Z ρ σ H) : ∃ k, o = some k ∧ ∀ H', Same H H' → Q k H' := by
  cases o with
  | none => exact h.elim
  | some k => exact ⟨k, rfl, fun H' s => h.new r s rfl⟩
theorem obTru_ok {K : PySem.W.Frag} {H : Hp} {Z : Addr → Prop} {d : D} {v : V} {b : Bool} {Q : Bool → Hp → Prop} (hz : ∀ p, Z p → H p ≠ none) (hd : Rep K H Z d v) (h : obTru bs d = some b) (q : ∀ H', Same H H' → Q b H') :
    (∃ q ∈ bs, OB.rOwnB (He.ga K (cN q.1)) (spF K 1 q.2) E v H Q) ∨ ∃ k, TruV K v H k ∧ Q k H := by
  have plain : dTru d = some b → (∃ q ∈ bs, OB.rOwnB (He.ga K (cN q.1)) (spF K 1 q.2) E v H Q) ∨ ∃ k, TruV K v H k ∧ Q k H := fun e => .inr ⟨b, tru_ok' e hd, q H (Same.refl H)⟩
  cases d with
  | ob c l =>
    simp only [obTru] at h
    split at h
    · rename_i g hg
      split at h
      · rename_i b' he
        cases h
        have hd' := hd
        simp only [Rep] at hd'
        obtain ⟨a, dx, vs, rfl, _, h2, _⟩ := hd'
        exact .inl ⟨(c, g), lookupB hg, a, dx, _, rfl, h2, ob_sp hz hd he q⟩
      · cases h
    · cases h
  | non => exact plain h
  | bl _ => exact plain h
  | int _ => exact plain h
  | str _ => exact plain h
  | lst _ => exact plain h
  | rol _ => exact plain h
  | tup _ => exact plain h
  | dct _ _ => exact plain h
theorem dt_truO {j : Nat} (bs : List (Nat × FD)) (hb : ∀ q ∈ bs, Booler X.prog X.w X.K X.mg X.base CX k q.1 q.2) (hx : Passes CX X E) (hr : Room j X.A) (he : PE X e (tD X.K E m)) (hj : k ≤ j := by decide) (hi : ∀ whole, isTrue e X.env whole = (do let v ← whole; standAt e.pos; holding [v] (truthy v)) := by intro _; rfl) : PT X e (tT X.K E (mTruO bs m)) := by
  refine (pt_truthR he ((tru_objs hb hx (hr.mono hj)).or tru_ok) hi).imp fun σ H Q h => ?_
  obtain ⟨c, Z, ρ, r, q⟩ := h
  refine ⟨c, Z, ρ, r, q.bind fun d ρ1 v H1 r1 e1 h1 q1 => ?_⟩
  obtain ⟨b, hb, k⟩ := q1.liftBs r1
  exact obTru_ok r1.dom h1 hb k
/-- bool(x) -/
theorem call_boolOs (hb : ∀ q ∈ bs, Booler X.prog X.w X.K X.mg X.base CX k q.1 q.2) (hx : Passes CX X E) (hr : Room (k + 2) X.A) : CallR X (.type "bool") (fun xs H Q => ∃ q ∈ bs, ∃ x, xs = [x] ∧ OB.rOwnB (He.ga X.K (cN q.1)) (spF X.K 1 q.2) E x H fun b H' => Q (.bl b) H') := by
  intro pins s σ H xs us Q I r h
  obtain ⟨q, hq, h⟩ := h
  obtain ⟨f, fd, ps, h1, h2, F, hB⟩ := (hb q hq).ex
  exact OB.call_boolO F h1 h2 hB hx hr pins s σ H xs us Q I r h
theorem ca_boolO {K : PySem.W.Frag} {E : XK} : CaD K (fun xs H Q => (∃ q ∈ bs, ∃ x, xs = [x] ∧ OB.rOwnB (He.ga K (cN q.1)) (spF K 1 q.2) E x H fun b H' => Q (.bl b) H') ∨ (∃ i, xs = [.int i] ∧ Q (.bl (i != 0)) H) ∨ ∃ k, xs = [.bl k] ∧ Q (.bl k) H) (fBoolO bs) := by
  intro H Z l d xs Q hz r h k
  unfold fBoolO at h
  split at h
  · rename_i c l'
    cases ho : obTru bs (.ob c l') with
    | none => rw [ho] at h; cases h
    | some b =>
      rw [ho] at h
      cases h
      obtain ⟨v, rfl, h1⟩ := r.inv1
      simp only [obTru] at ho
      split at ho
      · rename_i g hg
        split at ho
        · rename_i b' he
          cases ho
          have hd' := h1
          simp only [Rep] at hd'
          obtain ⟨a, dx, vs, rfl, _, h2, _⟩ := hd'
          exact .inl ⟨(c, g), lookupB hg, _, rfl, a, dx, _, rfl, h2, ob_sp hz h1 he fun H' s => k _ H' s rfl⟩
        · cases ho
      · cases ho
  · exact .inr (ca_bool H Z _ d xs Q hz r h k)
end
/-! ### dict displays -/
def rPr : RG (List (D × D)) (List (V × V)) := fun K _ H Z ps vs => Paired (fun p q => Rep K H Z p.1 q.1 ∧ Rep K H Z p.2 q.2) ps vs
def mPairs : List (M D × M D) → M (List (D × D))
  | [] => fun ρ => .ok [] ρ
  | (mk, mv) :: r => fun ρ => bindR (mk ρ) fun x ρ => bindR (mv ρ) fun y ρ => bindR (mPairs r ρ) fun l ρ => .ok ((x, y) :: l) ρ
def putD (ks : List Key) (l : List D) (k : Key) (d : D) : List Key × List D := if hasK ks k = true then (ks, (ks.zip l).map fun q => if q.1 = k then d else q.2) else (ks ++ [k], l ++ [d])
def mergeD : List Key → List D → List (D × D) → Option (List Key × List D)
  | ks, l, [] => some (ks, l)
  | ks, l, (x, y) :: r => match x.key with
    | some k => mergeD (putD ks l k y).1 (putD ks l k y).2 r
    | none => none
def mDisp (ms : List (M D × M D)) : M D := fun ρ => bindR (mPairs ms ρ) fun ps ρ => match mergeD [] [] ps with
  | some (ks, l) => if ps.length ≤ 15 then .ok (.dct ks l) ρ else .fail
  | none => .fail
section
variable {X : Cx} {E : XK} {pos : Pos} {K : PySem.W.Frag}
theorem rPr_ext {σ : St} {H H' : Hp} {Z : Addr → Prop} {ps : List (D × D)} {vs : List (V × V)} (e : Ext Z H H') (h : rPr K σ H Z ps vs) : rPr K σ H' Z ps vs := Paired.mapP h fun a v q => ⟨q.1.ext e, q.2.ext e⟩
theorem pairs_gen : ∀ (ms : List (M D × M D)) {σ : St} {H : Hp} {Q : List (V × V) → Hp → Prop}, tG K E rPr (mPairs ms) σ H Q → tPairs (ms.map fun q => (tD K E q.1, tD K E q.2)) σ H Q
  | [], σ, H, Q, ⟨c, Z, ρ, r, q⟩ => q.done r .nil
  | (mk, mv) :: ms, σ, H, Q, ⟨c, Z, ρ, r, q⟩ => by
    refine ⟨c, Z, ρ, r, q.bind fun x ρ1 u H1 r1 e1 hx q1 => ⟨c, Z, ρ1, r1, q1.bind fun y ρ2 v H2 r2 e2 hy q2 => ?_⟩⟩
    exact pairs_gen ms ⟨c, Z, ρ2, r2, q2.bind fun l ρ3 vs H3 r3 e3 hl q3 => q3.done r3 (.cons ⟨Rep.ext e3 _ _ (Rep.ext e2 _ _ hx), Rep.ext e3 _ _ hy⟩ hl)⟩
theorem putK_zip {H : Hp} {Z : Addr → Prop} {ks : List Key} {l : List D} {vs : List V} {k : Key} {d : D} {v : V} (hl : ks.length = vs.length) (hr : Reps K H Z l vs) (hd : Rep K H Z d v) :
    ∃ vs', putK (ks.zip vs) k v = (putD ks l k d).1.zip vs' ∧ (putD ks l k d).1.length = vs'.length ∧ Reps K H Z (putD ks l k d).2 vs' := by
  have hany : ∀ (ks : List Key) (vs : List V), ks.length = vs.length → ((ks.zip vs).any fun kv => decide (kv.1 = k)) = hasK ks k := by
    intro ks
    induction ks with
    | nil => intro vs _; simp [hasK]
    | cons a r ih =>
      intro vs hl
      cases vs with
      | nil => cases hl
      | cons v vs =>
        have := ih vs (by simpa using hl)
        unfold hasK at this ⊢
        rw [List.zip_cons_cons, List.any_cons, List.any_cons, this]
  unfold putK putD
  rw [hany ks vs hl]
  by_cases hk : hasK ks k = true
  · rw [if_pos hk, if_pos hk]
    refine ⟨(ks.zip vs).map fun q => if q.1 = k then v else q.2, ?_, by simp [hl], ?_⟩
    · clear hk hr hany
      induction ks generalizing vs with
      | nil => simp
      | cons a r ih =>
        cases vs with
        | nil => cases hl
        | cons u vs =>
          rw [List.zip_cons_cons, List.map_cons, List.map_cons, List.zip_cons_cons, ih (by simpa using hl)]
          congr 1
          by_cases e : a = k <;> simp [e]
    · clear hk hany
      induction ks generalizing vs l with
      | nil =>
        cases vs with
        | nil => simp [Reps]
        | cons _ _ => cases hl
      | cons a r ih =>
        cases vs with
        | nil => cases hl
        | cons u vs =>
          cases l with
          | nil => simp [Reps] at hr
          | cons b l =>
            obtain ⟨u', vs', e, h1, h2⟩ := hr.inv
            cases e
            rw [List.zip_cons_cons, List.map_cons, List.zip_cons_cons, List.map_cons]
            refine Reps.cons ?_ (ih (by simpa using hl) h2)
            by_cases e : a = k
            · simp [e, hd]
            · simp [e, h1]
  · rw [if_neg hk, if_neg hk]
    refine ⟨vs ++ [v], ?_, by simp [hl], hr.app (Reps.one hd)⟩
    rw [List.zip_append hl]
    rfl
theorem mergeK_zip {σ : St} {H : Hp} {Z : Addr → Prop} : ∀ {ps : List (D × D)} {ks : List Key} {l : List D} {vs : List V} {us : List (V × V)} {ks' : List Key} {l' : List D}, ks.length = vs.length → Reps K H Z l vs → rPr K σ H Z ps us → mergeD ks l ps = some (ks', l') →
    ∃ kvs vs', us = kvs.map (fun kv => (kV kv.1, kv.2)) ∧ kvs.length = ps.length ∧ mergeK (ks.zip vs) kvs = ks'.zip vs' ∧ ks'.length = vs'.length ∧ Reps K H Z l' vs'
  | [], ks, l, vs, us, ks', l', hl, hr, hp, h => by
    cases hp
    cases h
    exact ⟨[], vs, rfl, rfl, rfl, hl, hr⟩
  | (x, y) :: ps, ks, l, vs, us, ks', l', hl, hr, hp, h => by
    cases hp with
    | cons h1 h2 =>
      rename_i b bs
      obtain ⟨b1, b2⟩ := b
      obtain ⟨g1, g2⟩ := h1
      unfold mergeD at h
      split at h
      · rename_i k hk
        obtain ⟨vs1, e1, e2, e3⟩ := putK_zip (k := k) hl hr g2
        obtain ⟨kvs, vs', f1, f2, f3, f4, f5⟩ := mergeK_zip (σ := σ) e2 e3 h2 h
        have ek : b1 = kV k := D.key_rep hk g1
        refine ⟨(k, b2) :: kvs, vs', by rw [List.map_cons, ← f1, ek], by simp [f2], ?_, f4, f5⟩
        show mergeK (putK (ks.zip vs) k b2) kvs = _
        rw [e1]
        exact f3
      · cases h
theorem d_disp {keys : List (Option Expr)} {values : List Expr} (ms : List (M D × M D)) (h : PPs X pos keys values (ms.map fun q => (tD X.K E q.1, tD X.K E q.2))) (hall : keys.all (·.isSome) = true := by rfl) (hl : keys.length = values.length := by rfl) (h0 : keys ≠ [] := by exact List.cons_ne_nil _ _)
    (h15 : keys.length ≤ 15 := by decide) : PE X (.Dict keys values pos) (tD X.K E (mDisp ms)) := by
  refine (pe_disp h hall hl h0 h15).imp fun σ H Q hh => ?_
  obtain ⟨c, Z, ρ, r, q⟩ := hh
  intro p hp
  have hnz : ¬ Z p := r.zfree hp
  have n0 := r.newAt (o := .dK []) (t := .dct [] []) hp ⟨[], rfl, rfl, rfl⟩
  have back : ∀ {ρ H' t}, NewAt X.K c (fun a => Z a ∨ a = p) ρ σ H' t p → Rel X.K c Z ρ σ H' ∧ Rep X.K H' Z t.toD (.ref p) := fun n => n.frz (fun a => Iff.rfl) hnz
  have e0 : ∀ {H'}, Ext (fun a => Z a ∨ a = p) (upd H p (.dK [])) H' → Ext Z H H' := fun e a o nz ea => e a o (fun z => z.elim nz fun q => by rw [q, hp] at ea; cases ea) (by rw [upd_ne (ne_of_none ea hp)]; exact ea)
  refine pairs_gen ms ⟨c.withHid p (.dct [] []), _, ρ, n0.hide, ?_⟩
  unfold mDisp at q
  cases em : mPairs ms ρ with
  | fail => rw [em] at q; exact q
  | exc x l ρ1 =>
    rw [em] at q
    intro ed vs H' r1 e1 h1 h2 h3
    exact q ed vs H' (back (r1.showAt n0.new n0.nh)).1 (e0 e1) h1 h2 (Reps.zed (fun a o nz e z => nz (.inl z)) _ _ h3)
  | ok ps ρ1 =>
    rw [em] at q
    simp only [bindR_ok] at q
    intro us H2 r2 e2 hu
    have q : tR X.K E rD c Z σ H Q (match mergeD [] [] ps with
      | some (ks, l) => if ps.length ≤ 15 then .ok (.dct ks l) ρ1 else .fail
      | none => .fail) := q
    split at q
    · rename_i ks l hm
      split at q
      · rename_i h15
        obtain ⟨_, ⟨o, ho, us0, rfl, hl0, hr0⟩, _⟩ := r2.hidAt
        have hus0 : us0 = [] := by
          cases us0 with
          | nil => rfl
          | cons _ _ => cases hl0
        subst hus0
        obtain ⟨kvs, vs', f1, f2, f3, f4, f5⟩ := mergeK_zip (σ := σ) (vs := []) rfl Reps.nil hu hm
        have ex : Ext (fun a => Z a ∨ a = p) H2 (upd H2 p (.dK (ks.zip vs'))) := fun a o nz e => by rw [upd_ne (fun z => nz (.inr z))]; exact e
        have r3 := r2.putHid (t' := .dct ks l) (H' := upd H2 p (.dK (ks.zip vs'))) n0.new n0.nh (fun a o ne e => by rw [upd_ne ne]; exact e) ⟨_, upd_same, vs', rfl, f4, Reps.ext ex _ _ f5⟩
        obtain ⟨g1, g2⟩ := back (r3.showAt n0.new n0.nh)
        refine ⟨ho, kvs, f1, by omega, ?_⟩
        have f3 : mergeK [] kvs = ks.zip vs' := f3
        rw [f3]
        exact q _ _ g1 (e0 (e2.trans ex)) g2
      · exact q.elim
    · exact q.elim
end
end DL
set_option Elab.async false
set_option linter.all false
set_option maxRecDepth 100000
set_option maxHeartbeats 4000000
namespace DL
open PySem PySem.Spec PyProof.Rows L2
variable [CTab]
/-! ### dicts that are equal -/
def flatS : D → Bool
  | .non => true | .bl _ => true | .int _ => true | .str _ => true
  | _ => false
/-- the two are seen to be equal -/
def eqDct : D → D → Bool
  | .dct ks l, .dct js r => decide (ks.length = js.length) && decide (ks.length = l.length) && decide (js.length = r.length) && (ks.zip l).all fun q => flatS q.2 && (match lookD js r q.1 with
    | some d => (match q.2.sc, d.sc with
      | some a, some b => decide (a = b)
      | _, _ => false)
    | none => false)
  | _, _ => false
def dEqD (a b : D) : Option D := if eqDct a b = true then some (.bl true) else none
def dNeD (a b : D) : Option D := if eqDct a b = true then some (.bl false) else none
/-- == of any data; dicts only where they are equal -/
def dEqA (a b : D) : Option D := match dEq a b with | some d => some d | none => dEqD a b
def dNeA (a b : D) : Option D := match dNe a b with | some d => some d | none => dNeD a b
section
variable {X : Cx} {E : XK} {pos : Pos} {a b : Expr} {ma mb : M D} {K : PySem.W.Frag}
def rEqR : R2 := fun x y H Q => ∃ a b ks ls, x = .ref a ∧ y = .ref b ∧ Rd H a (.dK ks) ∧ Rd H b (.dK ls) ∧ ks.length = ls.length ∧ (∀ p ∈ ks, valV ls p.1 = some p.2 ∧ flatB p.2 = true) ∧ Q (.bl true) H
def rNeR : R2 := fun x y H Q => ∃ a b ks ls, x = .ref a ∧ y = .ref b ∧ Rd H a (.dK ks) ∧ Rd H b (.dK ls) ∧ ks.length = ls.length ∧ (∀ p ∈ ks, valV ls p.1 = some p.2 ∧ flatB p.2 = true) ∧ Q (.bl false) H
theorem op_eqR (hu : X.A.units < cLine) : OpR X (compareOp .Eq) rEqR := by
  intro pins s σ H x y v u Q I rx ry h
  obtain ⟨a, b, ks, ls, rfl, rfl, ea, eb, hlen, hp, q⟩ := h
  obtain rfl : v = Value.ref a := rx
  obtain rfl : u = Value.ref b := ry
  obtain ⟨_, ya, va, ra, da⟩ := (show ObjOk X.prog X.w H s.heap a (.dK ks) from ea.ok I.hok)
  obtain ⟨_, yb, vb, rb, db⟩ := (show ObjOk X.prog X.w H s.heap b (.dK ls) from eb.ok I.hok)
  have hl : va.length = vb.length := by rw [← ra.length, ← rb.length]; exact hlen
  exact PySem.W.keq_eq (knd := mixKind X.prog X.w) (r := true) ya yb da db hu (fun _ => hits_all rb ra hp) (fin_bl I q (by simp [hl]))
theorem op_neR (hu : X.A.units < cLine) : OpR X (compareOp .NotEq) rNeR := by
  intro pins s σ H x y v u Q I rx ry h
  obtain ⟨a, b, ks, ls, rfl, rfl, ea, eb, hlen, hp, q⟩ := h
  obtain rfl : v = Value.ref a := rx
  obtain rfl : u = Value.ref b := ry
  obtain ⟨_, ya, va, ra, da⟩ := (show ObjOk X.prog X.w H s.heap a (.dK ks) from ea.ok I.hok)
  obtain ⟨_, yb, vb, rb, db⟩ := (show ObjOk X.prog X.w H s.heap b (.dK ls) from eb.ok I.hok)
  have hl : va.length = vb.length := by rw [← ra.length, ← rb.length]; exact hlen
  exact PySem.W.keq_ne (knd := mixKind X.prog X.w) (r := true) ya yb da db hu (fun _ => hits_all rb ra hp) (fin_bl I q (by simp [hl]))
theorem zip_len_of {α β : Type} {ks : List α} {vs : List β} (h : ks.length = vs.length) : (ks.zip vs).length = ks.length := by simp [h]
theorem eqDct_rep {H : Hp} {Z : Addr → Prop} {x y : D} {v u : V} (h : eqDct x y = true) (hx : Rep K H Z x v) (hy : Rep K H Z y u) :
    ∃ a b ks ls, v = .ref a ∧ u = .ref b ∧ Rd H a (.dK ks) ∧ Rd H b (.dK ls) ∧ ks.length = ls.length ∧ ∀ p ∈ ks, valV ls p.1 = some p.2 ∧ flatB p.2 = true := by
  cases x <;> cases y <;> first | (cases h; done) | skip
  rename_i ks l js r
  simp only [eqDct, Bool.and_eq_true, decide_eq_true_eq, List.all_eq_true] at h
  obtain ⟨⟨⟨h1, h2⟩, h3⟩, h4⟩ := h
  simp only [Rep] at hx hy
  obtain ⟨a, vs, rfl, _, g1, g2, g3⟩ := hx
  obtain ⟨b, us, rfl, _, k1, k2, k3⟩ := hy
  refine ⟨a, b, _, _, rfl, rfl, g1, k1, by rw [zip_len_of g2, zip_len_of k2, h1], fun p hp => ?_⟩
  obtain ⟨i, hi⟩ := List.getElem?_of_mem hp
  obtain ⟨hk, hv⟩ := List.getElem?_zip_eq_some.mp hi
  obtain ⟨d, hd, rd⟩ := g3.getV hv
  have hm : (p.1, d) ∈ ks.zip l := List.mem_of_getElem? (List.getElem?_zip_eq_some.mpr ⟨hk, hd⟩)
  obtain ⟨f1, f2⟩ := h4 _ hm
  simp only at f1 f2
  have lk := lookD_rep (k := p.1) (ks := js) k3
  split at f2
  · rename_i d' hd'
    rw [hd'] at lk
    obtain ⟨v', e1, rv'⟩ := lk
    split at f2
    · rename_i s1 s2 hs1 hs2
      have e2 := D.sc_rep hs1 rd
      have e3 := D.sc_rep hs2 rv'
      have e4 := of_decide_eq_true f2
      refine ⟨by rw [e1, e3, ← e4, e2], ?_⟩
      rw [e2]
      cases d <;> simp [D.sc, flatS] at hs1 f1 <;> subst hs1 <;> rfl
    · cases f2
  · cases f2
theorem eqD_opD : OpD K rEqR dEqD := by
  intro H Z a b d x y Q hz ra rb h k
  unfold dEqD at h
  split at h
  · rename_i he
    cases h
    obtain ⟨p, q, ks, ls, e1, e2, h1, h2, h3, h4⟩ := eqDct_rep he ra rb
    exact ⟨p, q, ks, ls, e1, e2, h1, h2, h3, h4, k _ H (Same.refl H) rfl⟩
  · cases h
theorem neD_opD : OpD K rNeR dNeD := by
  intro H Z a b d x y Q hz ra rb h k
  unfold dNeD at h
  split at h
  · rename_i he
    cases h
    obtain ⟨p, q, ks, ls, e1, e2, h1, h2, h3, h4⟩ := eqDct_rep he ra rb
    exact ⟨p, q, ks, ls, e1, e2, h1, h2, h3, h4, k _ H (Same.refl H) rfl⟩
  · cases h
end
/-! ### the signs of a text -/
def signs (x : Str) : List D := x.cps.toList.map fun c => .str ⟨#[c]⟩
def mItS (m : M D) : M (List D) := fun ρ => bindR (m ρ) fun d ρ => match d with
  | .str x => .ok (signs x) ρ
  | _ => .fail
section
variable {X : Cx} {E : XK} {tg e : Expr} {m : M D} {K : PySem.W.Frag}
theorem wk_str {x : Str} : WkD K (Its x) (signs x) [] := by
  refine ⟨fun H Z hz h i d hd => ?_, fun H Z h => ?_⟩
  · simp only [signs, List.getElem?_map, Array.getElem?_toList, Option.map_eq_some_iff] at hd
    obtain ⟨c, hc, rfl⟩ := hd
    have hi : i < x.cps.size := (Array.getElem?_eq_some_iff.mp hc).1
    refine ⟨hi, fun v H' hv => ?_⟩
    obtain ⟨rfl, c', hc', rfl⟩ := hv
    rw [hc] at hc'
    cases hc'
    exact ⟨Same.refl _, rfl⟩
  · show x.cps.size ≤ (signs x).length
    simp [signs]
theorem i_str (he : PE X e (tD X.K E m)) : PI X tg e (iD X.K E (mItS m)) := by
  refine (pi_str he).imp fun σ H R ⟨c, Z, ρ, r, q⟩ => ⟨c, Z, ρ, r, iR.bind q fun d ρ1 v H1 r1 e1 h1 q => ?_⟩
  cases d <;> first | (exact q.elim; done) | skip
  rename_i x
  exact ⟨x, h1, q _ [] H1 r1 Ext.refl (fun q hq => by cases hq) wk_str⟩
end
/-! ### a, b = x, [..] -/
def mParDO (i j : Nat) (m : M D) (mo : M Ct) : M Fl := fun ρ => bindR (m ρ) fun d ρ => bindR (mo ρ) fun t ρ => .ok .nx ((ρ.set i (some (.val d))).set j (some (.own t)))
section
variable {X : Cx} {E : XK} {pos : Pos} {m : M D} {mo : M Ct}
theorem NewAt.setD {K : PySem.W.Frag} {c : Cz} {Z : Addr → Prop} {ρ : Env} {σ : St} {H : Hp} {t : Ct} {p : Addr} (n : NewAt K c Z ρ σ H t p) {i : Nat} {d : D} {v : V} (hd : Rep K H Z d v) : NewAt K c Z (ρ.set i (some (.val d))) (σ.set i (some v)) H t p := by
  have r := n.rel.set (i := i) hd
  refine ⟨r, n.z, n.new, n.at_, fun j hj e => ?_, n.nh⟩
  by_cases h : i = j
  · subst h
    obtain ⟨u, hu⟩ := hj
    rcases hu with hu | hu <;>
    · have hi := (List.getElem?_eq_some_iff.mp hu).1
      rw [List.getElem?_set_self (by simpa using hi)] at hu
      cases hu
  · have hj' : isOwn ρ j := by
      obtain ⟨u, hu⟩ := hj
      rw [List.getElem?_set_ne h] at hu
      exact ⟨u, hu⟩
    rw [List.getElem?_set_ne h] at e
    exact n.no j hj' e
theorem s_parDO (i j : Nat) {x y : Str} {a b : Expr} {px py pt : Pos} {kt k2 pt2} (hc : X.calm = true) (hN : X.N.Nodup) (ha : PE X a (tD X.K E m)) (hb : PE X b (tO X.K E mo)) (hi : X.N[i]? = some x := by rfl) (hj : X.N[j]? = some y := by rfl) (hij : i ≠ j := by decide)
    (hx : X.env.scope.names.lookup x = some .local := by rfl) (hy : X.env.scope.names.lookup y = some .local := by rfl)
    (hw : swappedStores [.Tuple [.Name x px, .Name y py] kt pt] (.Tuple [a, b] k2 pt2) X.env = pure (some [x, y]) := by rfl)
    (hs : swapsWithSole [.Tuple [.Name x px, .Name y py] kt pt] (.Tuple [a, b] k2 pt2) pos.line X.env = pure false := by rfl)
    (hsa : starEach [a, b] X.env = (false, eval a X.env) :: starEach [b] X.env := by rfl) (hsb : starEach [b] X.env = (false, eval b X.env) :: starEach [] X.env := by rfl) :
    PS X (.Assign [.Tuple [.Name x px, .Name y py] kt pt] (.Tuple [a, b] k2 pt2) pos) (tS X.K E (mParDO i j m mo)) := by
  refine (ps_par hc hN hi hj hij hx hy (pa_cons ha (pa_cons hb pa_nil hsb) hsa) hw hs).imp fun Dn σ H h => ?_
  obtain ⟨c, ρ, ⟨Z, r⟩, q⟩ := h
  refine ⟨c, Z, ρ, r, tSR.expr q fun d ρ1 v H1 r1 hd q1 => ⟨c, Z, ρ1, r1, ?_⟩⟩
  cases em : mo ρ1 with
  | fail => rw [em] at q1; exact q1
  | exc x l ρ2 => rw [em] at q1; exact fun ed vs H' h1 h3 h4 h5 => q1 σ ed vs H' ⟨Z, h1⟩ h3 h4 (Reps.zed h1.z0 _ _ h5)
  | ok t ρ2 =>
    rw [em] at q1
    exact fun p Z' H' n hk => ⟨v, .ref p, rfl, q1 _ _ ⟨Z', (n.setD (hk d v hd)).set j⟩⟩
end
/-! ### items of a list of one's own -/
def mOwnIx (i : Nat) (m : M D) : M D := fun ρ => match holds ρ i with
  | some (.lst _) => bindR (m ρ) fun k ρ => match k, holds ρ i with
    | .int j, some (.lst l) => liftO (L2.atI l j) ρ
    | _, _ => .fail
  | _ => .fail
def cSetAt (j : Int) : Ct → D → Option Ct
  | .lst l, d => match ixN l.length j with
    | some k => some (.lst (l.set k d))
    | _ => none
  | _, _ => none
def mMutNow (i : Nat) (f : Ct → D → Option Ct) (d : D) : M Fl := fun ρ => match ρ[i]? with
  | some (some w) => (match holds ρ i with
    | some t => (match f t d with
      | some t' => .ok .nx (ρ.set i (some (w.put t')))
      | none => .fail)
    | none => .fail)
  | _ => .fail
/-- x[e] += e2, x a list of one's own -/
def mAugIx (i : Nat) (mi : M D) (f : D → D → Option D) (m : M D) : M Fl := fun ρ => match holds ρ i with
  | some (.lst _) => bindR (mi ρ) fun k ρ => (match k, holds ρ i with
    | .int j, some (.lst l) => if 0 ≤ j ∧ j < 2 ^ 63 then (match L2.atI l j with
      | some d0 => bindR (m ρ) fun d ρ => (match f d0 d with
        | some d' => mMutNow i (cSetAt j) d' ρ
        | none => .fail)
      | none => .fail) else .fail
    | _, _ => .fail)
  | _ => .fail
/-- x[e] = e2 -/
def mSetIx (i : Nat) (mi m : M D) : M Fl := fun ρ => bindR (m ρ) fun d ρ => (match holds ρ i with
  | some (.lst _) => bindR (mi ρ) fun k ρ => (match k, holds ρ i with
    | .int j, some (.lst _) => mMutNow i (cSetAt j) d ρ
    | _, _ => .fail)
  | _ => .fail)
section
variable {X : Cx} {E : XK} {pos tpos : Pos} {e b : Expr} {m mb : M D} {K : PySem.W.Frag}
theorem holds_rel {c : Cz} {Z : Addr → Prop} {ρ : Env} {σ : St} {H : Hp} {i : Nat} {t : Ct} (r : Rel K c Z ρ σ H) (h : holds ρ i = some t) : ∃ p w, ρ[i]? = some (some w) ∧ Hold w t ∧ σ[i]? = some (some (.ref p)) ∧ Z p ∧ RepC K H Z t p := by
  obtain ⟨w, hw, hh⟩ := holds_hold h
  obtain ⟨p, h1, h2, h3⟩ := r.hold hw hh
  exact ⟨p, w, hw, hh, h1, h2, h3⟩
theorem d_ownIx (i : Nat) {x : Str} {np : Pos} (hb : PE X b (tD X.K E mb)) (hN : X.N[i]? = some x := by rfl) (hv : Vis X.env.scope x := by first | exact Or.inl rfl | exact Or.inr (Or.inl rfl) | exact Or.inr (Or.inr rfl)) (hd : (x == ("__debug__" : Str)) = false := by decide) (hcd : (x == ("__classdict__" : Str)) = false := by decide)
    (hs : PlainIx b := by exact fun _ _ => rfl) : PE X (.Subscript (.Name x np) b pos) (tD X.K E (mOwnIx i mb)) := by
  refine (pe_ix ix_list (pe_var hN hv hd hcd) hb hs).imp fun σ H Q h => ?_
  obtain ⟨c, Z, ρ, r, q⟩ := h
  unfold mOwnIx at q
  split at q
  · rename_i l0 ht
    obtain ⟨p, w, _, _, h1, _, _⟩ := holds_rel r ht
    refine ⟨_, h1, c, Z, ρ, r, q.bind fun k ρ1 v H1 r1 e1 hk q1 => ?_⟩
    split at q1
    · rename_i j l ht1
      obtain ⟨p', w', _, _, g1, hz, o, ho, us, rfl, hus⟩ := holds_rel r1 ht1
      rw [h1] at g1
      cases g1
      cases (show v = _ from hk)
      obtain ⟨d, hd, kk⟩ := q1.lift r1
      obtain ⟨u, hu, ru⟩ := hus.atI hd
      exact ⟨p, us, j, u, rfl, rfl, .inl (.inl ho), hu, kk _ H1 (Same.refl H1) ru⟩
    · exact q1.elim
  · exact q.elim
def rGetL (K : PySem.W.Frag) : V → V → Hp → VK → Prop := fun x y H Q => ∃ p xs i v, x = .ref p ∧ y = .int i ∧ 0 ≤ i ∧ i < 2 ^ 63 ∧ SqL K H p xs ∧ L2.atI xs i = some v ∧ Q v H
theorem get_own : PGet X (rGetL X.K) := by
  intro pins s σ H o i ov iv Q I ro ri h
  obtain ⟨p, xs, j, z, rfl, rfl, h0, h63, hq, he, q⟩ := h
  cases ro
  obtain ⟨t, rfl⟩ := ri
  obtain ⟨its, r, pl, hz⟩ := I.list hq
  obtain ⟨k, h1, h2, h3, h4, h5⟩ := L2.atI_get he
  obtain ⟨w, ew, rw'⟩ := r.get h2
  have hj : j.toNat = k := by
    rw [seqIndex_of h0 h5] at h1
    exact Option.some.inj h1
  exact wpAny_getItem_list pl.isList h0 h63 (by rw [hj]; simpa using ew) ⟨z, H, I, rw', q⟩
theorem cSetAt_ok {c : Cz} {Z : Addr → Prop} {ρ : Env} {σ : St} {H : Hp} {Dn : Ends} {i : Nat} {j : Int} {d : D} {v : V} {p : Addr} (r : Rel K c Z ρ σ H) (hp : σ[i]? = some (some (.ref p))) (hd : Rep K H Z d v) (q : tSR K E c Dn (mMutNow i (cSetAt j) d ρ)) :
    ∃ us k, H p = some (.lst us) ∧ ixN us.length j = some k ∧ Dn.nx σ (upd H p (.lst (us.set k v))) := by
  obtain ⟨p', t, t', h1, ⟨o, h2, h3⟩, hz, hf, kk⟩ := mut_gen (d := d) q r
  rw [hp] at h1
  cases h1
  cases t with
  | dct _ _ => cases hf
  | ob _ _ => cases hf
  | lst l =>
    obtain ⟨us, rfl, hus⟩ := h3
    simp only [cSetAt] at hf
    split at hf
    · rename_i k hk
      cases hf
      have ex : Ext Z H (upd H p (.lst (us.set k v))) := fun a o nz e => by rw [upd_ne (fun z => nz (by rw [z]; exact hz))]; exact e
      exact ⟨us, k, h2, by rw [← hus.len]; exact hk, kk _ (fun a o ne e => by rw [upd_ne ne]; exact e) ⟨_, upd_same, _, rfl, Reps.set (Rep.ext ex _ _ hd) k (Reps.ext ex _ _ hus)⟩⟩
    · cases hf
theorem s_augIx (i : Nat) {x : Str} {np : Pos} {ei : Expr} {mi : M D} {op : Operator} {g : Int → Int → Int} {f : D → D → Option D} (ho : PIp X op (ipI g)) (hg : ∀ a b d, f a b = some d → ∃ j k, a = .int j ∧ b = .int k ∧ d = .int (g j k)) (hei : PE X ei (tD X.K E mi)) (he : PE X e (tD X.K E m))
    (hN : X.N[i]? = some x := by rfl) (hv : Vis X.env.scope x := by first | exact Or.inl rfl | exact Or.inr (Or.inl rfl) | exact Or.inr (Or.inr rfl)) (hd : (x == ("__debug__" : Str)) = false := by decide) (hcd : (x == ("__classdict__" : Str)) = false := by decide)
    (ha : ∀ ov iv new, augStore ei ov iv new = (do holding [new, ov, iv] (setItem ov iv new); release [new, ov, iv] []; pure .next) := by intros; rfl) :
    PS X (.AugAssign (.Subscript (.Name x np) ei tpos) op e pos) (tS X.K E (mAugIx i mi f m)) := by
  refine (ps_augS (pe_var hN hv hd hcd) hei get_own he ho set_list ha).imp fun Dn σ H h => ?_
  obtain ⟨c, ρ, ⟨Z, r⟩, q⟩ := h
  unfold mAugIx at q
  split at q
  · rename_i l0 ht
    obtain ⟨p, w, _, _, h1, _, _⟩ := holds_rel r ht
    refine ⟨_, h1, c, Z, ρ, r, tSR.expr q fun k ρ1 v H1 r1 hk q1 => ?_⟩
    split at q1
    · rename_i j l ht1
      split at q1
      · rename_i hj
        split at q1
        · rename_i d0 hd0
          obtain ⟨p', w', _, _, g1, hz, o, ho', us, rfl, hus⟩ := holds_rel r1 ht1
          rw [h1] at g1
          cases g1
          cases (show v = _ from hk)
          obtain ⟨u0, hu0, ru0⟩ := hus.atI hd0
          refine ⟨p, us, j, u0, rfl, rfl, hj.1, hj.2, .inl (.inl ho'), hu0, c, Z, ρ1, r1, tSR.expr q1 fun d ρ2 y H2 r2 hd q2 => ?_⟩
          split at q2
          · rename_i d' hf
            obtain ⟨a, b, rfl, rfl, rfl⟩ := hg _ _ _ hf
            cases (show u0 = _ from ru0)
            cases (show y = _ from hd)
            obtain ⟨us', k', g2, g3, g4⟩ := cSetAt_ok (d := .int (g a b)) (v := .int (g a b)) r2 h1 (show Rep X.K H2 Z (.int (g a b)) (.int (g a b)) from rfl) q2
            exact ⟨a, b, rfl, rfl, p, us', j, k', rfl, rfl, g2, g3, g4⟩
          · exact q2.elim
        · exact q1.elim
      · exact q1.elim
    · exact q1.elim
  · exact q.elim
end
/-! ### a thing of one's own is looked at -/
/-- nothing in the slots changes -/
class Still {α : Type} (m : M α) : Prop where
  st : ∀ ρ a ρ', m ρ = .ok a ρ' → ρ' = ρ
instance {i : Nat} : Still (mVar i) := ⟨fun ρ a ρ' h => by
  unfold mVar at h
  split at h <;> cases h
  rfl⟩
instance {d : D} : Still (mC d) := ⟨fun ρ a ρ' h => by cases h; rfl⟩
theorem liftO_st {α : Type} {o : Option α} {ρ ρ' : Env} {a : α} (h : liftO o ρ = .ok a ρ') : ρ' = ρ := by
  cases o <;> cases h
  rfl
instance {f : D → Option D} {m : M D} [i : Still m] : Still (m1 f m) := ⟨fun ρ a ρ' h => by
  obtain ⟨x, ρ1, h1, h2⟩ := bind_ok h
  rw [liftO_st h2, i.st _ _ _ h1]⟩
instance {f : D → D → Option D} {m m' : M D} [i : Still m] [j : Still m'] : Still (m2 f m m') := ⟨fun ρ a ρ' h => by
  obtain ⟨x, ρ1, h1, h2⟩ := bind_ok h
  obtain ⟨y, ρ2, h3, h4⟩ := bind_ok h2
  rw [liftO_st h4, j.st _ _ _ h3, i.st _ _ _ h1]⟩
end DL
set_option Elab.async false
set_option linter.all false
set_option maxRecDepth 100000
set_option maxHeartbeats 4000000
namespace DL
open PySem PySem.Spec PyProof.Rows L2
theorem bt_len : bootBuiltins "len" = some (.builtin "len") := by decide +kernel
theorem bt_abs : bootBuiltins "abs" = some (.builtin "abs") := by decide +kernel
theorem bt_sum : bootBuiltins "sum" = some (.builtin "sum") := by decide +kernel
theorem bt_any : bootBuiltins "any" = some (.builtin "any") := by decide +kernel
theorem bt_all : bootBuiltins "all" = some (.builtin "all") := by decide +kernel
theorem bt_max : bootBuiltins "max" = some (.builtin "max") := by decide +kernel
theorem bt_min : bootBuiltins "min" = some (.builtin "min") := by decide +kernel
theorem bt_sorted : bootBuiltins "sorted" = some (.builtin "sorted") := by decide +kernel
theorem bt_int : bootBuiltins "int" = some (.type "int") := by decide +kernel
theorem bt_bool : bootBuiltins "bool" = some (.type "bool") := by decide +kernel
theorem bt_str : bootBuiltins "str" = some (.type "str") := by decide +kernel
theorem bt_list : bootBuiltins "list" = some (.type "list") := by decide +kernel
theorem bt_tuple : bootBuiltins "tuple" = some (.type "tuple") := by decide +kernel
theorem bt_dict : bootBuiltins "dict" = some (.type "dict") := by decide +kernel
theorem p0 {X : Cx} {E : XK} : Passes CX0 X E := fun _ _ _ _ _ _ _ h => h.elim
def dAddI : D → D → Option D
  | .int i, .int j => some (.int (i + j))
  | _, _ => none
theorem add_opI : ∀ a b d : D, dAddI a b = some d → ∃ j k, a = .int j ∧ b = .int k ∧ d = .int (j + k) := by
  intro a b d h
  unfold dAddI at h
  split at h <;> cases h
  exact ⟨_, _, rfl, rfl, rfl⟩
variable [CTab]
section
variable {X : Cx} {E : XK} {pos : Pos}
theorem c_eqA {k : Nat} (hr : Room k X.A) : CmpD X .Eq dEqA := by
  obtain ⟨r, h1, h2⟩ := c_eq (X := X) hr
  exact ⟨_, h1.or (op_eqR hr.units0), h2.orL eqD_opD⟩
theorem c_neA {k : Nat} (hr : Room k X.A) : CmpD X .NotEq dNeA := by
  obtain ⟨r, h1, h2⟩ := c_ne (X := X) hr
  exact ⟨_, h1.or (op_neR hr.units0), h2.orL neD_opD⟩
theorem d_dict0 : PE X (.Dict [] [] pos) (tD X.K E (mC (.dct [] []))) := by
  refine pe_dnewK.imp fun σ H Q h => ?_
  obtain ⟨c, Z, ρ, r, q⟩ := h
  intro p hp
  refine q.new r (same_upd hp) ?_
  show Rep X.K _ Z (.dct [] []) (.ref p)
  simp only [Rep]
  exact ⟨p, [], rfl, r.zfree hp, .inl upd_same, rfl, rfl⟩
end
end DL
set_option Elab.async false
set_option linter.all false
set_option maxRecDepth 100000
set_option maxHeartbeats 4000000
namespace DL
open PySem PySem.Spec PyProof.Rows L2
variable [CTab]
/-! ### list comprehensions with two fors -/
section
variable {K : PySem.W.Frag} {c : Cz} {Z : Addr → Prop} {ρ1 ρF : Env} {σ : St} {H1 : Hp} {vs is : List Nat} {P : Addr} {g : MT} {tt : M Bool} {m : M D} {J : It} {ds ys0 zs : List D} {ex : List (D × V)} {Fn : Hp → Prop}
/-- behind an item in which the hidden thing has grown -/
theorem Rel.back' {t t' : Ct} {ρ ρ' : Env} {σ' : St} {H H' : Hp} (r : Rel K (c.withHid P t) Z ρ σ H) (r' : Rel K (c.withHid P t') Z ρ' σ' H') (hn : ∀ v ∈ vs, notOwn ρ v = true) (e : Ext Z H H') (o : ∀ j, j ∉ vs → σ'[j]? = σ[j]?) (hl : σ'.length = σ.length) : Rel K (c.withHid P t') Z (restore ρ ρ' vs) σ H' := by
  have rb := Rel.back r.unhide r'.unhide hn e o hl
  refine ⟨rb.frame, rb.keep, rb.base, rb.len, rb.dom, rb.val, rb.own, rb.inn, rb.inj, rb.xs, fun q hq => ?_⟩
  rcases List.mem_cons.mp hq with eq | hq
  · subst eq
    refine ⟨r'.hidAt.1, r'.hidAt.2.1, fun j ⟨u, hu⟩ => ?_⟩
    have hj : j ∉ vs := fun z => by
      have hh := hn j z
      rw [restore_at vs j (by rw [r'.len, r.len, hl]), if_pos z] at hu
      exact absurd ⟨u, hu⟩ (notOwn_no hh)
    rw [restore_at vs j (by rw [r'.len, r.len, hl]), if_neg hj] at hu
    rw [← o j hj]
    exact r'.hidAt.2.2 j ⟨u, hu⟩
  · exact rb.hd q hq
/-- the loop of a comprehension, behind items that lie there already -/
theorem lc_loop (hg : ∀ j ∈ is, j ∈ vs) (wk : WkD K J ds ex) (h0 : c.H0 P = none) (hnh : ∀ q ∈ c.hid, q.1 ≠ P) (hZ : Z P) (hno : ∀ v ∈ vs, notOwn ρ1 v = true) (r1 : Rel K ((c.withEx ex).withHid P (.lst ys0)) Z ρ1 σ H1)
    (hrun : lcs (lcIt vs g tt m) ds ρ1 = .ok zs ρF) (hbd : (ys0 ++ zs).length ≤ sizeLine) (fin : ∀ H', Rel K ((c.withEx ex).withHid P (.lst (ys0 ++ zs))) Z ρF σ H' → Ext Z H1 H' → Fn H') :
    ∃ W : Nat → Nat → Hp → Prop, (∃ k, W 0 k H1) ∧ ∀ i k H, W i k H → (J.stop i H ∧ Fn H) ∨ (J.go i H ∧ ∃ Nx : Hp → Prop, (∀ H', Nx H' → ∃ k', k' < k ∧ W (i + 1) k' H') ∧ ∀ x H', J.yld i H x H' → tTG K is g x (L2.wipe σ vs) H' fun σ2 H2 => L2.wipe σ2 vs = L2.wipe σ vs ∧ tT K E0 tt σ2 H2 fun b H3 =>
      if b = true then tD K E0 m σ2 H3 fun y H4 => ∃ acc, H4 P = some (.lst acc) ∧ acc.length < sizeLine ∧ Nx (upd H4 P (.lst (acc ++ [y]))) else Nx H3) := by
  refine ⟨fun i k H => k = ds.length - i ∧ i ≤ ds.length ∧ ∃ ys ρ ws, Rel K ((c.withEx ex).withHid P (.lst ys)) Z ρ σ H ∧ Ext Z H1 H ∧ (∀ v ∈ vs, notOwn ρ v = true) ∧ lcs (lcIt vs g tt m) (ds.drop i) ρ = .ok ws ρF ∧ ys ++ ws = ys0 ++ zs,
    ⟨_, rfl, Nat.zero_le _, ys0, ρ1, zs, r1, Ext.refl, hno, hrun, rfl⟩, ?_⟩
  rintro i k H2 ⟨rfl, hi, ys, ρ2, ws, r2, e2, hno2, hgo, hl⟩
  by_cases hlt : i < ds.length
  · refine .inr ?_
    have hd : ds[i]? = some ds[i] := List.getElem?_eq_getElem hlt
    obtain ⟨go, yl⟩ := wk.go H2 _ r2.dom (fun q hq => r2.xs q (List.mem_append_left _ hq)) i ds[i] hd
    rw [List.drop_eq_getElem_cons hlt] at hgo
    unfold lcs at hgo
    cases ef : lcIt vs g tt m ds[i] ρ2 with
    | fail => rw [ef] at hgo; cases hgo
    | exc _ _ _ => rw [ef] at hgo; cases hgo
    | ok o ρ3 =>
      rw [ef] at hgo
      simp only at hgo
      cases er : lcs (lcIt vs g tt m) (ds.drop (i + 1)) ρ3 with
      | fail => rw [er] at hgo; cases hgo
      | exc _ _ _ => rw [er] at hgo; cases hgo
      | ok us ρ4 =>
        rw [er] at hgo
        simp only at hgo
        refine ⟨go, fun H' => ∃ ys', Rel K ((c.withEx ex).withHid P (.lst ys')) Z ρ3 σ H' ∧ Ext Z H1 H' ∧ (∀ v ∈ vs, notOwn ρ3 v = true) ∧ ys' ++ us = ys0 ++ zs,
          fun H' ⟨ys', k2, k3, k4, k5⟩ => ⟨ds.length - (i + 1), by omega, rfl, hlt, ys', ρ3, us, k2, k3, k4, by rw [er]; cases hgo; rfl, k5⟩, fun x H' y => ?_⟩
        obtain ⟨s3, rd⟩ := yl x H' y
        unfold lcIt at ef
        split at ef
        · cases ef
        · rename_i ρg hgd
          refine ⟨_, _, _, _, ρg, (r2.same s3).wipe vs, rd, hgd, fun σ4 H4 r4 s4 o4 => ?_⟩
          have out4 : ∀ j, j ∉ vs → σ4[j]? = σ[j]? := fun j hj => (o4.2 j fun z => hj (hg j z)).trans (wipe_at vs j hj)
          have len4 : σ4.length = σ.length := by rw [o4.1, wipe_len]
          refine ⟨(wipe_eq len4 out4), _, _, _, r4, ?_⟩
          split at ef
          · rename_i ρt ht
            rw [ht]
            intro b H5 r5 e5 hb5
            cases (show true = b from hb5)
            rw [if_pos rfl]
            refine ⟨_, _, _, r5, ?_⟩
            split at ef
            · rename_i yv ρy hy
              rw [hy]
              intro v H6 r6 e6 hv
              cases ef
              have ex6 : Ext Z H2 H6 := ((Ext.same s3).trans (Ext.same s4)).trans (e5.trans e6)
              have rb := Rel.back r2 r6 hno2 ex6 out4 len4
              obtain ⟨hz, ⟨o, ho, us', rfl, hus⟩, _⟩ := r6.hidAt
              cases hgo
              have ex7 : Ext Z H6 (upd H6 P (.lst (us' ++ [v]))) := fun a o nz e => by rw [upd_ne (fun z => nz (by rw [z]; exact hZ))]; exact e
              have hlen := congrArg List.length hl
              rw [List.length_append, List.length_cons] at hlen
              refine ⟨us', ho, by rw [← hus.len]; omega, ys ++ [yv], rb.putHid h0 hnh (fun a o ne e => by rw [upd_ne ne]; exact e) ⟨_, upd_same, _, rfl, ?_⟩, e2.trans (ex6.trans ex7), notOwn_back (by rw [r6.len, r2.len, len4]) hno2, ?_⟩
              · exact (Reps.ext ex7 _ _ hus).app (Reps.one (Rep.ext ex7 _ _ hv))
              · rw [← hl]
                simp
            · cases ef
          · rename_i ρt ht
            rw [ht]
            intro b H5 r5 e5 hb5
            cases (show false = b from hb5)
            rw [if_neg (by decide)]
            cases ef
            have ex6 : Ext Z H2 H5 := ((Ext.same s3).trans (Ext.same s4)).trans e5
            refine ⟨ys, Rel.back r2 r5 hno2 ex6 out4 len4, e2.trans ex6, notOwn_back (by rw [r5.len, r2.len, len4]) hno2, ?_⟩
            cases hgo
            exact hl
          · cases ef
  · have e0 : i = ds.length := by omega
    subst e0
    rw [List.drop_length] at hgo
    cases hgo
    rw [List.append_nil] at hl
    subst hl
    exact .inl ⟨wk.stop H2 _ (fun q hq => r2.xs q (List.mem_append_left _ hq)), fin H2 r2 e2⟩
end
def lcIt2 (vs : List Nat) (g : MT) (t : M Bool) (vs1 : List Nat) (mi1 : M (List D)) (g1 : MT) (t1 : M Bool) (m : M D) (d : D) (ρ : Env) : Res (List D) := match g d (wipeE ρ vs) with
  | none => .fail
  | some ρ1 => (match t ρ1 with
    | .ok true ρ2 => (match mi1 ρ2 with
      | .ok ds1 ρ3 => if vs1.all (notOwn ρ3) = true then (match lcs (lcIt vs1 g1 t1 m) ds1 ρ3 with
        | .ok ys ρ4 => .ok ys (restore ρ ρ4 vs)
        | _ => .fail) else .fail
      | _ => .fail)
    | .ok false ρ2 => .ok [] (restore ρ ρ2 vs)
    | _ => .fail)
def lcs2 (f : D → Env → Res (List D)) : List D → Env → Res (List D)
  | [], ρ => .ok [] ρ
  | d :: ds, ρ => match f d ρ with
    | .ok ys ρ1 => (match lcs2 f ds ρ1 with
      | .ok zs ρ2 => .ok (ys ++ zs) ρ2
      | _ => .fail)
    | _ => .fail
/-- the items of a comprehension with two fors -/
def mComp2 (vs : List Nat) (mi : M (List D)) (g : MT) (t : M Bool) (vs1 : List Nat) (mi1 : M (List D)) (g1 : MT) (t1 : M Bool) (m : M D) : M (List D) := fun ρ => bindR (mi ρ) fun ds ρ => if vs.all (notOwn ρ) = true then (match lcs2 (lcIt2 vs g t vs1 mi1 g1 t1 m) ds ρ with
    | .ok l ρ' => if l.length ≤ sizeLine then .ok l ρ' else .fail
    | _ => .fail) else .fail
section
variable {K : PySem.W.Frag} {vs vs1 is is1 : List Nat} {mi mi1 : M (List D)} {g g1 : MT} {tt t1 : M Bool} {m : M D}
theorem lc2_gen {σ : St} {H : Hp} {Q : VK} {E : XK} (hg : ∀ j ∈ is, j ∈ vs) (hg1 : ∀ j ∈ is1, j ∈ vs1)
    (h : ∃ c Z ρ, Rel K c Z ρ σ H ∧ match mComp2 vs mi g tt vs1 mi1 g1 t1 m ρ with
      | .fail => False
      | .exc x l ρ' => ∀ ed us H', Rel K c Z ρ' σ H' → Ext Z H H' → H' ed = some (.xd ((cF x).zip us)) → us.length ≤ (cF x).length → Reps K H' Z l us → E (.ref (He.ga K (cN x))) (some ed) H'
      | .ok l ρ' => ∀ P H1 H', H1 P = none → Ext Z H H1 → (∀ p, Z p → H1 p ≠ none) → NewAt K c (fun a => Z a ∨ a = P) ρ' σ H' (.lst l) P → Ext (fun a => Z a ∨ a = P) H1 H' → Q (.ref P) H') :
    tLc2 (iD K E mi) (tTG K is g) (tT K E0 tt) (iD K E0 mi1) (tTG K is1 g1) (tT K E0 t1) (tD K E0 m) vs vs1 σ H Q := by
  obtain ⟨c, Z, ρ, r, q⟩ := h
  refine ⟨c, Z, ρ, r, ?_⟩
  unfold mComp2 at q
  cases em : mi ρ with
  | fail => rw [em] at q; exact q
  | exc x l ρ1 => rw [em] at q; exact q
  | ok ds ρ1 =>
    rw [em, bindR_ok] at q
    intro J ex H1 r1 e1 hex wk P hP
    by_cases hno : vs.all (notOwn ρ1) = true
    · rw [if_pos hno] at q
      have hno : ∀ v ∈ vs, notOwn ρ1 v = true := by simpa using hno
      cases el : lcs2 (lcIt2 vs g tt vs1 mi1 g1 t1 m) ds ρ1 with
      | fail => rw [el] at q; exact q.elim
      | exc x l ρ' => rw [el] at q; exact q.elim
      | ok l ρF =>
        rw [el] at q
        simp only at q
        by_cases hbd : l.length ≤ sizeLine
        · rw [if_pos hbd] at q
          have fin := fun H' => q P H1 H' hP e1 r1.dom
          clear q em
          have n0 := (r1.more hex).newAt (p := P) (o := .lst []) (t := .lst []) hP ⟨[], rfl, Reps.nil⟩
          refine ⟨fun i k H => k = ds.length - i ∧ i ≤ ds.length ∧ ∃ ys ρ zs, Rel K ((c.withEx ex).withHid P (.lst ys)) (fun a => Z a ∨ a = P) ρ σ H ∧ Ext (fun a => Z a ∨ a = P) H1 H ∧ (∀ v ∈ vs, notOwn ρ v = true) ∧ lcs2 (lcIt2 vs g tt vs1 mi1 g1 t1 m) (ds.drop i) ρ = .ok zs ρF ∧ ys ++ zs = l,
            ⟨_, rfl, Nat.zero_le _, [], ρ1, l, n0.hide, fun a o nz e => by rw [upd_ne (fun z => nz (.inr z))]; exact e, hno, el, rfl⟩, ?_⟩
          rintro i k H2 ⟨rfl, hi, ys, ρ2, zs, r2, e2, hno2, hgo, hl⟩
          by_cases hlt : i < ds.length
          · refine .inr ?_
            have hd : ds[i]? = some ds[i] := List.getElem?_eq_getElem hlt
            obtain ⟨go, yl⟩ := wk.go H2 _ r2.dom (fun q hq => r2.xs q (List.mem_append_left _ hq)) i ds[i] hd
            rw [List.drop_eq_getElem_cons hlt] at hgo
            unfold lcs2 at hgo
            cases ef : lcIt2 vs g tt vs1 mi1 g1 t1 m ds[i] ρ2 with
            | fail => rw [ef] at hgo; cases hgo
            | exc _ _ _ => rw [ef] at hgo; cases hgo
            | ok ws ρ3 =>
              rw [ef] at hgo
              simp only at hgo
              cases er : lcs2 (lcIt2 vs g tt vs1 mi1 g1 t1 m) (ds.drop (i + 1)) ρ3 with
              | fail => rw [er] at hgo; cases hgo
              | exc _ _ _ => rw [er] at hgo; cases hgo
              | ok us ρ4 =>
                rw [er] at hgo
                simp only at hgo
                cases hgo
                refine ⟨go, fun H' => ∃ ys', Rel K ((c.withEx ex).withHid P (.lst ys')) (fun a => Z a ∨ a = P) ρ3 σ H' ∧ Ext (fun a => Z a ∨ a = P) H1 H' ∧ (∀ v ∈ vs, notOwn ρ3 v = true) ∧ ys' ++ us = l,
                  fun H' ⟨ys', k2, k3, k4, k5⟩ => ⟨ds.length - (i + 1), by omega, rfl, hlt, ys', ρ3, us, k2, k3, k4, er, k5⟩, fun x H' y => ?_⟩
                obtain ⟨s3, rd⟩ := yl x H' y
                unfold lcIt2 at ef
                split at ef
                · cases ef
                · rename_i ρg hgd
                  refine ⟨_, _, _, _, ρg, (r2.same s3).wipe vs, rd, hgd, fun σ4 H4 r4 s4 o4 => ?_⟩
                  have out4 : ∀ j, j ∉ vs → σ4[j]? = σ[j]? := fun j hj => (o4.2 j fun z => hj (hg j z)).trans (wipe_at vs j hj)
                  have len4 : σ4.length = σ.length := by rw [o4.1, wipe_len]
                  refine ⟨(wipe_eq len4 out4), _, _, _, r4, ?_⟩
                  split at ef
                  · rename_i ρt ht
                    rw [ht]
                    intro b H5 r5 e5 hb5
                    cases (show true = b from hb5)
                    rw [if_pos rfl]
                    refine ⟨_, _, _, r5, ?_⟩
                    split at ef
                    · rename_i ds1 ρm hm1
                      rw [hm1]
                      intro J1 ex1 H6 r6 e6 hex1 wk1
                      split at ef
                      · rename_i hno1
                        have hno1 : ∀ v ∈ vs1, notOwn ρm v = true := by simpa using hno1
                        split at ef
                        · rename_i ws' ρw hw
                          cases ef
                          have hb2 : (ys ++ ws).length ≤ sizeLine := by
                            have hlen := congrArg List.length hl
                            simp only [List.length_append] at hlen ⊢
                            omega
                          refine lc_loop (c := c.withEx ex) (ex := ex1) (ys0 := ys) hg1 wk1 n0.new n0.nh (.inr rfl) hno1 (r6.more hex1) hw hb2 fun H' rr ee => ?_
                          have ex6 : Ext (fun a => Z a ∨ a = P) H2 H' := ((Ext.same s3).trans (Ext.same s4)).trans ((e5.trans e6).trans ee)
                          have rr' : Rel K ((c.withEx ex).withHid P (.lst (ys ++ ws))) (fun a => Z a ∨ a = P) ρw σ4 H' := Rel.less (c := (c.withEx ex).withHid P (.lst (ys ++ ws))) (ex := ex1) rr
                          have rb : Rel K ((c.withEx ex).withHid P (.lst (ys ++ ws))) (fun a => Z a ∨ a = P) (restore ρ2 ρw vs) σ H' := Rel.back' r2 rr' hno2 ex6 out4 len4
                          exact ⟨ys ++ ws, rb, e2.trans ex6, notOwn_back (by rw [rr'.len, r2.len, len4]) hno2, by rw [← hl]; simp⟩
                        · cases ef
                      · cases ef
                    · cases ef
                  · rename_i ρt ht
                    rw [ht]
                    intro b H5 r5 e5 hb5
                    cases (show false = b from hb5)
                    rw [if_neg (by decide)]
                    cases ef
                    have ex6 : Ext (fun a => Z a ∨ a = P) H2 H5 := ((Ext.same s3).trans (Ext.same s4)).trans e5
                    exact ⟨ys, Rel.back r2 r5 hno2 ex6 out4 len4, e2.trans ex6, notOwn_back (by rw [r5.len, r2.len, len4]) hno2, hl⟩
                  · cases ef
          · have e0 : i = ds.length := by omega
            subst e0
            rw [List.drop_length] at hgo
            cases hgo
            rw [List.append_nil] at hl
            subst hl
            have rl : Rel K (c.withHid P (.lst ys)) (fun a => Z a ∨ a = P) _ σ H2 := ⟨r2.frame, r2.keep, r2.base, r2.len, r2.dom, r2.val, r2.own, r2.inn, r2.inj, fun q hq => r2.xs q (List.mem_append_right _ hq), r2.hd⟩
            exact .inl ⟨wk.stop H2 _ (fun q hq => r2.xs q (List.mem_append_left _ hq)), fin H2 (rl.showAt n0.new n0.nh) e2⟩
        · rw [if_neg hbd] at q
          exact q.elim
    · rw [if_neg hno] at q
      exact q.elim
end
end DL
namespace DL
open PySem PySem.Spec PyProof.Rows L2
variable [CTab]
section
variable {X : Cx} {E : XK} {pos spos py : Pos} {elt tg iter tg1 iter1 : Expr} {ifs ifs1 : List Expr} {scope : Scope} {vs vs1 is is1 : List Nat} {mi mi1 : M (List D)} {g g1 : MT} {t t1 : M Bool} {m : M D} {y : Str}
theorem lc2D {K : PySem.W.Frag} {σ : St} {H : Hp} {Q : VK} (hg : ∀ j ∈ is, j ∈ vs) (hg1 : ∀ j ∈ is1, j ∈ vs1) (h : tD K E (mLcD (mComp2 vs mi g t vs1 mi1 g1 t1 m)) σ H Q) : tLc2 (iD K E mi) (tTG K is g) (tT K E0 t) (iD K E0 mi1) (tTG K is1 g1) (tT K E0 t1) (tD K E0 m) vs vs1 σ H Q := by
  obtain ⟨c, Z, ρ, r, q⟩ := h
  refine lc2_gen hg hg1 ⟨c, Z, ρ, r, ?_⟩
  unfold mLcD at q
  cases ec : mComp2 vs mi g t vs1 mi1 g1 t1 m ρ with
  | fail => rw [ec] at q; exact q
  | exc x l ρ' => rw [ec] at q; exact q
  | ok l ρ' =>
    rw [ec] at q
    intro D H1 H' hD e1 hz n e2
    have hnz : ¬ Z D := fun z => hz D z hD
    obtain ⟨r', rp⟩ := n.frz (Y := Z) (fun a => Iff.rfl) hnz
    exact q (.ref D) H' r' (e1.trans (ext_or e2 hD)) rp
/-- [elt for tg in iter if .. for tg1 in iter1 if ..] -/
theorem d_lc2 (own : List (Str × Nat)) (vs1 : List Nat) (hc : X.calm = true) (hN : X.N.Nodup) (ok : BlkOk X.N X.env.scope scope own) (hv : ∀ i ∈ vs1, i ∈ own.map (·.2)) (hg0 : ∀ j ∈ is, j ∈ own.map (·.2)) (hg01 : ∀ j ∈ is1, j ∈ vs1) (hi : PI X tg iter (iD X.K E mi))
    (hg : ∀ (s : Shared) (H : Hp) (C : Addr) (cl : List (Str × Addr)) (fp : List Addr), PG (X.blk s H scope (compEnvC scope cl C X.env) fp) tg (tTG X.K is g)) (ht : ∀ (s : Shared) (H : Hp) (C : Addr) (cl : List (Str × Addr)) (fp : List Addr), PTs (X.blk s H scope (compEnvC scope cl C X.env) fp) ifs (tT X.K E0 t))
    (hi1 : ∀ (s : Shared) (H : Hp) (C : Addr) (cl : List (Str × Addr)) (fp : List Addr), PI (X.blk s H scope (compEnvC scope cl C X.env) fp) tg1 iter1 (iD X.K E0 mi1))
    (hg1 : ∀ (s : Shared) (H : Hp) (C : Addr) (cl : List (Str × Addr)) (fp : List Addr), PG (X.blk s H scope (compEnvC scope cl C X.env) fp) tg1 (tTG X.K is1 g1)) (ht1 : ∀ (s : Shared) (H : Hp) (C : Addr) (cl : List (Str × Addr)) (fp : List Addr), PTs (X.blk s H scope (compEnvC scope cl C X.env) fp) ifs1 (tT X.K E0 t1))
    (he : ∀ (s : Shared) (H : Hp) (C : Addr) (cl : List (Str × Addr)) (fp : List Addr), PE (X.blk s H scope (compEnvC scope cl C X.env) fp) elt (tD X.K E0 m)) (hs : ∀ x, foldedSetIterable iter X.env x = pure x := by intro _; rfl) (hs1 : ∀ env x, foldedSetIterable iter1 env x = pure x := by intro _ _; rfl) :
    PE X (.ListComp elt [⟨tg, iter, ifs, 0⟩, ⟨tg1, iter1, ifs1, 0⟩] scope pos) (tD X.K E (mLcD (mComp2 (own.map (·.2)) mi g t vs1 mi1 g1 t1 m))) :=
  (pe_lc2 hc hN hi ok hv hg ht hi1 hg1 ht1 he hs hs1).imp fun _ _ _ h => lc2D hg0 hg01 h
theorem s_setLc2 (i : Nat) (own : List (Str × Nat)) (vs1 : List Nat) (hc : X.calm = true) (hN : X.N.Nodup) (ok : BlkOk X.N X.env.scope scope own) (hv : ∀ i ∈ vs1, i ∈ own.map (·.2)) (hg0 : ∀ j ∈ is, j ∈ own.map (·.2)) (hg01 : ∀ j ∈ is1, j ∈ vs1) (hi : PI X tg iter (iD X.K E mi))
    (hg : ∀ (s : Shared) (H : Hp) (C : Addr) (cl : List (Str × Addr)) (fp : List Addr), PG (X.blk s H scope (compEnvC scope cl C X.env) fp) tg (tTG X.K is g)) (ht : ∀ (s : Shared) (H : Hp) (C : Addr) (cl : List (Str × Addr)) (fp : List Addr), PTs (X.blk s H scope (compEnvC scope cl C X.env) fp) ifs (tT X.K E0 t))
    (hi1 : ∀ (s : Shared) (H : Hp) (C : Addr) (cl : List (Str × Addr)) (fp : List Addr), PI (X.blk s H scope (compEnvC scope cl C X.env) fp) tg1 iter1 (iD X.K E0 mi1))
    (hg1 : ∀ (s : Shared) (H : Hp) (C : Addr) (cl : List (Str × Addr)) (fp : List Addr), PG (X.blk s H scope (compEnvC scope cl C X.env) fp) tg1 (tTG X.K is1 g1)) (ht1 : ∀ (s : Shared) (H : Hp) (C : Addr) (cl : List (Str × Addr)) (fp : List Addr), PTs (X.blk s H scope (compEnvC scope cl C X.env) fp) ifs1 (tT X.K E0 t1))
    (he : ∀ (s : Shared) (H : Hp) (C : Addr) (cl : List (Str × Addr)) (fp : List Addr), PE (X.blk s H scope (compEnvC scope cl C X.env) fp) elt (tD X.K E0 m)) (hs : ∀ x, foldedSetIterable iter X.env x = pure x := by intro _; rfl) (hs1 : ∀ env x, foldedSetIterable iter1 env x = pure x := by intro _ _; rfl)
    (hy : X.N[i]? = some y := by rfl) (hyl : X.env.scope.names.lookup y = some .local := by rfl) (hsw : swapsWith (.ListComp elt [⟨tg, iter, ifs, 0⟩, ⟨tg1, iter1, ifs1, 0⟩] scope pos) (some (.Name y py)) spos.line X.env = pure true := by exact sw_true rfl rfl rfl (by decide +kernel)) :
    PS X (.Assign [.Name y py] (.ListComp elt [⟨tg, iter, ifs, 0⟩, ⟨tg1, iter1, ifs1, 0⟩] scope pos) spos) (tS X.K E (mSet i (mLcD (mComp2 (own.map (·.2)) mi g t vs1 mi1 g1 t1 m)))) := by
  refine (ps_setLc2 hc hN hy hyl hsw hi ok hv hg ht hi1 hg1 ht1 he hs hs1).imp fun Dn σ H h => ?_
  obtain ⟨c, ρ, ⟨Z, r⟩, q⟩ := h
  exact lc2D hg0 hg01 ⟨c, Z, ρ, r, tSR.expr (k := fun d ρ => .ok .nx (ρ.set i (some (.val d)))) q fun d ρ1 v H1 r1 h1 q1 => q1 _ _ ⟨Z, r1.set h1⟩⟩
end
end DL
set_option Elab.async false
set_option linter.all false
set_option maxRecDepth 100000
set_option maxHeartbeats 4000000
namespace DL
open PySem PySem.Spec PyProof.Rows L2
variable [CTab]
/-! ### methods -/
/-- the class at c has the method m, that does g -/
structure Method (P : Program) (w : World) (K : PySem.W.Frag) (mg : Str → Option Value) (base : Heap) (CX : CXT) (k : Nat) (m : Str) (n : Nat) (c : Nat) (g : FD) : Prop where
  cls : Cls K (He.ga K (cN c))
  nf : m ∉ cF c
  ex : ∃ (f : Addr) (fd : FuncData) (ps : List Str), Meth K (He.ga K (cN c)) m f ∧ FnOk P w K mg base CX k f fd ps (spF K (n + 1) g) ∧ Binds K fd ps [] ∧ ps.length = n + 1
/-- o.m(..) of data: gs tells for each class what its m does -/
def mMeth (gs : List (Nat × FD)) (ma : M D) (ms : M (List Ar)) : M D := fun ρ => bindR (ma ρ) fun d ρ => match d with
  | .ob c l => (match gs.lookup c with
    | some g => bindR (ms ρ) fun as ρ => callF g (.d (.ob c l) :: as) ρ
    | none => .fail)
  | _ => .fail
/-- x.m(..) of a thing of one's own -/
def mMethS (gs : List (Nat × FD)) (i : Nat) (ms : M (List Ar)) : M D := fun ρ => match holds ρ i with
  | some (.ob c _) => (match gs.lookup c with
    | some g => bindR (ms ρ) fun as ρ => callF g (.s i :: as) ρ
    | none => .fail)
  | _ => .fail
theorem lookup_nf {m : Str} : ∀ {ns : List Str} {vs : List V}, m ∉ ns → (ns.zip vs).lookup m = none
  | [], _, _ => by simp
  | _ :: _, [], _ => by simp
  | n :: ns, v :: vs, h => by
    simp only [List.mem_cons, not_or] at h
    rw [List.zip_cons_cons, List.lookup_cons, beq_eq_false_iff_ne.mpr h.1]
    exact lookup_nf h.2
section
variable {X : Cx} {CX : CXT} {E : XK} {pos apos : Pos} {o e : Expr} {es : List Expr} {ma : M D} {ms : M (List Ar)} {k n : Nat} {m : Str} {gs : List (Nat × FD)}
theorem pe_ex {ι : Type} {p : ι → Prop} {t : ι → TE} (h : ∀ i, p i → PE X e (t i)) : PE X e (fun σ H Q => ∃ i, p i ∧ t i σ H Q) := ⟨fun pins s σ H Q I ⟨i, hi, q⟩ => (h i hi).run pins s σ H Q I q⟩
/-- what a receiver must be: data of a class that has the method -/
theorem meth_gen {K : PySem.W.Frag} {σ : St} {H : Hp} {Q : VK} (hm : ∀ q ∈ gs, m ∉ cF q.1) [hml : ArLen n ms] (h : tD K E (mMeth gs ma ms) σ H Q) :
    tD K E ma σ H fun x H1 => ∃ q, q ∈ gs ∧ ∃ a dx fs, x = V.ref a ∧ H1 a = some (.ins (He.ga K (cN q.1)) dx fs) ∧ fs.lookup m = none ∧ tAs K E ms σ H1 fun vs H2 => spF K (n + 1) q.2 (x :: (vs ++ [])) H2 Q E := by
  obtain ⟨c, Z, ρ, r, q⟩ := h
  refine ⟨c, Z, ρ, r, q.bind fun d ρ1 x H1 r1 e1 hx q1 => ?_⟩
  cases d <;> first | (exact q1.elim; done) | skip
  rename_i cl l
  have hx : Rep K H1 Z (.ob cl l) x := hx
  have hx' := hx
  simp only [Rep] at hx'
  obtain ⟨a, dx, us, rfl, hna, ha, hlen, hus⟩ := hx'
  have q1 : tR K E rD c Z σ H1 Q (match gs.lookup cl with
    | some g => bindR (ms ρ1) fun as ρ => callF g (.d (.ob cl l) :: as) ρ
    | none => .fail) := q1
  split at q1
  · rename_i g hg
    have hmem := lookupB hg
    refine ⟨(cl, g), hmem, a, dx, _, rfl, ha, lookup_nf (hm _ hmem), c, Z, ρ1, r1, ?_⟩
    cases em : ms ρ1 with
    | fail => rw [em] at q1; exact q1
    | exc x l ρ2 => rw [em] at q1; exact q1
    | ok as ρ2 =>
      rw [em] at q1
      simp only [bindR_ok] at q1
      intro vs H2 r2 e2 h2
      rw [List.append_nil]
      have h2 : rAr K σ H2 Z as vs := h2
      exact call_gen (as := .d (.ob cl l) :: as) r2 (.cons (show Rep K H2 Z (.ob cl l) (.ref a) from Rep.ext e2 _ _ hx) h2) (by simp [← rAr_len h2, hml.len _ _ _ em]) (q1.ext e2)
  · exact q1.elim
theorem meths_gen {i : Nat} {K : PySem.W.Frag} {σ : St} {H : Hp} {Q : VK} (hm : ∀ q ∈ gs, m ∉ cF q.1) [hml : ArLen n ms] (h : tD K E (mMethS gs i ms) σ H Q) :
    tVar i σ H fun x H1 => ∃ q, q ∈ gs ∧ ∃ a dx fs, x = V.ref a ∧ H1 a = some (.ins (He.ga K (cN q.1)) dx fs) ∧ fs.lookup m = none ∧ tAs K E ms σ H1 fun vs H2 => spF K (n + 1) q.2 (x :: (vs ++ [])) H2 Q E := by
  obtain ⟨c, Z, ρ, r, q⟩ := h
  unfold mMethS at q
  split at q
  · rename_i cl l ht
    obtain ⟨p, w, hw, hh, h1, hz, o, ho, dx, us, rfl, hlen, hus⟩ := holds_rel r ht
    refine ⟨_, h1, ?_⟩
    split at q
    · rename_i g hg
      have hmem := lookupB hg
      refine ⟨(cl, g), hmem, p, dx, _, rfl, ho, lookup_nf (hm _ hmem), c, Z, ρ, r, ?_⟩
      cases em : ms ρ with
      | fail => rw [em] at q; exact q
      | exc x l ρ2 => rw [em] at q; exact q
      | ok as ρ2 =>
        rw [em] at q
        simp only [bindR_ok] at q
        intro vs H2 r2 e2 h2
        rw [List.append_nil]
        have h2 : rAr K σ H2 Z as vs := h2
        exact call_gen (as := .s i :: as) r2 (.cons h1 h2) (by simp [← rAr_len h2, hml.len _ _ _ em]) (q.ext e2)
    · exact q.elim
  · exact q.elim
/-- o.m(e, ..), the class seen when o is there -/
theorem pe_methE {pl : Sem Bool} {ta : TE} {t : TA} (hk : ∀ q ∈ gs, Method X.prog X.w X.K X.mg X.base CX k m n q.1 q.2) (hr : Room k X.A) (hx : Passes CX X E) (he : PE X o ta) (ha : PA X (e :: es) t)
    (hst : starEach (e :: es) X.env = (false, eval e X.env) :: starEach es X.env) (hpl : (backTo pos (starEach es X.env)).any (·.1) = false)
    (ht : eval (.Call (.Attribute o m apos) (e :: es) [] pos) X.env = (do let ov ← eval o X.env; standAt apos.atName; let (f, first) ← holding [ov] (getMethod ov m pl); callWith pos f first (backTo pos (starEach (e :: es) X.env)) (backToKw pos (keywordEach [] X.env)))) :
    PE X (.Call (.Attribute o m apos) (e :: es) [] pos) (fun σ H Q => ta σ H fun x H1 => ∃ q, q ∈ gs ∧ ∃ a dx fs, x = V.ref a ∧ H1 a = some (.ins (He.ga X.K (cN q.1)) dx fs) ∧ fs.lookup m = none ∧ t σ H1 fun vs H2 => spF X.K (n + 1) q.2 (x :: (vs ++ [])) H2 Q E) := by
  constructor
  intro pins s σ H Q I h
  apply PySem.W.methodCall_KW (pl := pl) _ ht
  refine thn (he.run pins s σ H _ I h) ?_
  rintro u s1 ⟨x, H1, I1, rx, q, hq, a, dx, fs, ex, ea, l, q1⟩
  subst ex
  obtain rfl : u = Value.ref a := rx
  have M := hk q hq
  obtain ⟨f, fd, ps, hm, F, hb, _⟩ := M.ex
  refine getmeth_ok I1 ea M.cls hm l ?_
  apply PySem.W.callWith_K (first := [.ref a]) (h₀ := X.base) I.ok.mod.kin hm.kp _ hst hpl
  refine thn (ha.run pos pins s1 σ H1 _ I1 q1) ?_
  rintro us s2 ⟨vs, H2, I2, r, q2⟩
  exact ⟨I2.kIn, run_fn (us := .ref a :: us) (vs := .ref a :: vs) F hr hb .nil hx I2 (.cons rfl r) q2⟩
theorem pe_methE0 {pl : Sem Bool} {ta : TE} (hk : ∀ q ∈ gs, Method X.prog X.w X.K X.mg X.base CX k m 0 q.1 q.2) (hr : Room k X.A) (hx : Passes CX X E) (he : PE X o ta)
    (ht : eval (.Call (.Attribute o m apos) [] [] pos) X.env = (do let ov ← eval o X.env; standAt apos.atName; let (f, first) ← holding [ov] (getMethod ov m pl); callWith pos f first (backTo pos (starEach [] X.env)) (backToKw pos (keywordEach [] X.env)))) :
    PE X (.Call (.Attribute o m apos) [] [] pos) (fun σ H Q => ta σ H fun x H1 => ∃ q, q ∈ gs ∧ ∃ a dx fs, x = V.ref a ∧ H1 a = some (.ins (He.ga X.K (cN q.1)) dx fs) ∧ fs.lookup m = none ∧ spF X.K 1 q.2 [x] H1 Q E) := by
  constructor
  intro pins s σ H Q I h
  apply PySem.W.methodCall_KW (pl := pl) _ ht
  refine thn (he.run pins s σ H _ I h) ?_
  rintro u s1 ⟨x, H1, I1, rx, q, hq, a, dx, fs, ex, ea, l, q1⟩
  subst ex
  obtain rfl : u = Value.ref a := rx
  have M := hk q hq
  obtain ⟨f, fd, ps, hm, F, hb, _⟩ := M.ex
  refine getmeth_ok I1 ea M.cls hm l ?_
  exact PySem.W.callWith_K0 (first := [.ref a]) I1.kIn hm.kp (run_fn (us := [.ref a]) (vs := [.ref a]) F hr hb .nil hx I1 (.cons rfl .nil) q1)
/-- o.m(e, ..) of data -/
theorem d_meth {j : Nat} {pl : Sem Bool} (gs : List (Nat × FD)) (hk : ∀ q ∈ gs, Method X.prog X.w X.K X.mg X.base CX k m n q.1 q.2) (hr : Room j X.A) (hx : Passes CX X E) (he : PE X o (tD X.K E ma)) (ha : PA X (e :: es) (tAs X.K E ms)) [hml : ArLen n ms] (hj : k ≤ j := by decide)
    (hst : starEach (e :: es) X.env = (false, eval e X.env) :: starEach es X.env := by rfl) (hpl : (backTo pos (starEach es X.env)).any (·.1) = false := by rfl)
    (ht : eval (.Call (.Attribute o m apos) (e :: es) [] pos) X.env = (do let ov ← eval o X.env; standAt apos.atName; let (f, first) ← holding [ov] (getMethod ov m pl); callWith pos f first (backTo pos (starEach (e :: es) X.env)) (backToKw pos (keywordEach [] X.env))) := by rfl) :
    PE X (.Call (.Attribute o m apos) (e :: es) [] pos) (tD X.K E (mMeth gs ma ms)) :=
  (pe_methE hk (hr.mono hj) hx he ha hst hpl ht).imp fun σ H Q h => meth_gen (fun q hq => (hk q hq).nf) h
theorem d_meth0 {j : Nat} {pl : Sem Bool} (gs : List (Nat × FD)) (hk : ∀ q ∈ gs, Method X.prog X.w X.K X.mg X.base CX k m 0 q.1 q.2) (hr : Room j X.A) (hx : Passes CX X E) (he : PE X o (tD X.K E ma)) (hj : k ≤ j := by decide)
    (ht : eval (.Call (.Attribute o m apos) [] [] pos) X.env = (do let ov ← eval o X.env; standAt apos.atName; let (f, first) ← holding [ov] (getMethod ov m pl); callWith pos f first (backTo pos (starEach [] X.env)) (backToKw pos (keywordEach [] X.env))) := by rfl) :
    PE X (.Call (.Attribute o m apos) [] [] pos) (tD X.K E (mMeth gs ma mANil)) := by
  refine (pe_methE0 hk (hr.mono hj) hx he ht).imp fun σ H Q h => ?_
  have h2 := meth_gen (ms := mANil) (n := 0) (fun q hq => (hk q hq).nf) h
  obtain ⟨c, Z, ρ, r, q⟩ := h2
  refine ⟨c, Z, ρ, r, ?_⟩
  cases em : ma ρ with
  | fail => rw [em] at q; exact q
  | exc x l ρ2 => rw [em] at q; exact q
  | ok d ρ1 =>
    rw [em] at q
    intro x H1 r1 e1 h1
    obtain ⟨q', hq, a, dx, fs, ex, ea, l, cz, Z', ρ', r', qq⟩ := q x H1 r1 e1 h1
    exact ⟨q', hq, a, dx, fs, ex, ea, l, qq [] H1 r' Ext.refl .nil⟩
/-- x.m(e, ..) of a thing of one's own -/
theorem d_methS {j i : Nat} {x : Str} {np : Pos} {pl : Sem Bool} (gs : List (Nat × FD)) (hk : ∀ q ∈ gs, Method X.prog X.w X.K X.mg X.base CX k m n q.1 q.2) (hr : Room j X.A) (hx : Passes CX X E) (ha : PA X (e :: es) (tAs X.K E ms)) [hml : ArLen n ms] (hj : k ≤ j := by decide)
    (hN : X.N[i]? = some x := by rfl) (hv : Vis X.env.scope x := by first | exact Or.inl rfl | exact Or.inr (Or.inl rfl) | exact Or.inr (Or.inr rfl)) (hd : (x == ("__debug__" : Str)) = false := by decide) (hcd : (x == ("__classdict__" : Str)) = false := by decide)
    (hst : starEach (e :: es) X.env = (false, eval e X.env) :: starEach es X.env := by rfl) (hpl : (backTo pos (starEach es X.env)).any (·.1) = false := by rfl)
    (ht : eval (.Call (.Attribute (.Name x np) m apos) (e :: es) [] pos) X.env = (do let ov ← eval (.Name x np) X.env; standAt apos.atName; let (f, first) ← holding [ov] (getMethod ov m pl); callWith pos f first (backTo pos (starEach (e :: es) X.env)) (backToKw pos (keywordEach [] X.env))) := by rfl) :
    PE X (.Call (.Attribute (.Name x np) m apos) (e :: es) [] pos) (tD X.K E (mMethS gs i ms)) :=
  (pe_methE hk (hr.mono hj) hx (pe_var hN hv hd hcd) ha hst hpl ht).imp fun σ H Q h => meths_gen (fun q hq => (hk q hq).nf) h
theorem d_methS0 {j i : Nat} {x : Str} {np : Pos} {pl : Sem Bool} (gs : List (Nat × FD)) (hk : ∀ q ∈ gs, Method X.prog X.w X.K X.mg X.base CX k m 0 q.1 q.2) (hr : Room j X.A) (hx : Passes CX X E) (hj : k ≤ j := by decide)
    (hN : X.N[i]? = some x := by rfl) (hv : Vis X.env.scope x := by first | exact Or.inl rfl | exact Or.inr (Or.inl rfl) | exact Or.inr (Or.inr rfl)) (hd : (x == ("__debug__" : Str)) = false := by decide) (hcd : (x == ("__classdict__" : Str)) = false := by decide)
    (ht : eval (.Call (.Attribute (.Name x np) m apos) [] [] pos) X.env = (do let ov ← eval (.Name x np) X.env; standAt apos.atName; let (f, first) ← holding [ov] (getMethod ov m pl); callWith pos f first (backTo pos (starEach [] X.env)) (backToKw pos (keywordEach [] X.env))) := by rfl) :
    PE X (.Call (.Attribute (.Name x np) m apos) [] [] pos) (tD X.K E (mMethS gs i mANil)) := by
  refine (pe_methE0 hk (hr.mono hj) hx (pe_var hN hv hd hcd) ht).imp fun σ H Q h => ?_
  obtain ⟨v, h1, q', hq, a, dx, fs, ex, ea, l, cz, Z', ρ', r', qq⟩ := meths_gen (ms := mANil) (n := 0) (fun q hq => (hk q hq).nf) h
  exact ⟨v, h1, q', hq, a, dx, fs, ex, ea, l, qq [] H r' Ext.refl .nil⟩
end
end DL
set_option Elab.async false
set_option linter.all false
set_option maxRecDepth 100000
set_option maxHeartbeats 4000000
namespace DL
open PySem PySem.Spec PyProof.Rows L2
variable [CTab]
/-! ### objects of one's own -/
section
variable {K : PySem.W.Frag} {c : Cz} {Z : Addr → Prop} {ρ : Env} {σ : St} {H H' : Hp} {a : Addr} {t : Ct}
theorem Rel.made (r : Rel K c Z ρ σ H) (ha : H a = none) (s : Same H H') (h : RepC K H' (fun b => Z b ∨ b = a) t a) : NewAt K c (fun b => Z b ∨ b = a) ρ σ H' t a := by
  obtain ⟨o, ho, hc⟩ := h
  have n := r.newAt (p := a) (o := .lst []) (t := .lst []) ha ⟨[], rfl, Reps.nil⟩
  have r2 : Rel K c (fun b => Z b ∨ b = a) ρ σ (upd H a o) := r.addZ ha
  have s2 : Same (upd H a o) H' := fun b u e => by
    by_cases hb : b = a
    · subst hb
      rw [upd_same] at e
      cases e
      exact ho
    · rw [upd_ne hb] at e
      exact s b u e
  exact ⟨r2.same s2, .inr rfl, n.new, ⟨o, ho, hc⟩, n.no, n.nh⟩
end
def oNew (c : Nat) (g : FD) (ms : M (List Ar)) : M Ct := fun ρ => bindR (ms ρ) fun as ρ => match toWs ρ as with
  | some (ws, none) => (match g (.inn (.ob c []) :: ws) with
    | .ok .non [.ob c' l] => if c' = c then .ok (.ob c l) ρ else .fail
    | .exc x l => .exc x l ρ
    | _ => .fail)
  | _ => .fail
section
variable {X : Cx} {CX : CXT} {E : XK} {pos p : Pos} {e : Expr} {es : List Expr} {ms : M (List Ar)} {k n c : Nat} {g : FD} {x : Str} {K : PySem.W.Frag}
/-- what __init__ is given, and what it leaves -/
theorem new_gen {cz : Cz} {Z : Addr → Prop} {ρ1 : Env} {σ : St} {H1 : Hp} {as : List Ar} {vs : List V} {Q : VK} {a dx : Addr} (r1 : Rel K cz Z ρ1 σ H1) (h1 : rAr K σ H1 Z as vs) (hn : as.length = n) (ha : H1 a = none) (hdx : H1 dx = none) (hne : dx ≠ a)
    (q2 : match toWs ρ1 as with
      | some (ws, none) => (match g (.inn (.ob c []) :: ws) with
        | .ok .non [.ob c' l] => c' = c ∧ ∀ H', Same H1 H' → RepC K H' (fun b => Z b ∨ b = a) (.ob c l) a → Q (.ref a) H'
        | .exc x l => ∀ ed us H', Same H1 H' → H' ed = some (.xd ((cF x).zip us)) → us.length ≤ (cF x).length → Reps K H' Z l us → E (.ref (He.ga K (cN x))) (some ed) H'
        | _ => False)
      | _ => False) :
    spF K (n + 1) g (.ref a :: vs) (upd (upd H1 dx (.own a)) a (.ins (He.ga K (cN c)) dx [])) (fun v H2 => v = .non ∧ Q (.ref a) H2) E := by
  cases ew : toWs ρ1 as with
  | none => rw [ew] at q2; exact q2.elim
  | some y =>
    obtain ⟨ws, o⟩ := y
    rw [ew] at q2
    cases o with
    | some i => exact q2.elim
    | none =>
      simp only at q2
      obtain ⟨g1, g2⟩ := toWs_none r1 ew h1
      have s1 : Same H1 (upd H1 dx (.own a)) := same_upd hdx
      have ha2 : upd H1 dx (.own a) a = none := by rw [upd_ne (Ne.symm hne)]; exact ha
      have s2 : Same H1 (upd (upd H1 dx (.own a)) a (.ins (He.ga K (cN c)) dx [])) := s1.trans (same_upd ha2)
      have zs : ∀ b o, ¬ Z b → H1 b = some o → ¬ (Z b ∨ b = a) := fun b o n e z => z.elim n fun q => by
        rw [q, ha] at e
        cases e
      have hin : inAd (.inn (.ob c []) :: ws) (.ref a :: vs) = [a] := by
        show a :: inAd ws vs = [a]
        rw [g2]
      refine ⟨fun b => Z b ∨ b = a, .inn (.ob c []) :: ws, ?_, fun b z e => ?_, ⟨a, vs, rfl, .inr rfl, ⟨_, upd_same, dx, [], by rw [List.zip_nil_right], by simp, rfl⟩, (g1.zed zs g2).ext (Ext.same s2) g2⟩, by rw [hin]; simp, ?_⟩
      · show ws.length + 1 = n + 1
        rw [g1.len, ← rAr_len h1, hn]
      · rcases z with z | z
        · exact r1.dom b z (s2.free e)
        · rw [z, upd_same] at e
          cases e
      · cases ef : g (.inn (.ob c []) :: ws) with
        | fail => rw [ef] at q2; exact q2.elim
        | exc x' l =>
          rw [ef] at q2
          intro ed us H' hk h1 h2 h3
          rw [hin] at hk
          have s3 : Same H1 H' := fun b o h => hk b o (by rw [List.mem_singleton]; exact ne_of_none h ha) (s2 b o h)
          exact q2 ed us H' s3 h1 h2 (Reps.zed (fun b o n e z => n (.inl z)) _ _ h3)
        | ok d ts =>
          rw [ef] at q2
          match d, ts, q2 with
          | .non, [.ob c' l], q2 =>
            simp only at q2
            obtain ⟨hc, q2⟩ := q2
            subst hc
            intro v H' hk ht hd
            rw [hin] at hk ht
            obtain ⟨p', r', e2, hrc, _⟩ := ht
            cases e2
            have s3 : Same H1 H' := fun b o h => hk b o (by rw [List.mem_singleton]; exact ne_of_none h ha) (s2 b o h)
            exact ⟨hd, q2 H' s3 hrc⟩
          | .non, [], q2 => exact q2.elim
          | .non, [.lst _], q2 => exact q2.elim
          | .non, [.dct _ _], q2 => exact q2.elim
          | .non, t1 :: _ :: _, q2 =>
            cases t1 <;> exact q2.elim
          | .bl _, _, q2 => exact q2.elim
          | .int _, _, q2 => exact q2.elim
          | .str _, _, q2 => exact q2.elim
          | .lst _, _, q2 => exact q2.elim
          | .rol _, _, q2 => exact q2.elim
          | .tup _, _, q2 => exact q2.elim
          | .dct _ _, _, q2 => exact q2.elim
          | .ob _ _, _, q2 => exact q2.elim
theorem own_new {cz : Cz} {Z : Addr → Prop} {ρ1 : Env} {σ : St} {H1 : Hp} {as : List Ar} {vs : List V} {Q : VK} {a dx : Addr} (r1 : Rel K cz Z ρ1 σ H1) (h1 : rAr K σ H1 Z as vs) (hn : as.length = n) (ha : H1 a = none) (hdx : H1 dx = none) (hne : dx ≠ a)
    (q : match (match toWs ρ1 as with
      | some (ws, none) => (match g (.inn (.ob c []) :: ws) with
        | .ok .non [.ob c' l] => if c' = c then Res.ok (Ct.ob c l) ρ1 else .fail
        | .exc x l => .exc x l ρ1
        | _ => .fail)
      | _ => .fail : Res Ct) with
      | .fail => False
      | .ok t ρ' => ∀ p Z' H', NewAt K cz Z' ρ' σ H' t p → (∀ d v, Rep K H1 Z d v → Rep K H' Z' d v) → Q (.ref p) H'
      | .exc x l ρ' => ∀ ed vs H', Rel K cz Z ρ' σ H' → H' ed = some (.xd ((cF x).zip vs)) → vs.length ≤ (cF x).length → Reps K H' Z l vs → E (.ref (He.ga K (cN x))) (some ed) H') :
    spF K (n + 1) g (.ref a :: vs) (upd (upd H1 dx (.own a)) a (.ins (He.ga K (cN c)) dx [])) (fun v H2 => v = .non ∧ Q (.ref a) H2) E := by
  refine new_gen r1 h1 hn ha hdx hne ?_
  cases ew : toWs ρ1 as with
  | none => rw [ew] at q; exact q
  | some y =>
    obtain ⟨ws, o⟩ := y
    rw [ew] at q
    cases o with
    | some i => exact q
    | none =>
      simp only at q ⊢
      cases ef : g (.inn (.ob c []) :: ws) with
      | fail => rw [ef] at q; exact q
      | exc x l => rw [ef] at q; exact fun ed us H' s h2 h3 h4 => q ed us H' (r1.same s) h2 h3 h4
      | ok d ts =>
        rw [ef] at q
        match d, ts, q with
        | .non, [.ob c' l], q =>
          simp only at q ⊢
          by_cases hc : c' = c
          · subst hc
            rw [if_pos rfl] at q
            refine ⟨rfl, fun H' s h => q a _ H' (r1.made ha s h) fun d v hd => (hd.zed fun b u n e z => z.elim n fun w => by rw [w, ha] at e; cases e).ext (Ext.same s)⟩
          · rw [if_neg hc] at q
            exact q.elim
        | .non, [], q => exact q
        | .non, [.lst _], q => exact q
        | .non, [.dct _ _], q => exact q
        | .non, t1 :: _ :: _, q => cases t1 <;> exact q
        | .bl _, _, q => exact q
        | .int _, _, q => exact q
        | .str _, _, q => exact q
        | .lst _, _, q => exact q
        | .rol _, _, q => exact q
        | .tup _, _, q => exact q
        | .dct _ _, _, q => exact q
        | .ob _ _, _, q => exact q
/-- x = C(..), the object one's own -/
theorem o_new {j : Nat} (mk : Maker X.prog X.w X.K X.mg X.base CX k x n c g) (hr : Room j X.A) (hx : Passes CX X E) (ha : PA X (e :: es) (tAs X.K E ms)) [hml : ArLen n ms] (hj : k + 1 ≤ j := by decide) (hg : Gl X x := by rfl) (hdb : (x == ("__debug__" : Str)) = false := by decide)
    (he : starEach (e :: es) X.env = (false, eval e X.env) :: starEach es X.env := by rfl) (hpl : (backTo pos (starEach es X.env)).any (·.1) = false := by rfl) :
    PE X (.Call (.Name x p) (e :: es) [] pos) (tO X.K E (oNew c g ms)) := by
  obtain ⟨f, fd, ps, M, F, hb, hps⟩ := mk.ex
  refine (pe_make M F (hr.mono hj) hg mk.gl hb .nil hx ha hdb he hpl).imp fun σ H Q h => ?_
  obtain ⟨cz, Z, ρ, r, q⟩ := h
  refine ⟨cz, Z, ρ, r, ?_⟩
  unfold oNew at q
  cases em : ms ρ with
  | fail => rw [em] at q; exact q
  | exc x l ρ1 => rw [em] at q; exact fun ed vs H' h1 h2 h3 h4 h5 => q ed vs H' h1 h3 h4 h5
  | ok as ρ1 =>
    rw [em] at q
    simp only [bindR_ok] at q
    intro vs H1 r1 e1 h1 a dx ha hdx hne
    rw [List.append_nil, mk.nm]
    refine own_new (ρ1 := ρ1) r1 h1 (hml.len _ _ _ em) ha hdx hne ?_
    split at q
    · rename_i he
      exact q.elim
    · rename_i t ρ' he
      first
      | exact fun p Z' H' n hk => q p Z' H' n fun d v hd => hk d v (hd.ext e1)
      | (rw [he]; exact fun p Z' H' n hk => q p Z' H' n fun d v hd => hk d v (hd.ext e1))
    · rename_i y l ρ' he
      first
      | exact q
      | (rw [he]; exact q)
theorem o_new0 {j : Nat} (mk : Maker X.prog X.w X.K X.mg X.base CX k x 0 c g) (hr : Room j X.A) (hx : Passes CX X E) (hj : k + 1 ≤ j := by decide) (hg : Gl X x := by rfl) (hdb : (x == ("__debug__" : Str)) = false := by decide) :
    PE X (.Call (.Name x p) [] [] pos) (tO X.K E (oNew c g mANil)) := by
  obtain ⟨f, fd, ps, M, F, hb, hps⟩ := mk.ex
  refine (pe_make0 M F (hr.mono hj) hg mk.gl hb .nil hx hdb).imp fun σ H Q h => ?_
  obtain ⟨cz, Z, ρ, r, q⟩ := h
  intro a dx ha hdx hne
  rw [mk.nm]
  exact own_new (as := []) (vs := []) r .nil rfl ha hdx hne q
theorem d_new0 {j : Nat} (mk : Maker X.prog X.w X.K X.mg X.base CX k x 0 c g) (hr : Room j X.A) (hx : Passes CX X E) (hj : k + 1 ≤ j := by decide) (hg : Gl X x := by rfl) (hdb : (x == ("__debug__" : Str)) = false := by decide) :
    PE X (.Call (.Name x p) [] [] pos) (tD X.K E (mNew c g mANil)) := by
  obtain ⟨f, fd, ps, M, F, hb, hps⟩ := mk.ex
  refine (pe_make0 M F (hr.mono hj) hg mk.gl hb .nil hx hdb).imp fun σ H Q h => ?_
  obtain ⟨cz, Z, ρ, r, q⟩ := h
  intro a dx ha hdx hne
  rw [mk.nm]
  refine new_gen (as := []) (vs := []) r .nil rfl ha hdx hne ?_
  have q : tR X.K E rD cz Z σ H Q (match g [.inn (.ob c [])] with
    | .ok .non [.ob c' l] => if c' = c then .ok (.ob c l) ρ else .fail
    | .exc x l => .exc x l ρ
    | _ => .fail) := q
  show match g [.inn (.ob c [])] with
    | .ok .non [.ob c' l] => c' = c ∧ ∀ H', Same H H' → RepC X.K H' (fun b => Z b ∨ b = a) (.ob c l) a → Q (.ref a) H'
    | .exc x l => ∀ ed us H', Same H H' → H' ed = some (.xd ((cF x).zip us)) → us.length ≤ (cF x).length → Reps X.K H' Z l us → E (.ref (He.ga X.K (cN x))) (some ed) H'
    | _ => False
  split at q
  · rename_i c' l he
    try rw [he]
    split at q
    · rename_i hc
      refine ⟨hc, fun H' s hrc => q.new r s ?_⟩
      obtain ⟨o, ho, dx', us, eo, hl, hr'⟩ := hrc
      subst eo
      show Rep X.K H' Z (.ob c l) (.ref a)
      simp only [Rep]
      exact ⟨a, dx', us, rfl, fun z => r.dom a z ha, ho, hl, Reps.zed (fun b o n e z => n (.inl z)) _ _ hr'⟩
    · exact q.elim
  · rename_i x' l he
    try rw [he]
    exact fun ed us H' s h1 h2 h3 => q ed us H' (r.same s) (Ext.same s) h1 h2 h3
  · exact q.elim
end
end DL
set_option Elab.async false
set_option linter.all false
set_option maxRecDepth 100000
set_option maxHeartbeats 4000000
namespace DL
open PySem PySem.Spec PyProof.Rows L2
variable [CTab]
/-! ### things of one's own are written at a place -/
section
variable {X : Cx} {E : XK} {pos tpos : Pos} {e ei : Expr} {m mi : M D} {K : PySem.W.Frag}
/-- x[e] = e2 of a list of one's own -/
theorem s_setIx (i : Nat) {x : Str} {np : Pos} (hei : PE X ei (tD X.K E mi)) (he : PE X e (tD X.K E m))
    (hN : X.N[i]? = some x := by rfl) (hv : Vis X.env.scope x := by first | exact Or.inl rfl | exact Or.inr (Or.inl rfl) | exact Or.inr (Or.inr rfl)) (hd : (x == ("__debug__" : Str)) = false := by decide) (hcd : (x == ("__classdict__" : Str)) = false := by decide)
    (ha : ∀ v, assign (.Subscript (.Name x np) ei tpos) X.env v = (do let ov ← holding [v] (eval (.Name x np) X.env); let iv ← holding [v, ov] (eval ei X.env); standAt tpos; holding [v, ov, iv] (setItem ov iv v); release [v, ov, iv] []) := by intro _; rfl)
    (hs : swapsWithSole [.Subscript (.Name x np) ei tpos] e pos.line X.env = pure false := by rfl) (hw : swappedStores [.Subscript (.Name x np) ei tpos] e X.env = pure none := by rfl) (h1 : (assignEach [.Subscript (.Name x np) ei tpos] X.env).map (·.2) = [assign (.Subscript (.Name x np) ei tpos) X.env] := by rfl) :
    PS X (.Assign [.Subscript (.Name x np) ei tpos] e pos) (tS X.K E (mSetIx i mi m)) := by
  refine (ps_asg he (pg_sub (pe_var hN hv hd hcd) hei set_list ha) hs hw h1).imp fun Dn σ H h => ?_
  obtain ⟨c, ρ, ⟨Z, r⟩, q⟩ := h
  refine ⟨c, Z, ρ, r, tSR.expr q fun d ρ1 v H1 r1 hd q1 => ?_⟩
  split at q1
  · rename_i l0 ht
    obtain ⟨p, w, _, _, g1, hz, o, ho, us, rfl, hus⟩ := holds_rel r1 ht
    refine ⟨_, g1, c, Z, ρ1, r1, ?_⟩
    have hd : Rep X.K H1 Z d v := hd
    cases em : mi ρ1 with
    | fail => rw [em] at q1; exact q1
    | exc x l ρ2 => rw [em] at q1; exact fun ed vs H' h1 h2 h3 h4 h5 => q1 σ ed vs H' ⟨Z, h1⟩ h3 h4 (Reps.zed h1.z0 _ _ h5)
    | ok k ρ2 =>
      rw [em] at q1
      simp only [bindR_ok] at q1
      intro kv H2 r2 e2 hk
      split at q1
      · rename_i j l2 ht2
        cases (show kv = _ from hk)
        obtain ⟨us', k', g2, g3, g4⟩ := cSetAt_ok (v := v) r2 g1 (hd.ext e2) q1
        exact ⟨p, us', j, k', rfl, rfl, g2, g3, g4⟩
      · exact q1.elim
  · exact q1.elim
/-- x[e] = e2 of a dict of one's own: e2 first, then x, then e -/
def cPut (k : Key) : Ct → D → Option Ct
  | .dct ks l, d => if ks.length < sizeLine then some (.dct (putD ks l k d).1 (putD ks l k d).2) else none
  | _, _ => none
def mPut (i : Nat) (mi m : M D) : M Fl := fun ρ => bindR (m ρ) fun d ρ => (match holds ρ i with
  | some (.dct _ _) => bindR (mi ρ) fun k ρ => (match k.key, holds ρ i with
    | some j, some (.dct _ _) => mMutNow i (cPut j) d ρ
    | _, _ => .fail)
  | _ => .fail)
theorem cPut_ok {c : Cz} {Z : Addr → Prop} {ρ : Env} {σ : St} {H : Hp} {Dn : Ends} {i : Nat} {j : Key} {d : D} {v : V} {p : Addr} (r : Rel K c Z ρ σ H) (hp : σ[i]? = some (some (.ref p))) (hd : Rep K H Z d v) (q : tSR K E c Dn (mMutNow i (cPut j) d ρ)) :
    ∃ kvs, H p = some (.dK kvs) ∧ kvs.length < sizeLine ∧ Dn.nx σ (upd H p (.dK (putK kvs j v))) := by
  obtain ⟨p', t, t', h1, ⟨o, h2, h3⟩, hz, hf, kk⟩ := mut_gen (d := d) q r
  rw [hp] at h1
  cases h1
  cases t with
  | lst _ => cases hf
  | ob _ _ => cases hf
  | dct ks l =>
    obtain ⟨us, rfl, hl, hus⟩ := h3
    simp only [cPut] at hf
    split at hf
    · rename_i hsz
      cases hf
      obtain ⟨us', e1, e2, e3⟩ := putK_zip (k := j) hl hus hd
      have ex : Ext Z H (upd H p (.dK (putK (ks.zip us) j v))) := fun a o nz e => by rw [upd_ne (fun z => nz (by rw [z]; exact hz))]; exact e
      refine ⟨_, h2, by rw [zip_len_of hl]; exact hsz, kk _ (fun a o ne e => by rw [upd_ne ne]; exact e) ⟨_, upd_same, us', ?_, e2, Reps.ext ex _ _ e3⟩⟩
      rw [e1]
    · cases hf
theorem s_put {k : Nat} (hr : Room k X.A) (i : Nat) {x : Str} {np : Pos} (hei : PE X ei (tD X.K E mi)) (he : PE X e (tD X.K E m))
    (hN : X.N[i]? = some x := by rfl) (hv : Vis X.env.scope x := by first | exact Or.inl rfl | exact Or.inr (Or.inl rfl) | exact Or.inr (Or.inr rfl)) (hd : (x == ("__debug__" : Str)) = false := by decide) (hcd : (x == ("__classdict__" : Str)) = false := by decide)
    (hs : swapsWith e (some (.Subscript (.Name x np) ei tpos)) pos.line X.env = pure false := by rfl) :
    PS X (.Assign [.Subscript (.Name x np) ei tpos] e pos) (tS X.K E (mPut i mi m)) := by
  refine (ps_dput (hu_of hr) (pe_var hN hv hd hcd) hei he hs).imp fun Dn σ H h => ?_
  obtain ⟨c, ρ, ⟨Z, r⟩, q⟩ := h
  refine ⟨c, Z, ρ, r, tSR.expr q fun d ρ1 v H1 r1 hd q1 => ?_⟩
  split at q1
  · rename_i ks0 l0 ht
    obtain ⟨p, w, _, _, g1, hz, _⟩ := holds_rel r1 ht
    refine ⟨_, g1, c, Z, ρ1, r1, ?_⟩
    have hd : Rep X.K H1 Z d v := hd
    cases em : mi ρ1 with
    | fail => rw [em] at q1; exact q1
    | exc x l ρ2 => rw [em] at q1; exact fun ed vs H' h1 h2 h3 h4 h5 => q1 σ ed vs H' ⟨Z, h1⟩ h3 h4 (Reps.zed h1.z0 _ _ h5)
    | ok kd ρ2 =>
      rw [em] at q1
      simp only [bindR_ok] at q1
      intro kv H2 r2 e2 hk
      split at q1
      · rename_i j ks2 l2 hkey ht2
        have ek : kv = kV j := D.key_rep hkey hk
        subst ek
        obtain ⟨kvs, g2, g3, g4⟩ := cPut_ok (v := v) r2 g1 (hd.ext e2) q1
        exact ⟨p, _, rfl, DPut.k g2 g3, g4⟩
      · exact q1.elim
  · exact q1.elim
end
end DL
set_option Elab.async false
set_option linter.all false
set_option maxRecDepth 100000
set_option maxHeartbeats 4000000
/-! ### C() of a class without an __init__ of its own -/
namespace OB
open PySem PySem.Spec PyProof.Rows L2
section
variable {X : Cx} {C : Addr} {x : Str} {p pos : Pos}
/-- a plain class: made by object's own -/
structure Plain (K : PySem.W.Frag) (C : Addr) : Prop where
  makes : PySem.W.makesIn K C = true
  init : PySem.W.findIn K (.ref C) "__init__" = some (some (.builtin "object.__init__"))
  kp : PySem.W.keepIn K (.ref C) = true
def tPlain (C : Addr) : TE := fun _ H Q => ∀ a dx, H a = none → H dx = none → dx ≠ a → Q (.ref a) (upd (upd H dx (.own a)) a (.ins C dx []))
theorem pe_plain (M : Plain X.K C) (hg : Gl X x) (hm : X.mg x = some (.ref C)) (hdb : (x == ("__debug__" : Str)) = false := by decide) : PE X (.Call (.Name x p) [] [] pos) (tPlain C) := by
  constructor
  intro pins s σ H Q I h
  refine wpAny_Call_Name_kw (ld_glob I hg hm ?_ hdb)
  refine PySem.W.callWith_K0 I.kIn M.kp ?_
  have q := h (s.heap.objs.size + 1) s.heap.objs.size (I.hok.fresh (Nat.le_succ _)) (I.hok.fresh (Nat.le_refl _)) (Nat.ne_of_lt (Nat.lt_succ_self _))
  have I2 := Inv.made (C := C) I
  have Y := PySem.W.makes_of (M := model X.prog X.w) I.kIn M.makes
  refine wpAny_call (make_map0 I.kIn M.makes M.init (fun self => PySem.W.Looks.of_pure (PySem.W.oi_bind self)) ?_)
  have e2 : ((s.heap.push PySem.W.emptyDict).push (PySem.W.instObj C s.heap.objs.size)).get? (s.heap.objs.size + 1) = some (PySem.W.instObj C s.heap.objs.size) := by
    have := Heap.get?_push_size (s.heap.push PySem.W.emptyDict) (o := PySem.W.instObj C s.heap.objs.size) rfl
    rwa [Heap.size_push] at this
  have t1 : PySem.W.Looks (model X.prog X.w) ((s.heap.push PySem.W.emptyDict).push (PySem.W.instObj C s.heap.objs.size)) (typeOf (.ref (s.heap.objs.size + 1))) (.ref C) := (PySem.W.Looks.ld e2).andThen .now
  have t2 : PySem.W.Looks (model X.prog X.w) ((s.heap.push PySem.W.emptyDict).push (PySem.W.instObj C s.heap.objs.size)) (isInstance (.ref (s.heap.objs.size + 1)) (.type "object")) true := t1.andThen (Y.top.keeps fun b o e => Heap.get?_push_of_some _ (Heap.get?_push_of_some _ e))
  refine codeAny_call_builtin PySem.W.oi_plain PySem.W.entry_oi (@PySem.W.check_slot (model X.prog X.w) _ _ _ "object.__init__" "object" "__init__" (.ref (s.heap.objs.size + 1)) [] [] _ PySem.W.oi_kind PySem.W.oi_split t2 (PySem.W.oi_args _) ?_)
  rw [PySem.W.oi_run]
  exact wpAny_pure (And.intro rfl ⟨V.ref (s.heap.objs.size + 1), _, I2, rfl, q⟩)
end
end OB
namespace DL
open PySem PySem.Spec PyProof.Rows L2
variable [CTab]
def mPlain (c : Nat) : M D := fun ρ => .ok (.ob c []) ρ
theorem d_plain {X : Cx} {E : XK} {c : Nat} {x : Str} {p pos : Pos} (M : OB.Plain X.K (He.ga X.K (cN c))) (hm : X.mg x = some (.ref (He.ga X.K (cN c)))) (hg : Gl X x := by rfl) (hdb : (x == ("__debug__" : Str)) = false := by decide) : PE X (.Call (.Name x p) [] [] pos) (tD X.K E (mPlain c)) := by
  refine (OB.pe_plain M hg hm hdb).imp fun σ H Q h => ?_
  obtain ⟨cz, Z, ρ, r, q⟩ := h
  intro a dx ha hdx hne
  have s1 : Same H (upd H dx (.own a)) := same_upd hdx
  have ha2 : upd H dx (.own a) a = none := by rw [upd_ne (Ne.symm hne)]; exact ha
  refine q.new r (s1.trans (same_upd ha2)) ?_
  show Rep X.K _ Z (.ob c []) (.ref a)
  simp only [Rep]
  exact ⟨a, dx, [], rfl, fun z => r.dom a z ha, by rw [upd_same, List.zip_nil_right], by simp, rfl⟩
end DL
set_option Elab.async false
set_option linter.all false
set_option maxRecDepth 100000
set_option maxHeartbeats 4000000
namespace DL
open PySem PySem.Spec PyProof.Rows L2
variable [CTab]
/-! ### try, the body raises nothing -/
theorem s_tryN {X : Cx} {E : XK} {pos : Pos} {body : List Stmt} {h₀ hs} {b : M Fl} (hn : ∀ e s, ¬ X.xe e s) (hb : PSs X body (tS X.K E b)) : PS X (.Try body (h₀ :: hs) [] [] pos) (tS X.K E b) :=
  ps_try_never (u := tNext) hn hb pss_nil
end DL
set_option Elab.async false
set_option linter.all false
set_option maxRecDepth 100000
set_option maxHeartbeats 4000000
/-! ### a field as a target -/
namespace OB
open PySem PySem.Spec PyProof.Rows L2
def gFld (K : PySem.W.Frag) (to : TE) (f : Str) : TG := fun v σ H Q => to σ H fun x H2 => ∃ a C dx fs, x = .ref a ∧ H2 a = some (.ins C dx fs) ∧ Cls K C ∧ NoAttr K C f ∧ fs.length < 1000 ∧ Q σ (upd H2 a (.ins C dx (putF f v fs)))
theorem pg_fld {X : Cx} {o : Expr} {f : Str} {pos : Pos} {to : TE} (ho : PE X o to)
    (ha : ∀ v, assign (.Attribute o f pos) X.env v = (do let ov ← holding [v] (eval o X.env); standAt pos.atName; holding [v, ov] (setAttr ov f v); release [v, ov] []) := by intro _; rfl) : PG X (.Attribute o f pos) (gFld X.K to f) := by
  constructor
  intro pins s σ H v u Q I r h
  rw [ha]
  refine wpAny_bind (wpAny_holding (thn (ho.run pins s σ H _ I h) ?_))
  rintro ov s1 ⟨x, H1, I1, rx, a, C, dx, fs, ex, ea, c, n, l, q⟩
  subst ex
  obtain rfl : ov = Value.ref a := rx
  refine wpAny_bind (wpAny_standAt (wpAny_bind (wpAny_holding (setattr_ok I1 ea c n l r fun s2 I2 => ?_))))
  exact wpAny_release ⟨σ, _, I2, q⟩
end OB
namespace DL
open PySem PySem.Spec PyProof.Rows L2
variable [CTab]
/-- the j-th field of the own thing in slot i takes data -/
def mTF (i c j : Nat) : MT := fun d ρ => match mMutNow i (cFld c j) d ρ with
  | .ok .nx ρ' => some ρ'
  | _ => none
end DL
set_option Elab.async false
set_option linter.all false
set_option maxRecDepth 100000
set_option maxHeartbeats 4000000
namespace DL
open PySem PySem.Spec PyProof.Rows L2
variable [CTab]
section
variable {X : Cx} {E : XK} {pos : Pos} {e : Expr} {m : M D} {K : PySem.W.Frag}
/-- a field of the own thing in slot i takes data: what a target's reading asks -/
theorem fld_gen {n : Nat} {f : Str} (cf : CFacts K n) {i c j : Nat} (hc : c < n) (hj : (cF c)[j]? = some f) (hl : (cF c).length < 1000) {cz : Cz} {Z : Addr → Prop} {ρ : Env} {σ : St} {H : Hp} {Dn : Ends} {d : D} {v : V} (r : Rel K cz Z ρ σ H) (hd : Rep K H Z d v)
    (q : tSR K E cz Dn (mMutNow i (cFld c j) d ρ)) : OB.gFld K (tVar i) f v σ H Dn.nx := by
  obtain ⟨p, t, t', h1, ⟨o, h2, h3⟩, hz, hf, k⟩ := mut_gen (d := d) q r
  cases t with
  | lst _ => cases hf
  | dct _ _ => cases hf
  | ob c' l =>
    have hf : (if c' = c then (if j < l.length then some (Ct.ob c (l.set j d)) else if j = l.length then some (Ct.ob c (l ++ [d])) else none) else none) = some t' := hf
    split at hf
    · rename_i ec
      subst ec
      obtain ⟨dx, vs, rfl, hlen, hr⟩ := h3
      have hll := hr.len
      obtain ⟨g1, g2⟩ := putF_at (v := v) (vs := vs) (cf.nd c' hc) hj
      have ex : ∀ o', Ext Z H (upd H p o') := fun o' a o nz e => by rw [upd_ne (fun z => nz (by rw [z]; exact hz))]; exact e
      have hz1 : ((cF c').zip vs).length < 1000 := by rw [List.length_zip]; omega
      have hjl := (List.getElem?_eq_some_iff.mp hj).1
      refine ⟨_, h1, p, _, dx, _, rfl, h2, (cf.cls c' hc).cl, cf.noat c' f hc (List.mem_of_getElem? hj), hz1, ?_⟩
      refine k _ (fun a o ne e => by rw [upd_ne ne]; exact e) ?_
      split at hf
      · rename_i hlt
        cases hf
        exact ⟨_, upd_same, dx, vs.set j v, by rw [g1 (by omega)], by simpa using hlen, Reps.set (Rep.ext (ex _) _ _ hd) j (Reps.ext (ex _) _ _ hr)⟩
      · split at hf
        · rename_i hlt heq
          cases hf
          exact ⟨_, upd_same, dx, vs ++ [v], by rw [g2 (by omega)], by simp; omega, (Reps.ext (ex _) _ _ hr).app (Reps.one (Rep.ext (ex _) _ _ hd))⟩
        · cases hf
    · cases hf
end
end DL
set_option Elab.async false
set_option linter.all false
set_option maxRecDepth 100000
set_option maxHeartbeats 4000000
namespace DL
open PySem PySem.Spec PyProof.Rows L2
variable [CTab]
section
variable {K : PySem.W.Frag}
/-- a change of the thing in slot i, the relation kept -/
theorem mutZ {i : Nat} {f : Ct → D → Option Ct} {c : Cz} {Z : Addr → Prop} {ρ ρ' : Env} {σ : St} {H : Hp} {d : D} (h : mMutNow i f d ρ = .ok .nx ρ') (r : Rel K c Z ρ σ H) :
    ∃ p t t', σ[i]? = some (some (.ref p)) ∧ RepC K H Z t p ∧ Z p ∧ f t d = some t' ∧ ∀ H', (∀ a o, a ≠ p → H a = some o → H' a = some o) → RepC K H' Z t' p → Rel K c Z ρ' σ H' := by
  unfold mMutNow at h
  split at h
  · rename_i w hw
    split at h
    · rename_i t ht
      split at h
      · rename_i t' hf
        cases h
        obtain ⟨w', hw', hh⟩ := holds_hold ht
        rw [hw] at hw'
        cases hw'
        obtain ⟨p, h1, h2, h3⟩ := r.hold hw hh
        exact ⟨p, t, t', h1, h3, h2, hf, fun H' hk hn => r.put hw hh h1 hk hn⟩
      · cases h
    · cases h
  · cases h
/-- fields of the own thing in slot i, one behind another -/
def putFs (i c : Nat) : List Nat → List D → Env → Option Env
  | [], [], ρ => some ρ
  | j :: js, d :: ds, ρ => (match mMutNow i (cFld c j) d ρ with
    | .ok .nx ρ1 => putFs i c js ds ρ1
    | _ => none)
  | _, _, _ => none
theorem fld_step {n : Nat} {f : Str} (cf : CFacts K n) {i c j : Nat} (hc : c < n) (hj : (cF c)[j]? = some f) (hl : (cF c).length < 1000) {cz : Cz} {Z : Addr → Prop} {ρ ρ' : Env} {σ : St} {H : Hp} {d : D} {v : V} {Q : St → Hp → Prop} (r : Rel K cz Z ρ σ H) (hd : Rep K H Z d v)
    (h : mMutNow i (cFld c j) d ρ = .ok .nx ρ') (q : ∀ H', Rel K cz Z ρ' σ H' → Ext Z H H' → Q σ H') : OB.gFld K (tVar i) f v σ H Q := by
  obtain ⟨p, t, t', h1, ⟨o, h2, h3⟩, hz, hf, k⟩ := mutZ h r
  cases t with
  | lst _ => cases hf
  | dct _ _ => cases hf
  | ob c' l =>
    have hf : (if c' = c then (if j < l.length then some (Ct.ob c (l.set j d)) else if j = l.length then some (Ct.ob c (l ++ [d])) else none) else none) = some t' := hf
    split at hf
    · rename_i ec
      subst ec
      obtain ⟨dx, vs, rfl, hlen, hr⟩ := h3
      have hll := hr.len
      obtain ⟨g1, g2⟩ := putF_at (v := v) (vs := vs) (cf.nd c' hc) hj
      have ex : ∀ o', Ext Z H (upd H p o') := fun o' a o nz e => by rw [upd_ne (fun z => nz (by rw [z]; exact hz))]; exact e
      have hz1 : ((cF c').zip vs).length < 1000 := by rw [List.length_zip]; omega
      have hjl := (List.getElem?_eq_some_iff.mp hj).1
      refine ⟨_, h1, p, _, dx, _, rfl, h2, (cf.cls c' hc).cl, cf.noat c' f hc (List.mem_of_getElem? hj), hz1, q _ (k _ (fun a o ne e => by rw [upd_ne ne]; exact e) ?_) (ex _)⟩
      split at hf
      · rename_i hlt
        cases hf
        exact ⟨_, upd_same, dx, vs.set j v, by rw [g1 (by omega)], by simpa using hlen, Reps.set (Rep.ext (ex _) _ _ hd) j (Reps.ext (ex _) _ _ hr)⟩
      · split at hf
        · rename_i hlt heq
          cases hf
          exact ⟨_, upd_same, dx, vs ++ [v], by rw [g2 (by omega)], by simp; omega, (Reps.ext (ex _) _ _ hr).app (Reps.one (Rep.ext (ex _) _ _ hd))⟩
        · cases hf
    · cases hf
end
end DL
set_option Elab.async false
set_option linter.all false
set_option maxRecDepth 100000
set_option maxHeartbeats 4000000
namespace DL
open PySem PySem.Spec PyProof.Rows L2
variable [CTab]
def tFs (K : PySem.W.Frag) (i c : Nat) (js : List Nat) : TGs := fun vs σ H Q => ∃ cz Z ρ l ρ', Rel K cz Z ρ σ H ∧ Reps K H Z l vs ∧ putFs i c js l ρ = some ρ' ∧ ∀ H', Rel K cz Z ρ' σ H' → Q σ H'
def mAsgF (i c : Nat) (js : List Nat) (m : M D) : M Fl := fun ρ => bindR (m ρ) fun d ρ => match d with
  | .tup l => (match putFs i c js l ρ with
    | some ρ' => .ok .nx ρ'
    | none => .fail)
  | _ => .fail
section
variable {X : Cx} {E : XK} {pos tpos apos : Pos} {e : Expr} {es : List Expr} {m : M D} {i c j : Nat} {js : List Nat}
theorem gf_nil : PGs X [] (tFs X.K i c []) := by
  refine pgs_nil.imp fun vs σ H Q h => ?_
  obtain ⟨cz, Z, ρ, l, ρ', r, hl, hp, q⟩ := h
  cases l with
  | nil =>
    cases hp
    exact ⟨hl, q H r⟩
  | cons _ _ => cases hp
theorem gf_cons {n : Nat} {f x : Str} {np : Pos} (cf : CFacts X.K n) (j : Nat) (hc : c < n) (hj : (cF c)[j]? = some f) (hl : (cF c).length < 1000) (hr : PGs X es (tFs X.K i c js)) (hN : X.N[i]? = some x := by rfl) (hv : Vis X.env.scope x := by first | exact Or.inl rfl | exact Or.inr (Or.inl rfl) | exact Or.inr (Or.inr rfl))
    (hd : (x == ("__debug__" : Str)) = false := by decide) (hcd : (x == ("__classdict__" : Str)) = false := by decide)
    (ha : ∀ v, assign (.Attribute (.Name x np) f apos) X.env v = (do let ov ← holding [v] (eval (.Name x np) X.env); standAt apos.atName; holding [v, ov] (setAttr ov f v); release [v, ov] []) := by intro _; rfl)
    (hs : (assignEach (.Attribute (.Name x np) f apos :: es) X.env).map (·.2) = assign (.Attribute (.Name x np) f apos) X.env :: (assignEach es X.env).map (·.2) := by rfl) : PGs X (.Attribute (.Name x np) f apos :: es) (tFs X.K i c (j :: js)) := by
  refine (pgs_cons (OB.pg_fld (pe_var hN hv hd hcd) ha) hr hs).imp fun vs σ H Q h => ?_
  obtain ⟨cz, Z, ρ, l, ρ', r, hrl, hp, q⟩ := h
  cases l with
  | nil => cases hp
  | cons d ds =>
    obtain ⟨u, us, rfl, h1, h2⟩ := hrl.inv
    have hp : (match mMutNow i (cFld c j) d ρ with
      | .ok .nx ρ1 => putFs i c js ds ρ1
      | _ => none) = some ρ' := hp
    split at hp
    · rename_i ρ1 hm
      exact ⟨u, us, rfl, fld_step cf hc hj hl r h1 hm fun H' r' ex => ⟨cz, Z, ρ1, ds, ρ', r', Reps.ext ex _ _ h2, hp, q⟩⟩
    · cases hp
/-- o.a, o.b = .. -/
theorem s_asgF {k : Nat} (hc : X.calm = true) (he : PE X e (tD X.K E m)) (hg : PGs X es (tFs X.K i c js)) (hn : (assignEach es X.env).length = js.length := by rfl) (hst : (assignEach es X.env).findIdx? (·.1) = none := by rfl)
    (hs : swapsWithSole [.Tuple es k tpos] e pos.line X.env = pure false := by rfl) (hw : swappedStores [.Tuple es k tpos] e X.env = pure none := by rfl) (h1 : (assignEach [.Tuple es k tpos] X.env).map (·.2) = [assign (.Tuple es k tpos) X.env] := by rfl) :
    PS X (.Assign [.Tuple es k tpos] e pos) (tS X.K E (mAsgF i c js m)) := by
  refine (ps_asg he (pg_tup hc hg hn hst) hs hw h1).imp fun Dn σ H h => ?_
  obtain ⟨cz, ρ, ⟨Z, r⟩, q⟩ := h
  refine ⟨cz, Z, ρ, r, tSR.expr q fun d ρ1 v H1 r1 hd q1 => ?_⟩
  cases d <;> first | (exact q1.elim; done) | skip
  rename_i l
  have hd : Rep X.K H1 Z (.tup l) v := hd
  simp only [Rep] at hd
  obtain ⟨p, us, rfl, h2, h3⟩ := hd
  have len : ∀ (js : List Nat) (l : List D) (ρ ρ' : Env), putFs i c js l ρ = some ρ' → l.length = js.length := by
    intro js
    induction js with
    | nil => intro l ρ ρ' h; cases l with | nil => rfl | cons _ _ => cases h
    | cons a js ih =>
      intro l ρ ρ' h
      cases l with
      | nil => cases h
      | cons d l =>
        unfold putFs at h
        split at h
        · exact congrArg (· + 1) (ih _ _ _ h)
        · cases h
  have q1 : tSR X.K E cz Dn (match putFs i c js l ρ1 with
    | some ρ' => .ok .nx ρ'
    | none => .fail) := q1
  split at q1
  · rename_i ρ' hp
    exact ⟨p, us, rfl, h2.sq, by rw [← h3.len]; exact len _ _ _ _ hp, cz, Z, ρ1, l, ρ', r1, h3, hp, fun H' r' => q1 σ H' ⟨Z, r'⟩⟩
  · exact q1.elim
end
end DL
set_option Elab.async false
set_option linter.all false
set_option maxRecDepth 100000
set_option maxHeartbeats 4000000
/-! ### a set of unlike texts, and its length -/
namespace DL
open PySem PySem.Spec PyProof.Rows L2
section
variable {prog : Program} {w : World} {A : Around} {R : Result → Shared → Prop} {I : Addr} {fp wr : List Addr} {G : Array GenState → Array GenState → Prop} {n : Nat} {P : Nat → Value → Prop} {St : Nat → Shared → Prop}
def inTake (xs : List Str) (i : Nat) : Str → Bool := fun k => decide (k ∈ xs.take i)
theorem inTake_succ {xs : List Str} {i : Nat} (hi : i < xs.length) (k : Str) : (inTake xs i k || decide (k = xs.getD i Str.empty)) = inTake xs (i + 1) k := by
  have e : xs.getD i Str.empty = xs[i] := by simp [hi]
  unfold inTake
  rw [e, List.take_succ_eq_append_getElem hi]
  simp only [List.mem_append, List.mem_singleton, Bool.decide_or]
theorem inTake_new {xs : List Str} (nd : xs.Nodup) {i : Nat} (hi : i < xs.length) : inTake xs i (xs.getD i Str.empty) = false := by
  have e : xs.getD i Str.empty = xs[i] := by simp [hi]
  unfold inTake
  rw [e, decide_eq_false_iff_not]
  intro h
  obtain ⟨j, hj, q⟩ := List.mem_iff_getElem.mp h
  rw [List.getElem_take] at q
  rw [List.length_take] at hj
  exact absurd q (List.pairwise_iff_getElem.mp nd j i (by omega) hi (by omega))
theorem setLoop (W : WalksS prog w A.in1 I fp wr G n P St) {b : Addr} (hb : b ∉ fp) {xs : List Str} (nd : xs.Nodup) (hn : xs.length = n) (hl : n + 1 < scanBound) (hv : ∀ i v, P i v → ∃ t, v = .str (xs.getD i Str.empty) t) :
    ∀ (m i : Nat) (s : Shared), i + m = n → St i s → s.heap.SetOf (strKind prog w) b (inTake xs i) i →
      (∀ s', Moved (b :: wr) G s s' → s'.heap.SetOf (strKind prog w) b (inTake xs n) n → R (.ok (.ret .none)) s') →
      codeAny (model prog w) A (.builtin "set.update.loop" ⟨[.ref b, .ref I], []⟩) R s := by
  have hw : b ∉ wr := fun h => hb (W.sub _ h)
  have mv : ∀ {s s' : Shared} {i : Nat}, Moved wr G s s' → s.heap.SetOf (strKind prog w) b (inTake xs i) i → s'.heap.SetOf (strKind prog w) b (inTake xs i) i := fun hm ⟨o, es, ep, t, ho, rest⟩ => ⟨o, es, ep, t, hm.heap b _ hw ho, rest⟩
  have up : ∀ {s s' : Shared}, Moved wr G s s' → Moved (b :: wr) G s s' := fun hm => hm.mono fun c hc => List.mem_cons_of_mem _ hc
  intro m
  induction m with
  | zero =>
    intro i s hi hst hS hR
    obtain rfl : i = n := by omega
    refine codeAny_builtin PyProof.Rows.F.entry_set_update_loop ?_
    rw [Around.under_plainId PyProof.Rows.F.plain_set_update_loop _]
    refine wpAny_bind (m := pyNext (.ref I)) (W.done s _ _ hst fun s' hm => ?_)
    exact wpAny_pure (hR s' (up hm) (mv hm hS))
  | succ m ih =>
    intro i s hi hst hS hR
    have hin : i < n := by omega
    refine codeAny_builtin PyProof.Rows.F.entry_set_update_loop ?_
    rw [Around.under_plainId PyProof.Rows.F.plain_set_update_loop _]
    refine wpAny_bind (m := pyNext (.ref I)) (W.item i s _ _ hin hst fun v s' hP hst' hm => ?_)
    obtain ⟨t, rfl⟩ := hv i v hP
    refine wpAny_bind (m := holding [Value.str (xs.getD i Str.empty) t] (setAdd b (.str (xs.getD i Str.empty) t))) (wpAny_holding ?_)
    unfold setAdd
    refine wpAny_holding (wpAny_bind ((strKind prog w).pyHash (k := xs.getD i Str.empty) (strKind_is _ _ _ _) ?_))
    refine wpAny_setAddHashed_of (knd := strKind prog w) (s := { s' with toks := s'.toks + 1 }) (strKind_is _ _ _ _) rfl (show s'.heap.SetOf (strKind prog w) b (inTake xs i) i from mv hm hS) (by omega) fun h' hsb hS2 => ?_
    have hS3 : h'.SetOf (strKind prog w) b (inTake xs (i + 1)) (i + 1) := SetOf_congr hS2 (inTake_succ (by omega)) (by rw [inTake_new nd (by omega)]; rfl)
    refine wpAny_pure ⟨plainId_quiet PyProof.Rows.F.plain_set_update_loop _, ih (i + 1) _ (by omega) (W.frame _ s' _ _ hst' (Nat.le_succ _) fun c hc o e => ?_) hS3 fun s'' hm2 hS4 => hR s'' (Moved.trans W.gtrans ((up hm).then_heap (Nat.le_succ _) fun c o hc e => ?_) hm2) hS4⟩
    · rw [hsb.2 c fun q => hb (q ▸ hc)]
      exact e
    · rw [hsb.2 c fun q => hc (by rw [q]; exact List.mem_cons_self)]
      exact e
end
section
variable {prog : Program} {w : World} {A : Around} {E : Value → Shared → Prop} {s : Shared}
abbrev freshSet (led : Bool) : Obj := { cls := .type "set", dict := none, data := .set #[] 0 (.fresh 0 0 led) }
abbrev withSet (s : Shared) (led : Bool) : Shared := { s with heap := s.heap.push (freshSet led) }
/-- what set(x) leaves: the set of xs at the first free place, all else as it was -/
def SetMade (prog : Program) (w : World) (s : Shared) (xs : List Str) (s' : Shared) : Prop :=
  ∃ (h' : Heap) (tk : Nat), s' = { s with heap := h', toks := tk } ∧ h'.SetOf (strKind prog w) s.heap.objs.size (inTake xs xs.length) xs.length ∧ ∀ b o, s.heap.get? b = some o → h'.get? b = some o
theorem set_of_init {v : Value} {xs : List Str} {Q : Value → Shared → Prop}
    (hi : ∀ led, codeAny (model prog w) A.in1 (.call (.builtin "set.__init__") ⟨[.ref s.heap.objs.size, v], []⟩) (wants (fun r s2 => r = .none ∧ SetMade prog w s xs s2) E) (withSet s led))
    (h : ∀ s', SetMade prog w s xs s' → Q (.ref s.heap.objs.size) s') : wpAny (model prog w) A (call (.type "set") [v]) Q E s := by
  obtain ⟨c, tl, hmro⟩ := PySem.F.called_set.mro
  have q1 := PySem.F.called_set.made
  have q2 := PySem.F.called_set.sub
  have q3 := PySem.F.called_set.notType
  have q4 := PySem.F.called_set.canCreate
  have q5 := PySem.F.typeCall_set_1 v
  refine wpAny_call (codeAny_of_tree ?_)
  show wpAny _ _ (callAny (.type "set") _) _ _ _
  refine wpAny_pure ⟨Code.quiet_builtin _ (by decide +kernel), codeAny_builtin PySem.F.entry_type_call ?_⟩
  rw [Around.under_plain (weight_type_call_type "set" [v] []) rfl]
  repeat (any_goals (first | assumption | wp_step))
  refine codeAny_mono (code_set_new_1 v (E := E) (Q₁ := fun x s1 => ∃ led, x = .ref s.heap.objs.size ∧ s1 = withSet s led) fun led => ⟨led, rfl, rfl⟩) fun r s1 hr => ?_
  match r, hr with
  | .error e, hr => exact hr
  | .ok (.ret x), hr =>
    obtain ⟨led, rfl, rfl⟩ := hr
    have hT : Shared.TypeIs (withSet s led) (.ref s.heap.objs.size) "set" := ⟨_, Heap.get?_push_size _ rfl, rfl⟩
    have q6 := PySem.F.called_set.init.lookup
    have q7 := PySem.F.called_set.init.bind (.ref s.heap.objs.size)
    repeat (any_goals (first | assumption | wp_step))
    refine codeAny_mono (hi led) fun r2 s2 hr2 => ?_
    match r2, hr2 with
    | .error e, hr2 => exact hr2
    | .ok (.ret x), hr2 =>
      obtain ⟨rfl, hm⟩ := hr2
      repeat (any_goals (first | assumption | wp_step))
      exact h _ hm
theorem init_list {l : Addr} {items : Array Value} {xs : List Str} (hh : A.handled = none) (hl : s.heap.IsList l items) (hi : StrsAre items.toList xs) (nd : xs.Nodup) (hb : xs.length + 1 < scanBound) (led : Bool) :
    codeAny (model prog w) A.in1 (.call (.builtin "set.__init__") ⟨[.ref s.heap.objs.size, .ref l], []⟩) (wants (fun r s2 => r = .none ∧ SetMade prog w s xs s2) E) (withSet s led) := by
  have g0 : (withSet s led).heap.get? s.heap.objs.size = some (freshSet led) := Heap.get?_push_size _ rfl
  refine codeAny_call_builtin PySem.F.called_set.init.plain PySem.F.entry_set_init (check_set_init_1 ⟨_, g0, rfl⟩ ?_)
  have hn : xs.length = items.size := by rw [← StrsAre.len_eq hi, Array.length_toList]
  obtain ⟨⟨oc, od, dt, sl⟩, ho, e1, k, e2⟩ := hl
  simp only at e1 e2
  subst e1 e2
  have u1 : (withSet s led).heap.get? l = some { cls := .type "list", dict := od, data := .seq items k, slots := sl } := Heap.get?_push_of_some _ ho
  have u2 := PySem.F.sub_list_set
  have u3 := PySem.F.sub_list_frozenset
  have u4 : (Value.type "list" == Value.type "dict") = false := by decide
  have hl1 : (withSet s led).heap.IsList l items := ⟨_, u1, rfl, k, rfl⟩
  unfold Builtin.«set.__init__» noKeywords Builtin.Frozenset.updateFrom
  generalize hPI : pyIter = PI
  wp_walk
  subst hPI
  refine wpAny_pyIter_list hl1 (wpAny_bind (wpAny_runValue ?_))
  have lt : l < s.heap.objs.size := Heap.lt_size ho
  have sz : (withSet s led).heap.objs.size = s.heap.objs.size + 1 := Heap.size_push ..
  have n1 : l ≠ (withSet s led).heap.objs.size := by rw [sz]; exact Nat.ne_of_lt (Nat.lt_succ_of_lt lt)
  have n2 : s.heap.objs.size ∉ [(withSet s led).heap.objs.size, l] := by
    rw [sz]
    simp only [List.mem_cons, List.not_mem_nil, or_false, not_or]
    exact ⟨Nat.ne_of_lt (Nat.lt_succ_self _), Nat.ne_of_gt lt⟩
  have at_ : ∀ (i : Nat) (v : Value), items[i]? = some v → ∃ t, v = .str (xs.getD i Str.empty) t := fun i v hv => SS.strs_at hi i v (by rw [Array.getElem?_toList]; exact hv)
  have h3 : A.in1.in1.in1.handled = none := by simp [hh]
  refine setLoop ((Walks.list h3 _ l n1 items).toS) n2 nd hn (by rw [← hn]; exact hb) at_ items.size 0 _ (by omega) ⟨⟨_, Heap.get?_push_size _ rfl, rfl, rfl⟩, (hl1.push _)⟩ ?hS0 ?hR
  case hS0 => exact SetOf_congr ((setObjOf_fresh (knd := strKind prog w) led).setOf (Heap.get?_push_of_some _ g0) (by unfold scanBound; omega)) (fun k => by simp [inTake]) rfl
  case hR =>
    intro s' hm hS
    obtain ⟨h', g', d', t', o'⟩ := s'
    obtain rfl : g' = s.gens := hm.gens
    obtain rfl : d' = s.drawn := hm.drawn
    obtain rfl : o' = s.os := hm.os
    show wpAny _ _ _ _ _ _
    refine wpAny_pure ?_
    show wpAny _ _ (ret Value.none) _ _ _
    refine wpAny_pure ⟨rfl, h', t', rfl, by rw [hn]; exact hS, fun b o e => ?_⟩
    have hb := Heap.lt_size e
    refine hm.heap b o ?_ (Heap.get?_push_of_some _ (Heap.get?_push_of_some _ e))
    rw [sz]
    simp only [List.mem_cons, List.not_mem_nil, or_false, not_or]
    exact ⟨Nat.ne_of_lt hb, Nat.ne_of_lt (Nat.lt_succ_of_lt hb)⟩
theorem init_tuple {l : Addr} {items : Array Value} {xs : List Str} (hh : A.handled = none) (hl : s.heap.IsTuple l items) (hi : StrsAre items.toList xs) (nd : xs.Nodup) (hb : xs.length + 1 < scanBound) (led : Bool) :
    codeAny (model prog w) A.in1 (.call (.builtin "set.__init__") ⟨[.ref s.heap.objs.size, .ref l], []⟩) (wants (fun r s2 => r = .none ∧ SetMade prog w s xs s2) E) (withSet s led) := by
  have g0 : (withSet s led).heap.get? s.heap.objs.size = some (freshSet led) := Heap.get?_push_size _ rfl
  refine codeAny_call_builtin PySem.F.called_set.init.plain PySem.F.entry_set_init (check_set_init_1 ⟨_, g0, rfl⟩ ?_)
  have hn : xs.length = items.size := by rw [← StrsAre.len_eq hi, Array.length_toList]
  obtain ⟨⟨oc, od, dt, sl⟩, ho, e1, k, e2⟩ := hl
  simp only at e1 e2
  subst e1 e2
  have u1 : (withSet s led).heap.get? l = some { cls := .type "tuple", dict := od, data := .seq items k, slots := sl } := Heap.get?_push_of_some _ ho
  have u2 := PySem.F.sub_tuple_set
  have u3 := PySem.F.sub_tuple_frozenset
  have u4 : (Value.type "tuple" == Value.type "dict") = false := by decide
  have hl1 : (withSet s led).heap.IsTuple l items := ⟨_, u1, rfl, k, rfl⟩
  unfold Builtin.«set.__init__» noKeywords Builtin.Frozenset.updateFrom
  generalize hPI : pyIter = PI
  wp_walk
  subst hPI
  refine wpAny_pyIter_tuple hl1 (wpAny_bind (wpAny_runValue ?_))
  have lt : l < s.heap.objs.size := Heap.lt_size ho
  have sz : (withSet s led).heap.objs.size = s.heap.objs.size + 1 := Heap.size_push ..
  have n1 : l ≠ (withSet s led).heap.objs.size := by rw [sz]; exact Nat.ne_of_lt (Nat.lt_succ_of_lt lt)
  have n2 : s.heap.objs.size ∉ [(withSet s led).heap.objs.size, l] := by
    rw [sz]
    simp only [List.mem_cons, List.not_mem_nil, or_false, not_or]
    exact ⟨Nat.ne_of_lt (Nat.lt_succ_self _), Nat.ne_of_gt lt⟩
  have at_ : ∀ (i : Nat) (v : Value), items[i]? = some v → ∃ t, v = .str (xs.getD i Str.empty) t := fun i v hv => SS.strs_at hi i v (by rw [Array.getElem?_toList]; exact hv)
  have h3 : A.in1.in1.in1.handled = none := by simp [hh]
  refine setLoop ((Walks.tuple h3 _ l n1 items).toS) n2 nd hn (by rw [← hn]; exact hb) at_ items.size 0 _ (by omega) ⟨⟨_, Heap.get?_push_size _ rfl, rfl, rfl⟩, (hl1.push _)⟩ ?hS0 ?hR
  case hS0 => exact SetOf_congr ((setObjOf_fresh (knd := strKind prog w) led).setOf (Heap.get?_push_of_some _ g0) (by unfold scanBound; omega)) (fun k => by simp [inTake]) rfl
  case hR =>
    intro s' hm hS
    obtain ⟨h', g', d', t', o'⟩ := s'
    obtain rfl : g' = s.gens := hm.gens
    obtain rfl : d' = s.drawn := hm.drawn
    obtain rfl : o' = s.os := hm.os
    show wpAny _ _ _ _ _ _
    refine wpAny_pure ?_
    show wpAny _ _ (ret Value.none) _ _ _
    refine wpAny_pure ⟨rfl, h', t', rfl, by rw [hn]; exact hS, fun b o e => ?_⟩
    have hb := Heap.lt_size e
    refine hm.heap b o ?_ (Heap.get?_push_of_some _ (Heap.get?_push_of_some _ e))
    rw [sz]
    simp only [List.mem_cons, List.not_mem_nil, or_false, not_or]
    exact ⟨Nat.ne_of_lt hb, Nat.ne_of_lt (Nat.lt_succ_of_lt hb)⟩
end
section
variable [CTab]
def dLenSet : D → Option D
  | .lst l => (dStrs l).bind fun xs => if xs.Nodup ∧ xs.length ≤ 4000 then some (.int (xs.length : Nat)) else none
  | .rol l => (dStrs l).bind fun xs => if xs.Nodup ∧ xs.length ≤ 4000 then some (.int (xs.length : Nat)) else none
  | .tup l => (dStrs l).bind fun xs => if xs.Nodup ∧ xs.length ≤ 4000 then some (.int (xs.length : Nat)) else none
  | _ => none
def tLenU (K : PySem.W.Frag) (ta : TE) : TE := fun σ H Q => ta σ H fun x H1 => ∃ (l : Addr) (xs : List Str), x = .ref l ∧ (SqL K H1 l (xs.map V.str) ∨ SqT K H1 l (xs.map V.str)) ∧ xs.Nodup ∧ xs.length ≤ 4000 ∧ Q (.int (xs.length : Nat)) H1
theorem pe_lenU {X : Cx} {a : Expr} {ta : TE} {p p2 q pos : Pos} (hc : X.calm = true) (hg : Gl X "len") (hm : X.mg "len" = none) (hg2 : Gl X "set") (hm2 : X.mg "set" = none) (ha : PE X a ta)
    (na : starEach [a] X.env = (false, eval a X.env) :: starEach [] X.env) : PE X (.Call (.Name "len" p) [.Call (.Name "set" p2) [a] [] q] [] pos) (tLenU X.K ta) := by
  constructor
  intro pins s σ H Q I h
  refine Call_ (ld_blt I hg hm boot_len (PyProof.Rows.callWith_builtin1 (PyProof.Rows.args_cons ?_ rfl) rfl rfl))
  refine Call_ (ld_blt I hg2 hm2 boot_set (PyProof.Rows.callWith_type1 (PyProof.Rows.args_cons (thn (ha.run pins s σ H _ I h) fun v s1 ⟨x, H1, I1, r1, q1⟩ => PyProof.Rows.args_nil ?_) na) na rfl))
  obtain ⟨l, xs, rfl, hq, nd, hl, q1⟩ := q1
  cases r1
  have ar : ∀ {its : List Value}, Vals (xs.map V.str) its → StrsAre its.toArray.toList xs := fun r => by simpa using strsAre_of r
  have fin : ∀ s', SetMade X.prog X.w s1 xs s' → wpAny (model X.prog X.w) X.A (spliced (backTo pos (starEach [] X.env))) (fun vs s₂ => wpAny (model X.prog X.w) X.A (call (.builtin "len") (Value.ref s1.heap.objs.size :: vs)) (EP X pins σ Q) X.xe s₂) X.xe s' := fun s' ⟨h', tk, e, hS, hk⟩ => by
    subst e
    refine PyProof.Rows.args_nil ?_
    obtain ⟨o, es, ep, t, ho, hex, hd, _, _, _, hf, hn⟩ := hS
    have I2 : Inv X pins σ H1 { s1 with heap := h', toks := tk } := I1.kept fun b o e => hk b o e
    exact call_len_set ho hex hd hf (by rw [hn]; omega) ⟨.int xs.length, H1, I2.tok _, ⟨_, by rw [hn]⟩, q1⟩
  rcases hq with hq | hq
  · obtain ⟨its, r, pl, hz⟩ := I1.list hq
    exact set_of_init (fun led => init_list (I1.ok.hd hc) pl.isList (ar r) nd (by unfold scanBound; omega) led) fin
  · obtain ⟨its, r, pl, hz⟩ := I1.tuple hq
    exact set_of_init (fun led => init_tuple (I1.ok.hd hc) pl (ar r) nd (by unfold scanBound; omega) led) fin
theorem d_lenSet {X : Cx} {E : XK} {a : Expr} {m : M D} {p p2 q pos : Pos} (ha : PE X a (tD X.K E m)) (hm : X.mg "len" = none) (hm2 : X.mg "set" = none) (hc : X.calm = true := by rfl) (hg : Gl X "len" := by rfl) (hg2 : Gl X "set" := by rfl)
    (na : starEach [a] X.env = (false, eval a X.env) :: starEach [] X.env := by rfl) : PE X (.Call (.Name "len" p) [.Call (.Name "set" p2) [a] [] q] [] pos) (tD X.K E (m1 dLenSet m)) := by
  refine (pe_lenU hc hg hm hg2 hm2 ha na).imp fun σ H Q h => ?_
  obtain ⟨c, Z, ρ, r, q⟩ := h
  refine ⟨c, Z, ρ, r, q.bind fun d ρ1 v H1 r1 e1 h1 q1 => ?_⟩
  obtain ⟨w, hw, k⟩ := q1.lift r1
  have h1 : Rep X.K H1 Z d v := h1
  unfold dLenSet at hw
  split at hw
  · rename_i l _
    cases hs : dStrs l with
    | none => rw [hs] at hw; cases hw
    | some xs =>
      rw [hs] at hw
      simp only [Option.bind_some] at hw
      split at hw
      · rename_i hx
        cases hw
        simp only [Rep] at h1
        obtain ⟨p, vs, rfl, g1, g2⟩ := h1
        cases dStrs_rep hs g2
        exact ⟨p, xs, rfl, .inl g1.sq, hx.1, hx.2, k _ H1 (Same.refl H1) rfl⟩
      · cases hw
  · rename_i l _
    cases hs : dStrs l with
    | none => rw [hs] at hw; cases hw
    | some xs =>
      rw [hs] at hw
      simp only [Option.bind_some] at hw
      split at hw
      · rename_i hx
        cases hw
        simp only [Rep] at h1
        obtain ⟨p, vs, rfl, g1, g2⟩ := h1
        cases dStrs_rep hs g2
        exact ⟨p, xs, rfl, .inl g1.sq, hx.1, hx.2, k _ H1 (Same.refl H1) rfl⟩
      · cases hw
  · rename_i l _
    cases hs : dStrs l with
    | none => rw [hs] at hw; cases hw
    | some xs =>
      rw [hs] at hw
      simp only [Option.bind_some] at hw
      split at hw
      · rename_i hx
        cases hw
        simp only [Rep] at h1
        obtain ⟨p, vs, rfl, g1, g2⟩ := h1
        cases dStrs_rep hs g2
        exact ⟨p, xs, rfl, .inr g1.sq, hx.1, hx.2, k _ H1 (Same.refl H1) rfl⟩
      · cases hw
  · cases hw
/-- a class without an __init__ of its own -/
def plainB (K : PySem.W.Frag) (x : Str) : Bool := PySem.W.makesIn K (He.ga K x) && (He.eqO (PySem.W.findIn K (.ref (He.ga K x)) "__init__") (some (some (.builtin "object.__init__"))) && PySem.W.keepIn K (.ref (He.ga K x)))
theorem plain_ok {K : PySem.W.Frag} {x : Str} (h : plainB K x = true) : OB.Plain K (He.ga K x) := by
  obtain ⟨h1, h⟩ := He.ba h
  obtain ⟨h2, h3⟩ := He.ba h
  exact ⟨h1, He.eqO_ok h2, h3⟩
end
end DL
set_option Elab.async false
set_option linter.all false
set_option maxRecDepth 100000
set_option maxHeartbeats 4000000
/-! ### targets that change things of one's own: names, places, fields, one behind another -/
namespace DL
open PySem PySem.Spec PyProof.Rows L2
variable [CTab]
def tXs (K : PySem.W.Frag) (g : MTs) : TGs := fun vs σ H Q => ∃ c Z ρ l ρ', Rel K c Z ρ σ H ∧ Reps K H Z l vs ∧ g l ρ = some ρ' ∧ ∀ σ' H', Rel K c Z ρ' σ' H' → Q σ' H'
def mXN (i : Nat) (gs : MTs) : MTs := fun l ρ => match l with
  | d :: r => gs r (ρ.set i (some (.val d)))
  | _ => none
/-- x[e], x a list of one's own in slot i -/
def mXI (i : Nat) (mi : M D) (gs : MTs) : MTs := fun l ρ => match l with
  | d :: r => (match holds ρ i with
    | some (.lst _) => (match mi ρ with
      | .ok (.int j) ρ1 => (match mMutNow i (cSetAt j) d ρ1 with
        | .ok .nx ρ2 => gs r ρ2
        | _ => none)
      | _ => none)
    | _ => none)
  | _ => none
def mXF (i c j : Nat) (gs : MTs) : MTs := fun l ρ => match l with
  | d :: r => (match mMutNow i (cFld c j) d ρ with
    | .ok .nx ρ1 => gs r ρ1
    | _ => none)
  | _ => none
instance {n i : Nat} {gs : MTs} [t : TgLen n gs] : TgLen (n + 1) (mXN i gs) := ⟨fun l ρ ρ' h => by
  unfold mXN at h
  split at h
  · exact congrArg (· + 1) (t.len _ _ _ h)
  · cases h⟩
instance {n i : Nat} {mi : M D} {gs : MTs} [t : TgLen n gs] : TgLen (n + 1) (mXI i mi gs) := ⟨fun l ρ ρ' h => by
  unfold mXI at h
  split at h
  · split at h <;> first | (cases h; done) | skip
    split at h <;> first | (cases h; done) | skip
    split at h <;> first | (cases h; done) | skip
    exact congrArg (· + 1) (t.len _ _ _ h)
  · cases h⟩
instance {n i c j : Nat} {gs : MTs} [t : TgLen n gs] : TgLen (n + 1) (mXF i c j gs) := ⟨fun l ρ ρ' h => by
  unfold mXF at h
  split at h
  · split at h <;> first | (cases h; done) | skip
    exact congrArg (· + 1) (t.len _ _ _ h)
  · cases h⟩
def mAsgX (gs : MTs) (m : M D) : M Fl := fun ρ => bindR (m ρ) fun d ρ => match d with
  | .tup l => (match gs l ρ with
    | some ρ' => .ok .nx ρ'
    | none => .fail)
  | _ => .fail
section
variable {X : Cx} {E : XK} {pos tpos apos : Pos} {e ei : Expr} {es : List Expr} {m mi : M D} {i c j : Nat} {gs : MTs}
theorem gx_nil : PGs X [] (tXs X.K mTNil) := by
  refine pgs_nil.imp fun vs σ H Q h => ?_
  obtain ⟨cz, Z, ρ, l, ρ', r, hl, hp, q⟩ := h
  unfold mTNil at hp
  split at hp
  · cases hp
    exact ⟨hl, q σ H r⟩
  · cases hp
theorem gx_name (i : Nat) {x : Str} (hN : X.N.Nodup) (hr : PGs X es (tXs X.K gs)) (hi : X.N[i]? = some x := by rfl) (hx : Loc X.env.scope x := by first | exact Or.inl rfl | exact Or.inr rfl) (hf : X.fn x = true ∨ X.env.scope.names.lookup x = some .local := by first | exact .inl rfl | exact .inr rfl)
    (hs : (assignEach (.Name x pos :: es) X.env).map (·.2) = assign (.Name x pos) X.env :: (assignEach es X.env).map (·.2) := by rfl) : PGs X (.Name x pos :: es) (tXs X.K (mXN i gs)) := by
  refine (pgs_cons (pg_name hN hi hx hf) hr hs).imp fun vs σ H Q h => ?_
  obtain ⟨cz, Z, ρ, l, ρ', r, hrl, hp, q⟩ := h
  unfold mXN at hp
  split at hp
  · rename_i d ds
    obtain ⟨u, us, rfl, h1, h2⟩ := hrl.inv
    exact ⟨u, us, rfl, cz, Z, _, ds, ρ', r.set h1, h2, hp, q⟩
  · cases hp
theorem gx_ix (i : Nat) {x : Str} {np : Pos} (hei : PE X ei (tD X.K E mi)) (hr : PGs X es (tXs X.K gs))
    (hN : X.N[i]? = some x := by rfl) (hv : Vis X.env.scope x := by first | exact Or.inl rfl | exact Or.inr (Or.inl rfl) | exact Or.inr (Or.inr rfl)) (hd : (x == ("__debug__" : Str)) = false := by decide) (hcd : (x == ("__classdict__" : Str)) = false := by decide)
    (ha : ∀ v, assign (.Subscript (.Name x np) ei apos) X.env v = (do let ov ← holding [v] (eval (.Name x np) X.env); let iv ← holding [v, ov] (eval ei X.env); standAt apos; holding [v, ov, iv] (setItem ov iv v); release [v, ov, iv] []) := by intro _; rfl)
    (hs : (assignEach (.Subscript (.Name x np) ei apos :: es) X.env).map (·.2) = assign (.Subscript (.Name x np) ei apos) X.env :: (assignEach es X.env).map (·.2) := by rfl) : PGs X (.Subscript (.Name x np) ei apos :: es) (tXs X.K (mXI i mi gs)) := by
  refine (pgs_cons (pg_sub (pe_var hN hv hd hcd) hei set_list ha) hr hs).imp fun vs σ H Q h => ?_
  obtain ⟨cz, Z, ρ, l, ρ', r, hrl, hp, q⟩ := h
  unfold mXI at hp
  split at hp
  · rename_i d ds
    obtain ⟨u, us, rfl, h1, h2⟩ := hrl.inv
    split at hp <;> first | (cases hp; done) | skip
    rename_i l0 ht
    obtain ⟨p, w, _, _, g1, hz, o, ho, ls, rfl, hus⟩ := holds_rel r ht
    split at hp <;> first | (cases hp; done) | skip
    rename_i j ρ1 em
    split at hp <;> first | (cases hp; done) | skip
    rename_i ρ2 em2
    refine ⟨u, us, rfl, _, g1, cz, Z, ρ, r, ?_⟩
    rw [em]
    intro kv H2 r2 e2 hk
    cases (show kv = _ from hk)
    obtain ⟨p', t, t', k1, ⟨o2, k2, k3⟩, k4, k5, kk⟩ := mutZ em2 r2
    rw [g1] at k1
    cases k1
    cases t with
    | dct _ _ => cases k5
    | ob _ _ => cases k5
    | lst l =>
      obtain ⟨us2, rfl, hus2⟩ := k3
      simp only [cSetAt] at k5
      split at k5
      · rename_i k hk
        cases k5
        have ex : Ext Z H2 (upd H2 p (.lst (us2.set k u))) := fun a o nz e => by rw [upd_ne (fun z => nz (by rw [z]; exact hz))]; exact e
        refine ⟨p, us2, j, k, rfl, rfl, k2, by rw [← hus2.len]; exact hk, cz, Z, ρ2, ds, ρ', ?_, Reps.ext ex _ _ (Reps.ext e2 _ _ h2), hp, q⟩
        exact kk _ (fun a o ne e => by rw [upd_ne ne]; exact e) ⟨_, upd_same, _, rfl, Reps.set (Rep.ext ex _ _ (Rep.ext e2 _ _ h1)) k (Reps.ext ex _ _ hus2)⟩
      · cases k5
  · cases hp
theorem gx_fld {n : Nat} {f x : Str} {np : Pos} (cf : CFacts X.K n) (j : Nat) (hc : c < n) (hj : (cF c)[j]? = some f) (hl : (cF c).length < 1000) (hr : PGs X es (tXs X.K gs)) (hN : X.N[i]? = some x := by rfl) (hv : Vis X.env.scope x := by first | exact Or.inl rfl | exact Or.inr (Or.inl rfl) | exact Or.inr (Or.inr rfl))
    (hd : (x == ("__debug__" : Str)) = false := by decide) (hcd : (x == ("__classdict__" : Str)) = false := by decide)
    (ha : ∀ v, assign (.Attribute (.Name x np) f apos) X.env v = (do let ov ← holding [v] (eval (.Name x np) X.env); standAt apos.atName; holding [v, ov] (setAttr ov f v); release [v, ov] []) := by intro _; rfl)
    (hs : (assignEach (.Attribute (.Name x np) f apos :: es) X.env).map (·.2) = assign (.Attribute (.Name x np) f apos) X.env :: (assignEach es X.env).map (·.2) := by rfl) : PGs X (.Attribute (.Name x np) f apos :: es) (tXs X.K (mXF i c j gs)) := by
  refine (pgs_cons (OB.pg_fld (pe_var hN hv hd hcd) ha) hr hs).imp fun vs σ H Q h => ?_
  obtain ⟨cz, Z, ρ, l, ρ', r, hrl, hp, q⟩ := h
  unfold mXF at hp
  split at hp
  · rename_i d ds
    obtain ⟨u, us, rfl, h1, h2⟩ := hrl.inv
    split at hp <;> first | (cases hp; done) | skip
    rename_i ρ1 hm
    exact ⟨u, us, rfl, fld_step cf hc hj hl r h1 hm fun H' r' ex => ⟨cz, Z, ρ1, ds, ρ', r', Reps.ext ex _ _ h2, hp, q⟩⟩
  · cases hp
theorem s_asgX {k n : Nat} [tl : TgLen n gs] (hc : X.calm = true) (he : PE X e (tD X.K E m)) (hg : PGs X es (tXs X.K gs)) (hn : (assignEach es X.env).length = n := by rfl) (hst : (assignEach es X.env).findIdx? (·.1) = none := by rfl)
    (hs : swapsWithSole [.Tuple es k tpos] e pos.line X.env = pure false := by rfl) (hw : swappedStores [.Tuple es k tpos] e X.env = pure none := by rfl) (h1 : (assignEach [.Tuple es k tpos] X.env).map (·.2) = [assign (.Tuple es k tpos) X.env] := by rfl) :
    PS X (.Assign [.Tuple es k tpos] e pos) (tS X.K E (mAsgX gs m)) := by
  refine (ps_asg he (pg_tup hc hg hn hst) hs hw h1).imp fun Dn σ H h => ?_
  obtain ⟨cz, ρ, ⟨Z, r⟩, q⟩ := h
  refine ⟨cz, Z, ρ, r, tSR.expr q fun d ρ1 v H1 r1 hd q1 => ?_⟩
  cases d <;> first | (exact q1.elim; done) | skip
  rename_i l
  have hd : Rep X.K H1 Z (.tup l) v := hd
  simp only [Rep] at hd
  obtain ⟨p, us, rfl, h2, h3⟩ := hd
  have q1 : tSR X.K E cz Dn (match gs l ρ1 with
    | some ρ' => .ok .nx ρ'
    | none => .fail) := q1
  split at q1
  · rename_i ρ' hp
    exact ⟨p, us, rfl, h2.sq, by rw [← h3.len]; exact tl.len _ _ _ hp, cz, Z, ρ1, l, ρ', r1, h3, hp, fun σ' H' r' => q1 σ' H' ⟨Z, r'⟩⟩
  · exact q1.elim
end
end DL
set_option Elab.async false
set_option linter.all false
set_option maxRecDepth 100000
set_option maxHeartbeats 4000000
/-! ### list(range(..)) -/
namespace DL
open PySem PySem.Spec PyProof.Rows L2
def rngV (a : Int) (n : Nat) : List V := (List.range n).map fun i : Nat => .int (a + (i : Int))
theorem rngV_succ (a : Int) (n : Nat) : rngV a (n + 1) = .int a :: rngV (a + 1) n := by
  unfold rngV
  rw [List.range_succ_eq_map, List.map_cons, List.map_map]
  congr 1
  · simp
  · apply List.map_congr_left
    intro i _
    simp only [Function.comp_def]
    congr 1
    omega
theorem vals_rng : ∀ (us : List Value) (a : Int), (∀ (j : Nat) v, us[j]? = some v → ∃ t, v = .int (a + (j : Int)) t) → Vals (rngV a us.length) us
  | [], a, _ => .nil
  | u :: us, a, h => by
    rw [List.length_cons, rngV_succ]
    obtain ⟨t, e⟩ := h 0 u rfl
    refine .cons ⟨t, by rw [e]; simp⟩ (vals_rng us (a + 1) fun j v hv => ?_)
    obtain ⟨t, e⟩ := h (j + 1) v (by simpa using hv)
    exact ⟨t, by rw [e]; congr 1; omega⟩
section
variable {X : Cx}
theorem cr_range1 : CallR X (.type "range") (fun vs H Q => ∃ j, vs = [V.int j] ∧ ∀ p, H p = none → Q (.ref p) (upd H p (.rng 0 j))) := by
  intro pins s σ H vs us Q I r h
  obtain ⟨j, rfl, q⟩ := h
  obtain ⟨u, rfl, t, rfl⟩ := vals1 r
  refine call_range_1 ⟨.ref s.heap.objs.size, upd H s.heap.objs.size (.rng 0 j), I.laid (t' := s.toks + 1 + 1) (fun b o e => Heap.get?_push_of_some _ e) (Nat.le_refl _) ⟨s.toks, t, s.toks + 1, Heap.get?_push_size _ rfl⟩, rfl, q _ (I.hok.fresh (Nat.le_refl _))⟩
theorem cr_listRng (hc : X.calm = true) : CallR X (.type "list") (fun vs H Q => ∃ p i j, vs = [V.ref p] ∧ H p = some (.rng i j) ∧ -4000 ≤ i ∧ i ≤ 4000 ∧ -4000 ≤ j ∧ j ≤ 4000 ∧ ∀ l, H l = none → Q (.ref l) (upd H l (.lst (rngV i (j - i).toNat)))) := by
  intro pins s σ H vs us Q I r h
  obtain ⟨p, i, j, rfl, hp, b1, b2, b3, b4, q⟩ := h
  obtain ⟨u, rfl, rx⟩ := vals1 r
  cases rx
  obtain ⟨t, u, v, ho⟩ := I.hok p _ hp
  have hn : Builtin.Range.rangeSize i j 1 = ((j - i).toNat : Nat) := by
    rw [rangeSize_one]
    split <;> omega
  have hs : Builtin.Range.small i j 1 = true := small_one (by omega) (by omega) (by omega) (by omega)
  refine call_list_range (n := (j - i).toNat) (I.ok.hd hc) ho hs hn (by omega) fun h' tk acc c' hk hS hacc => ?_
  have hv : Vals (rngV i (j - i).toNat) acc.toList := by
    have := vals_rng acc.toList i fun j v hv => by
      obtain ⟨t, e⟩ := hacc.2 j v (by simpa using hv)
      exact ⟨t, by rw [e, Int.mul_one]⟩
    rwa [Array.length_toList, hacc.1] at this
  exact ⟨.ref s.heap.objs.size, upd H s.heap.objs.size (.lst (rngV i (j - i).toNat)), I.laid (t' := tk) hk (Nat.le_refl _) (show ObjOk X.prog X.w _ h' _ (.lst _) from ⟨by unfold rngV sizeLine; simp; omega, acc.toList, c', hv, by simpa using hS⟩), rfl, q _ (I.hok.fresh (Nat.le_refl _))⟩
end
section
variable [CTab] {X : Cx} {E : XK} {pos p p2 pos2 : Pos} {e e2 : Expr} {m m' : M D}
def lim4 (i : Int) : Bool := decide (-4000 ≤ i ∧ i ≤ 4000)
def mLstRng1 (m : M D) : M D := fun ρ => bindR (m ρ) fun d ρ => match d with
  | .int j => if lim4 j = true then .ok (.lst (rngD 0 j.toNat)) ρ else .fail
  | _ => .fail
def mLstRng2 (m m' : M D) : M D := fun ρ => bindR (m ρ) fun d ρ => bindR (m' ρ) fun d' ρ => match d, d' with
  | .int i, .int j => if (lim4 i && lim4 j) = true then .ok (.lst (rngD i (j - i).toNat)) ρ else .fail
  | _, _ => .fail
theorem reps_rng {K : PySem.W.Frag} {H : Hp} {Z : Addr → Prop} : ∀ (n : Nat) (a : Int), Reps K H Z (rngD a n) (rngV a n) := fun n a => by
  unfold rngD rngV
  induction List.range n with
  | nil => exact Reps.nil
  | cons i l ih => exact Reps.cons (show V.int _ = V.int _ from rfl) ih
theorem lrng_gen {K : PySem.W.Frag} {c : Cz} {Z : Addr → Prop} {ρ : Env} {σ : St} {H : Hp} {Q : VK} (i : Int) (n : Nat) (r : Rel K c Z ρ σ H) (q : tR K E rD c Z σ H Q (.ok (.lst (rngD i n)) ρ)) {p l : Addr} {o : HO} (hp : H p = none) (hl : upd H p o l = none) : Q (.ref l) (upd (upd H p o) l (.lst (rngV i n))) := by
  have s1 : Same H (upd H p o) := same_upd hp
  exact q.new r (s1.trans (same_upd hl)) (new_lst (fun a z e => r.dom a z (s1.free e)) hl (reps_rng n i))
theorem d_lstRng1 (he : PE X e (tD X.K E m)) (hm : X.mg "list" = none) (hm2 : X.mg "range" = none) (hc : X.calm = true := by rfl) (hg : Gl X "list" := by rfl) (hg2 : Gl X "range" := by rfl) (h1 : starEach [e] X.env = (false, eval e X.env) :: starEach [] X.env := by rfl)
    (h2 : (backTo pos2 (starEach [] X.env)).any (·.1) = false := by rfl) (h3 : starEach [.Call (.Name "range" p2) [e] [] pos2] X.env = (false, eval (.Call (.Name "range" p2) [e] [] pos2) X.env) :: starEach [] X.env := by rfl) (h4 : (backTo pos (starEach [] X.env)).any (·.1) = false := by rfl) :
    PE X (.Call (.Name "list" p) [.Call (.Name "range" p2) [e] [] pos2] [] pos) (tD X.K E (mLstRng1 m)) := by
  refine (pe_callTy (cr_listRng hc) hg hm (by decide +kernel) (pa_cons (pe_callTy cr_range1 hg2 hm2 (by decide +kernel) (pa_cons he pa_nil h1) (by decide) (by decide) h1 h2) pa_nil h3) (by decide) (by decide) h3 h4).imp fun σ H Q h => ?_
  obtain ⟨c, Z, ρ, r, q⟩ := h
  refine ⟨c, Z, ρ, r, q.bind fun d ρ1 v H1 r1 e1 hd q1 => ?_⟩
  cases d <;> first | (exact q1.elim; done) | skip
  rename_i j
  cases (show v = _ from hd)
  by_cases hl : lim4 j = true
  · have q1 : tR X.K E rD c Z σ H1 Q (if lim4 j = true then .ok (.lst (rngD 0 j.toNat)) ρ1 else .fail) := q1
    rw [if_pos hl] at q1
    obtain ⟨l1, l2⟩ := of_decide_eq_true hl
    refine ⟨j, rfl, fun p hp => ⟨p, 0, j, rfl, upd_same, by omega, by omega, l1, l2, fun l hl => ?_⟩⟩
    rw [Int.sub_zero]
    exact lrng_gen 0 _ r1 q1 hp hl
  · have q1 : tR X.K E rD c Z σ H1 Q (if lim4 j = true then .ok (.lst (rngD 0 j.toNat)) ρ1 else .fail) := q1
    rw [if_neg hl] at q1
    exact q1.elim
theorem d_lstRng2 (he : PE X e (tD X.K E m)) (he2 : PE X e2 (tD X.K E m')) (hm : X.mg "list" = none) (hm2 : X.mg "range" = none) (hc : X.calm = true := by rfl) (hg : Gl X "list" := by rfl) (hg2 : Gl X "range" := by rfl) (h1 : starEach [e, e2] X.env = (false, eval e X.env) :: starEach [e2] X.env := by rfl) (h1' : starEach [e2] X.env = (false, eval e2 X.env) :: starEach [] X.env := by rfl)
    (h2 : (backTo pos2 (starEach [e2] X.env)).any (·.1) = false := by rfl) (h3 : starEach [.Call (.Name "range" p2) [e, e2] [] pos2] X.env = (false, eval (.Call (.Name "range" p2) [e, e2] [] pos2) X.env) :: starEach [] X.env := by rfl) (h4 : (backTo pos (starEach [] X.env)).any (·.1) = false := by rfl) :
    PE X (.Call (.Name "list" p) [.Call (.Name "range" p2) [e, e2] [] pos2] [] pos) (tD X.K E (mLstRng2 m m')) := by
  refine (pe_callTy (cr_listRng hc) hg hm (by decide +kernel) (pa_cons (pe_callTy cr_range2 hg2 hm2 (by decide +kernel) (pa_cons he (pa_cons he2 pa_nil h1') h1) (by decide) (by decide) h1 h2) pa_nil h3) (by decide) (by decide) h3 h4).imp fun σ H Q h => ?_
  obtain ⟨c, Z, ρ, r, q⟩ := h
  refine ⟨c, Z, ρ, r, q.bind fun d ρ1 v H1 r1 e1 hd q1 => ⟨c, Z, ρ1, r1, q1.bind fun d2 ρ2 v2 H2 r2 e2 hd2 q2 => ?_⟩⟩
  replace hd := Rep.ext e2 _ _ hd
  cases d <;> first | (exact q2.elim; done) | skip
  rename_i i
  cases d2 <;> first | (exact q2.elim; done) | skip
  rename_i j
  cases (show v = _ from hd)
  cases (show v2 = _ from hd2)
  by_cases hl : (lim4 i && lim4 j) = true
  · have q2 : tR X.K E rD c Z σ H2 Q (if (lim4 i && lim4 j) = true then .ok (.lst (rngD i (j - i).toNat)) ρ2 else .fail) := q2
    rw [if_pos hl] at q2
    obtain ⟨g1, g2⟩ := Bool.and_eq_true_iff.mp hl
    obtain ⟨l1, l2⟩ := of_decide_eq_true g1
    obtain ⟨l3, l4⟩ := of_decide_eq_true g2
    exact ⟨i, j, rfl, fun p hp => ⟨p, i, j, rfl, upd_same, l1, l2, l3, l4, fun l hl => lrng_gen i _ r2 q2 hp hl⟩⟩
  · have q2 : tR X.K E rD c Z σ H2 Q (if (lim4 i && lim4 j) = true then .ok (.lst (rngD i (j - i).toNat)) ρ2 else .fail) := q2
    rw [if_neg hl] at q2
    exact q2.elim
end
end DL
set_option Elab.async false
set_option linter.all false
set_option maxRecDepth 100000
set_option maxHeartbeats 4000000
/-! ### the module's constants -/
namespace DL
open PySem PySem.Spec PyProof.Rows L2
variable [CTab]
mutual
def repB (K : PySem.W.Frag) : D → Value → Bool
  | .int i, .int j _ => decide (j = i)
  | .str x, .str y _ => decide (y = x)
  | .bl b, .bool c => decide (c = b)
  | .non, .none => true
  | .tup l, .ref a => (match K.lookup a with
    | some o => decide (o.cls = .type "tuple") && (match o.data with
      | .seq its _ => decide (its.size ≤ sizeLine) && repBs K l its.toList
      | _ => false)
    | none => false)
  | .rol l, .ref a => (match K.lookup a with
    | some o => decide (o.cls = .type "list") && (o.dict.isNone && (match o.data with
      | .seq its _ => decide (its.size ≤ sizeLine) && repBs K l its.toList
      | _ => false))
    | none => false)
  | _, _ => false
def repBs (K : PySem.W.Frag) : List D → List Value → Bool
  | [], [] => true
  | d :: l, v :: r => repB K d v && repBs K l r
  | _, _ => false
end
mutual
theorem repB_ok {K : PySem.W.Frag} : ∀ (d : D) (v : Value), repB K d v = true → ∃ x : V, RelV x v ∧ ∀ H Z, Rep K H Z d x
  | .int i, v, h => by
    cases v <;> first | (simp [repB] at h; done) | skip
    rename_i j t
    simp only [repB, decide_eq_true_eq] at h
    exact ⟨.int i, ⟨t, by rw [h]⟩, fun _ _ => rfl⟩
  | .str i, v, h => by
    cases v <;> first | (simp [repB] at h; done) | skip
    rename_i j t
    simp only [repB, decide_eq_true_eq] at h
    exact ⟨.str i, ⟨t, by rw [h]⟩, fun _ _ => rfl⟩
  | .bl i, v, h => by
    cases v <;> first | (simp [repB] at h; done) | skip
    rename_i j
    simp only [repB, decide_eq_true_eq] at h
    exact ⟨.bl i, by rw [h]; rfl, fun _ _ => rfl⟩
  | .non, v, h => by
    cases v <;> first | (simp [repB] at h; done) | skip
    exact ⟨.non, rfl, fun _ _ => rfl⟩
  | .tup l, v, h => by
    cases v <;> first | (simp [repB] at h; done) | skip
    rename_i a
    simp only [repB] at h
    cases e : K.lookup a with
    | none => rw [e] at h; cases h
    | some o =>
      rw [e] at h
      simp only [Bool.and_eq_true, decide_eq_true_eq] at h
      obtain ⟨h1, h2⟩ := h
      split at h2
      · rename_i its n hd
        simp only [Bool.and_eq_true, decide_eq_true_eq] at h2
        obtain ⟨xs, r1, r2⟩ := repBs_ok l its.toList h2.2
        refine ⟨.ref a, rfl, fun H Z => ?_⟩
        simp only [Rep]
        exact ⟨a, xs, rfl, .inr ⟨o, its, n, e, h1, hd, h2.1, r1⟩, r2 H Z⟩
      · cases h2
  | .rol l, v, h => by
    cases v <;> first | (simp [repB] at h; done) | skip
    rename_i a
    simp only [repB] at h
    cases e : K.lookup a with
    | none => rw [e] at h; cases h
    | some o =>
      rw [e] at h
      simp only [Bool.and_eq_true, decide_eq_true_eq] at h
      obtain ⟨h1, h3, h2⟩ := h
      split at h2
      · rename_i its n hd
        simp only [Bool.and_eq_true, decide_eq_true_eq] at h2
        obtain ⟨xs, r1, r2⟩ := repBs_ok l its.toList h2.2
        refine ⟨.ref a, rfl, fun H Z => ?_⟩
        simp only [Rep]
        exact ⟨a, xs, rfl, .inr ⟨o, its, n, e, h1, by simpa using h3, hd, h2.1, r1⟩, r2 H Z⟩
      · cases h2
  | .lst l, v, h => by cases v <;> simp [repB] at h
  | .dct ks l, v, h => by cases v <;> simp [repB] at h
  | .ob c l, v, h => by cases v <;> simp [repB] at h
theorem repBs_ok {K : PySem.W.Frag} : ∀ (l : List D) (vs : List Value), repBs K l vs = true → ∃ xs : List V, Vals xs vs ∧ ∀ H Z, Reps K H Z l xs
  | [], [], _ => ⟨[], .nil, fun _ _ => Reps.nil⟩
  | [], _ :: _, h => by simp [repBs] at h
  | _ :: _, [], h => by simp [repBs] at h
  | d :: l, v :: vs, h => by
    simp only [repBs, Bool.and_eq_true] at h
    obtain ⟨x, h1, h2⟩ := repB_ok d v h.1
    obtain ⟨xs, h3, h4⟩ := repBs_ok l vs h.2
    exact ⟨x :: xs, .cons h1 h3, fun H Z => Reps.cons (h2 H Z) (h4 H Z)⟩
end
def constB (K : PySem.W.Frag) (x : Str) (d : D) : Bool := match PySem.W.nsIn K mainGlobals x with
  | some (some v) => repB K d v
  | _ => false
theorem const_ok {K : PySem.W.Frag} {h : Heap} {mg : Str → Option Value} (X : K.In h) (G : h.Ns mainGlobals mg) {x : Str} {d : D} (c : constB K x d = true) : ∃ p : V × Value, mg x = some p.2 ∧ RelV p.1 p.2 ∧ ∀ H Z, Rep K H Z d p.1 := by
  unfold constB at c
  split at c
  · rename_i v e
    obtain ⟨y, h1, h2⟩ := repB_ok d v c
    exact ⟨(y, v), PySem.W.mg_of X G e, h1, h2⟩
  · cases c
end DL
set_option Elab.async false
set_option linter.all false
set_option maxRecDepth 100000
set_option maxHeartbeats 4000000
/-! ### things of one's own are looked at: a scalar comes of it -/
namespace DL
open PySem PySem.Spec PyProof.Rows L2
variable [CTab]
def frzW : W → W
  | .val d => .val d
  | .own t => .val t.toD
  | .inn t => .val t.toD
def frzE (ρ : Env) : Env := ρ.map (Option.map frzW)
def mLook (m : M D) : M D := fun ρ => match m (frzE ρ) with
  | .ok d _ => if d.sc.isSome = true then .ok d ρ else .fail
  | _ => .fail
def mLookT (m : M Bool) : M Bool := fun ρ => match m (frzE ρ) with
  | .ok b _ => .ok b ρ
  | _ => .fail
/-- nothing may be changed -/
def czNo (H : Hp) : Cz := ⟨fun _ => none, H, fun _ => False, [], []⟩
section
variable {K : PySem.W.Frag} {c : Cz} {Z : Addr → Prop} {ρ : Env} {σ : St} {H H' : Hp}
theorem frzE_at {i : Nat} {d : D} (h : (frzE ρ)[i]? = some (some (.val d))) : ρ[i]? = some (some (.val d)) ∨ ∃ t w, ρ[i]? = some (some w) ∧ Hold w t ∧ d = t.toD := by
  unfold frzE at h
  rw [List.getElem?_map] at h
  cases e : ρ[i]? with
  | none => rw [e] at h; cases h
  | some o =>
    rw [e] at h
    cases o with
    | none => cases h
    | some w =>
      cases w with
      | val d' => cases h; exact .inl rfl
      | own t => cases h; exact .inr ⟨t, _, rfl, .own t, rfl⟩
      | inn t => cases h; exact .inr ⟨t, _, rfl, .inn t, rfl⟩
theorem frzE_no {i : Nat} {t : Ct} : ¬ (frzE ρ)[i]? = some (some (.own t)) ∧ ¬ (frzE ρ)[i]? = some (some (.inn t)) := by
  unfold frzE
  rw [List.getElem?_map]
  cases ρ[i]? with
  | none => exact ⟨fun h => (by cases h), fun h => (by cases h)⟩
  | some o =>
    cases o with
    | none => exact ⟨fun h => (by cases h), fun h => (by cases h)⟩
    | some w => cases w <;> exact ⟨fun h => (by cases h), fun h => (by cases h)⟩
theorem Rel.look (r : Rel K c Z ρ σ H) : Rel K (czNo H) (fun _ => False) (frzE ρ) σ H where
  frame := fun a o _ e => e
  keep := fun a e => e
  base := fun a z => z.elim
  len := by unfold frzE; rw [List.length_map]; exact r.len
  dom := fun a z => z.elim
  val := fun i d h => by
    rcases frzE_at h with h | ⟨t, w, h1, h2, rfl⟩
    · obtain ⟨v, h1, h2⟩ := r.val i d h
      exact ⟨v, h1, h2.zed fun _ _ _ _ z => z⟩
    · obtain ⟨p, g1, g2, o, g3, g4⟩ := r.hold h1 h2
      exact ⟨.ref p, g1, CtHO.toD (fun z => z) g3 (g4.zed fun _ _ _ _ z => z)⟩
  own := fun i t h => (frzE_no.1 h).elim
  inn := fun i t h => (frzE_no.2 h).elim
  inj := fun i j p ⟨t, h⟩ => (h.elim frzE_no.1 frzE_no.2).elim
  xs := fun q hq => by cases hq
  hd := fun q hq => by cases hq
theorem sc_repZ {d : D} {v : V} {Z' : Addr → Prop} (h : d.sc.isSome = true) (r : Rep K H Z d v) : Rep K H Z' d v := by
  cases d <;> first | exact r | (cases h; done)
end
section
variable {X : Cx} {E : XK} {e : Expr}
theorem look_ext {H H' : Hp} (h : Ext (fun _ => False) H H') : Same H H' := fun a o e => h a o (fun z => z) e
theorem d_look {m : M D} (h : PE X e (tD X.K E m)) : PE X e (tD X.K E (mLook m)) := by
  refine h.imp fun σ H Q h => ?_
  obtain ⟨c, Z, ρ, r, q⟩ := h
  refine ⟨_, _, _, r.look, ?_⟩
  have q : tR X.K E rD c Z σ H Q (match m (frzE ρ) with
    | .ok d _ => if d.sc.isSome = true then .ok d ρ else .fail
    | _ => .fail) := q
  cases em : m (frzE ρ) with
  | fail => rw [em] at q; exact q.elim
  | exc x l ρ' => rw [em] at q; exact q.elim
  | ok d ρ' =>
    rw [em] at q
    intro b H' r' ex hb
    simp only at q
    split at q
    · rename_i hs
      have s := look_ext ex
      exact q b H' (r.same s) (Ext.same s) (sc_repZ hs hb)
    · exact q.elim
theorem dt_look {m : M Bool} (h : PT X e (tT X.K E m)) : PT X e (tT X.K E (mLookT m)) := by
  refine h.imp fun σ H Q h => ?_
  obtain ⟨c, Z, ρ, r, q⟩ := h
  refine ⟨_, _, _, r.look, ?_⟩
  have q : tR X.K E rB c Z σ H Q (match m (frzE ρ) with
    | .ok b _ => .ok b ρ
    | _ => .fail) := q
  cases em : m (frzE ρ) with
  | fail => rw [em] at q; exact q.elim
  | exc x l ρ' => rw [em] at q; exact q.elim
  | ok d ρ' =>
    rw [em] at q
    intro b H' r' ex hb
    have s := look_ext ex
    exact q b H' (r.same s) (Ext.same s) hb
@[simp] theorem ev_mLook (m : M D) (ρ : Env) : mLook m ρ = (match m (frzE ρ) with
  | .ok d _ => if d.sc.isSome = true then .ok d ρ else .fail
  | _ => .fail) := rfl
@[simp] theorem ev_mLookT (m : M Bool) (ρ : Env) : mLookT m ρ = (match m (frzE ρ) with
  | .ok b _ => .ok b ρ
  | _ => .fail) := rfl
@[simp] theorem frzE_nil : frzE [] = [] := rfl
@[simp] theorem frzE_cons (o : Option W) (ρ : Env) : frzE (o :: ρ) = o.map frzW :: frzE ρ := rfl
@[simp] theorem frzW_val (d : D) : frzW (.val d) = .val d := rfl
@[simp] theorem frzW_own (t : Ct) : frzW (.own t) = .val t.toD := rfl
@[simp] theorem frzW_inn (t : Ct) : frzW (.inn t) = .val t.toD := rfl
end
end DL
set_option Elab.async false
set_option linter.all false
set_option maxRecDepth 100000
set_option maxHeartbeats 4000000
/-! ### or, and of any values -/
namespace DL
open PySem PySem.Spec PyProof.Rows L2
variable [CTab]
def mOrG (ma mb : M D) : M D := fun ρ => bindR (ma ρ) fun d ρ => match dTru d with
  | some true => .ok d ρ
  | some false => mb ρ
  | none => .fail
def mAndG (ma mb : M D) : M D := fun ρ => bindR (ma ρ) fun d ρ => match dTru d with
  | some true => mb ρ
  | some false => .ok d ρ
  | none => .fail
section
variable {X : Cx} {E : XK} {pos : Pos} {a b : Expr} {rest : List Expr} {ma mb : M D}
theorem d_orG (ha : PE X a (tD X.K E ma)) (hb : PE X (.BoolOp .Or (b :: rest) pos) (tD X.K E mb)) : PE X (.BoolOp .Or (a :: b :: rest) pos) (tD X.K E (mOrG ma mb)) := by
  refine (pe_orT ha hb).imp fun σ H Q h => ?_
  obtain ⟨c, Z, ρ, r, q⟩ := h
  refine ⟨c, Z, ρ, r, q.bind fun d ρ1 v H1 r1 e1 h1 q1 => ?_⟩
  split at q1
  · rename_i hk
    exact ⟨true, tru_ok' hk h1, by rw [if_pos rfl]; exact q1.done r1 h1⟩
  · rename_i hk
    exact ⟨false, tru_ok' hk h1, by rw [if_neg (by decide)]; exact ⟨c, Z, ρ1, r1, q1⟩⟩
  · exact q1.elim
theorem d_andG (ha : PE X a (tD X.K E ma)) (hb : PE X (.BoolOp .And (b :: rest) pos) (tD X.K E mb)) : PE X (.BoolOp .And (a :: b :: rest) pos) (tD X.K E (mAndG ma mb)) := by
  refine (pe_andT ha hb).imp fun σ H Q h => ?_
  obtain ⟨c, Z, ρ, r, q⟩ := h
  refine ⟨c, Z, ρ, r, q.bind fun d ρ1 v H1 r1 e1 h1 q1 => ?_⟩
  split at q1
  · rename_i hk
    exact ⟨true, tru_ok' hk h1, by rw [if_pos rfl]; exact ⟨c, Z, ρ1, r1, q1⟩⟩
  · rename_i hk
    exact ⟨false, tru_ok' hk h1, by rw [if_neg (by decide)]; exact q1.done r1 h1⟩
  · exact q1.elim
end
@[simp] theorem ev_mOrG (ma mb : M D) (ρ : Env) : mOrG ma mb ρ = (bindR (ma ρ) fun d ρ => match dTru d with
  | some true => .ok d ρ
  | some false => mb ρ
  | none => .fail) := rfl
@[simp] theorem ev_mAndG (ma mb : M D) (ρ : Env) : mAndG ma mb ρ = (bindR (ma ρ) fun d ρ => match dTru d with
  | some true => mb ρ
  | some false => .ok d ρ
  | none => .fail) := rfl
end DL
set_option Elab.async false
set_option linter.all false
set_option maxRecDepth 100000
set_option maxHeartbeats 4000000
/-! ### sorted(a tuple of texts) -/
namespace DL
open PySem PySem.Spec PyProof.Rows L2
def rSortedTu (K : PySem.W.Frag) : List V → Hp → VK → Prop := fun vs H Q => ∃ (a : Addr) (xs : List Str), vs = [V.ref a] ∧ SqT K H a (xs.map V.str) ∧ xs.length < 64 ∧ ∀ (ys : List Str) (p : Addr), ys.Perm xs → PyProof.Rows.sortedS ys = true → H p = none → Q (.ref p) (upd H p (.lst (ys.map V.str)))
theorem cr_sortedTu {X : Cx} : CallR X (.builtin "sorted") (rSortedTu X.K) := by
  intro pins s σ H vs us Q I r h
  obtain ⟨a, xs, rfl, hs, h64, q⟩ := h
  obtain ⟨its, rv, ⟨o, ho, hc, n, hd⟩, hz⟩ := I.tuple hs
  rw [Vals.ref1 r]
  have hS := rv.strs
  have hl : its.length = xs.length := by rw [← rv.length, List.length_map]
  refine Calls.call_function_entry PyProof.Rows.kind_sorted PyProof.Rows.plain_sorted PyProof.Rows.entry_sorted (PyProof.Rows.args_sorted1 _) ?_
  unfold Builtin.«sorted»
  refine wpAny_bind (m := checkCount "sorted" 1 1 _) (wpAny_pure ?_)
  have hsz : its.length ≤ sizeLine := by rw [hl]; exact Nat.le_trans (Nat.le_of_lt h64) (by decide)
  refine wpAny_bind (wpAny_collect_seq a (.inr rfl) ho hc hd (fun h' hk => ?_) (by simpa using hsz))
  rw [List.toList_toArray]
  have I1 : Inv X pins σ H { s with heap := h' } := I.kept (t' := s.toks) hk
  refine wpAny_bind (wpAny_newList ?_ hsz)
  have hL : (h'.push (seqObj "list" its.toArray 0)).get? h'.objs.size = some (seqObj "list" its.toArray 0) := Heap.get?_push_size _ rfl
  show wpAny _ _ _ _ _ { s with heap := h'.push (seqObj "list" its.toArray 0) }
  refine wpAny_bind (wpAny_holding (wpAny_call_entry PyProof.Rows.slot_list_sort ⟨_, hL, rfl⟩ PyProof.Rows.entry_list_sort
    (list_sort_treeK strKind_oneLt (s := { s with heap := h'.push (seqObj "list" its.toArray 0) }) hL hS.keysOf (fun v₁ v₂ rest e => keyKind_strs (by rw [← e]; exact hS)) (by rw [hl]; exact h64) fun st' hp hs' => ⟨_, rfl, ?_⟩)
    (PyProof.Rows.args_list_sort _)))
  obtain ⟨ys, g1, g2, g3⟩ := sorted_out_str hS hp hs'
  obtain ⟨e', he'⟩ := PyProof.Rows.sortedHeap_at (vs := its) (out := (arrOf st').map (·.2)) hL
  have hlen : (ys.map V.str).length ≤ sizeLine := by
    rw [List.length_map, g2.length_eq, ← hl]
    exact hsz
  refine wpAny_pure ⟨_, rfl, .ref h'.objs.size, upd H h'.objs.size (.lst (ys.map V.str)), I1.laid (t' := s.toks) (fun b u e => ?_) (Nat.le_refl _)
    (show ObjOk X.prog X.w _ _ _ (.lst (ys.map V.str)) from ⟨hlen, ((arrOf st').map (·.2)).toList, e', vals_of_strs g1, by rw [Array.toArray_toList]; exact he'⟩), rfl, q ys _ g2 g3 (I1.hok.fresh (Nat.le_refl _))⟩
  have hb : b < h'.objs.size := Heap.lt_size e
  rw [PyProof.Rows.sortedHeap_old (Nat.ne_of_lt hb) (by rw [size_push']; exact Nat.lt_succ_of_lt hb)]
  exact Heap.get?_push_of_some _ e
variable [CTab]
def fSortedX : List D → Option D
  | [.tup l] => (dStrs l).bind fun ss => if ss.length < 64 then some (.lst ((isort leS ss).map .str)) else none
  | l => fSorted l
theorem ca_sortedX {K : PySem.W.Frag} : CaD K (fun xs H Q => (rSortedI K xs H Q ∨ rSortedS K xs H Q) ∨ rSortedTu K xs H Q) fSortedX := by
  intro H Z l d xs Q hz r h k
  unfold fSortedX at h
  split at h
  · rename_i ds
    obtain ⟨v, rfl, h1⟩ := r.inv1
    cases e5 : dStrs ds with
    | none => rw [e5] at h; cases h
    | some ss =>
      rw [e5] at h
      simp only [Option.bind_some] at h
      split at h
      · rename_i h64
        cases h
        simp only [Rep] at h1
        obtain ⟨p, vs, rfl, h2, h3⟩ := h1
        cases dStrs_rep e5 h3
        refine .inr ⟨p, ss, rfl, h2.sq, h64, fun ys q hp hs hq => ?_⟩
        have e4 : ys = isort leS ss := List.Perm.eq_of_pairwise (le := fun a b => leS a b = true) (fun a b _ _ q1 q2 => leS_anti a b q1 q2) (sortedS_pw hs) (isort_pw leS_tr leS_tot ss) (hp.trans (isort_perm ss).symm)
        subst e4
        exact k _ _ (same_upd hq) (new_lst hz hq (reps_strs _))
      · cases h
  · exact .inl (ca_sorted H Z _ d xs Q hz r h k)
theorem call_sortedX {X : Cx} : CallR X (.builtin "sorted") (fun xs H Q => (rSortedI X.K xs H Q ∨ rSortedS X.K xs H Q) ∨ rSortedTu X.K xs H Q) := call_sortedA.or cr_sortedTu
end DL
set_option Elab.async false
set_option linter.all false
set_option maxRecDepth 100000
set_option maxHeartbeats 4000000
/-! ### list(d.values()) -/
namespace DL
open PySem PySem.Spec PyProof.Rows L2
def tLstVals (td : TE) : TE := fun σ H Q => td σ H fun x H1 => ∃ a kvs, x = V.ref a ∧ Rd H1 a (.dK kvs) ∧ kvs.length ≤ 4000 ∧ ∀ l, H1 l = none → Q (.ref l) (upd H1 l (.lst (kvs.map (·.2))))
theorem pe_lstVals {X : Cx} {o : Expr} {p pos apos mpos : Pos} {td : TE} (hc : X.calm = true) (hg : Gl X "list") (hm : X.mg "list" = none) (hd : PE X o td) (hbase : attributeBase o "values" X.env (eval o X.env) = eval o X.env) (hline : (apos.endLine == mpos.line) = true)
    (na : starEach [.Call (.Attribute o "values" apos) [] [] mpos] X.env = (false, eval (.Call (.Attribute o "values" apos) [] [] mpos) X.env) :: starEach [] X.env) :
    PE X (.Call (.Name "list" p) [.Call (.Attribute o "values" apos) [] [] mpos] [] pos) (tLstVals td) := by
  constructor
  intro pins s σ H Q I h
  refine Call_ (ld_blt I hg hm (u := .type "list") (by decide +kernel) ?_)
  refine PyProof.Rows.callWith_type1 (PyProof.Rows.args_cons ?_ na) na rfl
  refine wpAny_Call_method0_late hbase hline (thn (hd.run pins s σ H _ I h) fun v s1 ⟨x, H1, I1, r1, a, kvs, ex, ha, hz, q⟩ => ?_)
  subst ex
  obtain rfl : v = Value.ref a := r1
  obtain ⟨_, hsys, vs, rel, dof⟩ := dk_rd I1.hok ha
  obtain ⟨ep, dat⟩ := dof.dictAt
  have dat' := dat
  obtain ⟨ob, es, ho, ex, hdat, hko, hpr, hnd⟩ := dat'
  refine ⟨"dict", "dict.values", F.plainAttrs_dict, F.slot_dict_values, F.type_dict_values, ⟨ob, ho, ex.1⟩, fun b e => ?_, Calls.callWith_builtin rfl (PySem.evalArgs_none ?_)⟩
  · cases e
    exact ⟨ob, ho, ex.2.1⟩
  refine call_meetsIn F.slot_dict_values ⟨ob, ho, ex.1⟩ F.entry_dict_values (F.args_dict_values_1 _) (meets_dict_values (mixKind X.prog X.w) a hsys) ⟨⟨vs, dof⟩, ?_⟩
  have k1 : ∀ b u, s1.heap.get? b = some u → (s1.heap.push { cls := .type "dict_values", data := .fields #[.ref a] }).get? b = some u := fun b u e => Heap.get?_push_of_some _ e
  have dat1 : (s1.heap.push { cls := .type "dict_values", data := .fields #[.ref a] }).DictAt (mixKind X.prog X.w) a vs ep := dat.keep k1
  refine PyProof.Rows.args_nil ?_
  have hl : kvs.length = vs.length := Paired.length rel
  have I2 : Inv X pins σ H1 { s1 with heap := s1.heap.push { cls := .type "dict_values", data := .fields #[.ref a] } } := I1.kept (t' := s1.toks) k1
  have hz2 : vs.length ≤ sizeLine := by rw [← hl]; exact Nat.le_trans hz (by decide)
  refine PySem.W.kdl_call (s := { s1 with heap := s1.heap.push { cls := .type "dict_values", data := .fields #[.ref a] } }) (PySem.W.kdl_values (knd := mixKind X.prog X.w) (kvs := vs) (ep := ep) (d := a) (r := s1.heap.objs.size)) (I.ok.hd hc) ⟨⟨_, Heap.get?_push_size _ rfl, rfl, rfl⟩, dat1⟩ hz2 fun h' tk acc c' hk hS hacc => ?_
  refine ⟨.ref _, upd H1 _ (.lst (kvs.map (·.2))), I2.laid (t' := tk) hk (Nat.le_refl _) (show ObjOk X.prog X.w _ h' _ (.lst (kvs.map (·.2))) from ⟨by rw [List.length_map, hl]; exact hz2, acc.toList, c', ?_, by rw [Array.toArray_toList]; exact hS⟩), rfl, q _ (I2.hok.fresh (Nat.le_refl _))⟩
  have hal : acc.toList.length = acc.size := by simp
  refine vals_of_at (by rw [List.length_map, hal, hacc.1, hl]) fun j x w h1 h2 => ?_
  obtain ⟨k, hk2⟩ := hacc.2 j w (by rw [← Array.getElem?_toList]; exact h2)
  obtain ⟨y, g1, g2⟩ := KV.at' rel hk2
  rw [List.getElem?_map, g1] at h1
  cases h1
  exact g2
variable [CTab]
def dValsL : D → Option D
  | .dct ks l => if l.length ≤ 4000 then some (.lst l) else none
  | _ => none
theorem d_lstVals {X : Cx} {E : XK} {o : Expr} {m : M D} {p pos apos mpos : Pos} (hd : PE X o (tD X.K E m)) (hm : X.mg "list" = none) (hc : X.calm = true := by rfl) (hg : Gl X "list" := by rfl) (hbase : attributeBase o "values" X.env (eval o X.env) = eval o X.env := by rfl) (hline : (apos.endLine == mpos.line) = true := by rfl)
    (na : starEach [.Call (.Attribute o "values" apos) [] [] mpos] X.env = (false, eval (.Call (.Attribute o "values" apos) [] [] mpos) X.env) :: starEach [] X.env := by rfl) :
    PE X (.Call (.Name "list" p) [.Call (.Attribute o "values" apos) [] [] mpos] [] pos) (tD X.K E (m1 dValsL m)) := by
  refine (pe_lstVals hc hg hm hd hbase hline na).imp fun σ H Q h => ?_
  obtain ⟨c, Z, ρ, r, q⟩ := h
  refine ⟨c, Z, ρ, r, q.bind fun d ρ1 v H1 r1 e1 h1 q1 => ?_⟩
  obtain ⟨w, hw, k⟩ := q1.lift r1
  replace h1 : Rep X.K H1 Z d v := h1
  cases d <;> first | (cases hw; done) | skip
  rename_i ks l
  simp only [dValsL] at hw
  split at hw
  · rename_i hz
    cases hw
    simp only [Rep] at h1
    obtain ⟨a, vs, rfl, hza, hrd, hlen, hr⟩ := h1
    have hl2 := hr.len
    have e : (ks.zip vs).map (·.2) = vs := by
      rw [List.map_snd_zip]
      omega
    refine ⟨a, ks.zip vs, rfl, hrd, by rw [List.length_zip]; omega, fun q hq => ?_⟩
    rw [e]
    exact k _ _ (same_upd hq) (new_lst r1.dom hq hr)
  · cases hw
@[simp] theorem dValsL_dct (ks : List Key) (l : List D) : dValsL (.dct ks l) = if l.length ≤ 4000 then some (.lst l) else none := rfl
end DL
set_option Elab.async false
set_option linter.all false
set_option maxRecDepth 100000
set_option maxHeartbeats 4000000
/-! ### tuple(range(..)) -/
namespace DL
open PySem PySem.Spec PyProof.Rows L2
variable [CTab] {X : Cx} {E : XK} {pos p p2 pos2 : Pos} {e e2 : Expr} {m m' : M D}
def mTupRng1 (m : M D) : M D := fun ρ => bindR (m ρ) fun d ρ => match d with
  | .int j => if lim4 j = true then .ok (.tup (rngD 0 j.toNat)) ρ else .fail
  | _ => .fail
def mTupRng2 (m m' : M D) : M D := fun ρ => bindR (m ρ) fun d ρ => bindR (m' ρ) fun d' ρ => match d, d' with
  | .int i, .int j => if (lim4 i && lim4 j) = true then .ok (.tup (rngD i (j - i).toNat)) ρ else .fail
  | _, _ => .fail
theorem d_tupRng1 (he : PE X e (tD X.K E m)) (hm : X.mg "tuple" = none) (hm2 : X.mg "range" = none) (hc : X.calm = true := by rfl) (hg : Gl X "tuple" := by rfl) (hg2 : Gl X "range" := by rfl) (h1 : starEach [e] X.env = (false, eval e X.env) :: starEach [] X.env := by rfl)
    (h3 : starEach [.Call (.Name "range" p2) [e] [] pos2] X.env = (false, eval (.Call (.Name "range" p2) [e] [] pos2) X.env) :: starEach [] X.env := by rfl) :
    PE X (.Call (.Name "tuple" p) [.Call (.Name "range" p2) [e] [] pos2] [] pos) (tD X.K E (mTupRng1 m)) := by
  refine (pe_tupRg hc hg hm (prg_1 hg2 hm2 he h1) h3).imp fun σ H Q h => ?_
  obtain ⟨c, Z, ρ, r, q⟩ := h
  refine ⟨c, Z, ρ, r, q.bind fun d ρ1 v H1 r1 e1 hd q1 => ?_⟩
  cases d <;> first | (exact q1.elim; done) | skip
  rename_i j
  cases (show v = _ from hd)
  by_cases hl : lim4 j = true
  · have q1 : tR X.K E rD c Z σ H1 Q (if lim4 j = true then .ok (.tup (rngD 0 j.toNat)) ρ1 else .fail) := q1
    rw [if_pos hl] at q1
    obtain ⟨l1, l2⟩ := of_decide_eq_true hl
    refine ⟨j, rfl, ⟨by omega, by omega, by omega, by omega, by omega⟩, fun q hq => ?_⟩
    have := q1.new r1 (same_upd hq) (new_tup r1.dom hq (reps_rng j.toNat 0))
    have e : rgV 0 j = rngV 0 j.toNat := by unfold rgV rngV; rw [Int.sub_zero]
    rw [e]
    exact this
  · have q1 : tR X.K E rD c Z σ H1 Q (if lim4 j = true then .ok (.tup (rngD 0 j.toNat)) ρ1 else .fail) := q1
    rw [if_neg hl] at q1
    exact q1.elim
theorem d_tupRng2 (he : PE X e (tD X.K E m)) (he2 : PE X e2 (tD X.K E m')) (hm : X.mg "tuple" = none) (hm2 : X.mg "range" = none) (hc : X.calm = true := by rfl) (hg : Gl X "tuple" := by rfl) (hg2 : Gl X "range" := by rfl) (h1 : starEach [e, e2] X.env = (false, eval e X.env) :: starEach [e2] X.env := by rfl) (h1' : starEach [e2] X.env = (false, eval e2 X.env) :: starEach [] X.env := by rfl)
    (h2 : (backTo pos2 (starEach [e2] X.env)).any (·.1) = false := by rfl) (h3 : starEach [.Call (.Name "range" p2) [e, e2] [] pos2] X.env = (false, eval (.Call (.Name "range" p2) [e, e2] [] pos2) X.env) :: starEach [] X.env := by rfl) :
    PE X (.Call (.Name "tuple" p) [.Call (.Name "range" p2) [e, e2] [] pos2] [] pos) (tD X.K E (mTupRng2 m m')) := by
  refine (pe_tupRg hc hg hm (prg_2 hg2 hm2 he he2 h1 h1' h2) h3).imp fun σ H Q h => ?_
  obtain ⟨c, Z, ρ, r, q⟩ := h
  refine ⟨c, Z, ρ, r, q.bind fun d ρ1 v H1 r1 e1 hd q1 => ⟨c, Z, ρ1, r1, q1.bind fun d2 ρ2 v2 H2 r2 e2 hd2 q2 => ?_⟩⟩
  replace hd := Rep.ext e2 _ _ hd
  cases d <;> first | (exact q2.elim; done) | skip
  rename_i i
  cases d2 <;> first | (exact q2.elim; done) | skip
  rename_i j
  cases (show v = _ from hd)
  cases (show v2 = _ from hd2)
  by_cases hl : (lim4 i && lim4 j) = true
  · have q2 : tR X.K E rD c Z σ H2 Q (if (lim4 i && lim4 j) = true then .ok (.tup (rngD i (j - i).toNat)) ρ2 else .fail) := q2
    rw [if_pos hl] at q2
    obtain ⟨g1, g2⟩ := Bool.and_eq_true_iff.mp hl
    obtain ⟨l1, l2⟩ := of_decide_eq_true g1
    obtain ⟨l3, l4⟩ := of_decide_eq_true g2
    exact ⟨i, j, rfl, rfl, ⟨by omega, by omega, by omega, by omega, by omega⟩, fun q hq => q2.new r2 (same_upd hq) (new_tup r2.dom hq (reps_rng (j - i).toNat i))⟩
  · have q2 : tR X.K E rD c Z σ H2 Q (if (lim4 i && lim4 j) = true then .ok (.tup (rngD i (j - i).toNat)) ρ2 else .fail) := q2
    rw [if_neg hl] at q2
    exact q2.elim
@[simp] theorem ev_mTupRng1 (m : M D) (ρ : Env) : mTupRng1 m ρ = bindR (m ρ) fun d ρ => match d with
  | .int j => if lim4 j = true then .ok (.tup (rngD 0 j.toNat)) ρ else .fail
  | _ => .fail := rfl
@[simp] theorem ev_mTupRng2 (m m' : M D) (ρ : Env) : mTupRng2 m m' ρ = bindR (m ρ) fun d ρ => bindR (m' ρ) fun d' ρ => match d, d' with
  | .int i, .int j => if (lim4 i && lim4 j) = true then .ok (.tup (rngD i (j - i).toNat)) ρ else .fail
  | _, _ => .fail := rfl
end DL
set_option Elab.async false
set_option linter.all false
set_option maxRecDepth 100000
set_option maxHeartbeats 4000000
/-! ### x *= e of numbers -/
namespace DL
open PySem PySem.Spec PyProof.Rows L2
variable [CTab] {X : Cx} {E : XK} {pos pos' : Pos} {e : Expr} {m : M D}
def ipC (C : Int → Int → Prop) (f : Int → Int → Int) : TIp := fun x y H Q => ∃ i j, x = .int i ∧ y = .int j ∧ C i j ∧ Q (.int (f i j)) H
theorem ip_mulC : PIp X .Mult (ipC CMul fun i j => i * j) := by
  intro pins s σ H x y v u Q I r1 r2 h
  obtain ⟨i, j, e1, e2, hc, q⟩ := h
  subst e1; subst e2
  obtain ⟨t, rfl⟩ := r1
  obtain ⟨t', rfl⟩ := r2
  exact imul_int ⟨.int _, H, I.tok _, ⟨_, rfl⟩, q⟩ hc.ok
theorem s_augM (i : Nat) {x : Str} (hN : X.N.Nodup) (he : PE X e (tD X.K E m)) (hi : X.N[i]? = some x := by rfl) (hx : Loc X.env.scope x := by first | exact Or.inl rfl | exact Or.inr rfl) (hf : X.fn x = true ∨ X.env.scope.names.lookup x = some .local := by first | exact .inl rfl | exact .inr rfl) :
    PS X (.AugAssign (.Name x pos') .Mult e pos) (tS X.K E (mAug i dMul m)) := by
  refine (ps_aug hN hi hx he ip_mulC hf).imp fun Dn σ H h => ?_
  obtain ⟨c, ρ, ⟨Z, r⟩, q⟩ := h
  unfold mAug at q
  split at q
  · rename_i dx hx'
    obtain ⟨v, h1, h2⟩ := r.val i dx hx'
    refine ⟨v, h1, c, Z, ρ, r, tSR.expr q fun b ρ1 y H1 r1 hb q3 => ?_⟩
    cases ef : dMul dx b with
    | none => rw [ef] at q3; exact q3.elim
    | some d =>
      rw [ef] at q3
      unfold dMul at ef
      split at ef
      · split at ef
        · rename_i j k hl
          cases ef
          cases (show v = _ from h2)
          cases (show y = _ from hb)
          refine ⟨j, k, rfl, rfl, ?_, q3 _ _ ⟨Z, r1.set (d := .int (j * k)) rfl⟩⟩
          rcases Bool.or_eq_true_iff.mp hl with q | q
          · exact .inl (of_decide_eq_true q)
          · exact .inr (of_decide_eq_true q)
        · cases ef
      · cases ef
  · exact q.elim
end DL
set_option Elab.async false
set_option linter.all false
set_option maxRecDepth 100000
set_option maxHeartbeats 4000000
/-! ### x.f, x an object of one's own (or handed in to be changed) -/
namespace DL
open PySem PySem.Spec PyProof.Rows L2
variable [CTab] {X : Cx} {E : XK} {pos : Pos}
def mOwnFld (i : Nat) (fs : List (Nat × Nat)) : M D := fun ρ => match holds ρ i with
  | some (.ob c l) => liftO ((fs.lookup c).bind fun k => l[k]?) ρ
  | _ => .fail
theorem d_ownFld {n : Nat} {f x : Str} {xp : Pos} (cf : CFacts X.K n) (i : Nat) (fs : List (Nat × Nat)) (hN : X.N[i]? = some x := by rfl) (hv : Vis X.env.scope x := by first | exact Or.inl rfl | exact Or.inr (Or.inl rfl) | exact Or.inr (Or.inr rfl)) (hd : (x == ("__debug__" : Str)) = false := by decide)
    (hcd : (x == ("__classdict__" : Str)) = false := by decide) (hf : (fs.all fun q => decide (q.1 < n) && decide ((cF q.1)[q.2]? = some f)) = true := by decide +kernel)
    (hb : attributeBase (.Name x xp) f X.env (eval (.Name x xp) X.env) = eval (.Name x xp) X.env := by rfl) : PE X (.Attribute (.Name x xp) f pos) (tD X.K E (mOwnFld i fs)) := by
  refine (pe_fld (pe_var hN hv hd hcd) hb).imp fun σ H Q h => ?_
  obtain ⟨c, Z, ρ, r, q⟩ := h
  unfold mOwnFld at q
  split at q
  · rename_i c' l ht
    obtain ⟨p, w, _, _, h1, _, o, h2, h3⟩ := holds_rel r ht
    cases hl : fs.lookup c' with
    | none => rw [hl] at q; exact q.elim
    | some k =>
      rw [hl] at q
      cases hw : l[k]? with
      | none => rw [show (some k).bind (fun k => l[k]?) = l[k]? from rfl, hw] at q; exact q.elim
      | some d =>
        rw [show (some k).bind (fun k => l[k]?) = l[k]? from rfl, hw] at q
        obtain ⟨g1, g2⟩ := Bool.and_eq_true_iff.mp (List.all_eq_true.mp hf _ (lookup_mem hl))
        have g1 := of_decide_eq_true g1
        have g2 := of_decide_eq_true g2
        obtain ⟨dx, vs, rfl, _, h4⟩ := h3
        obtain ⟨u, hu, ru⟩ := h4.get hw
        exact ⟨_, h1, p, _, dx, _, u, rfl, h2, (cf.cls c' g1).cl, cf.noat c' f g1 (List.mem_of_getElem? g2), lookup_zip (cf.nd c' g1) g2 hu, q.done r ru⟩
  · exact q.elim
@[simp] theorem ev_mOwnFld (i : Nat) (fs : List (Nat × Nat)) (ρ : Env) : mOwnFld i fs ρ = (match holds ρ i with
  | some (.ob c l) => liftO ((fs.lookup c).bind fun k => l[k]?) ρ
  | _ => .fail) := rfl
end DL
set_option Elab.async false
set_option linter.all false
set_option maxRecDepth 100000
set_option maxHeartbeats 4000000
/-! ### a, b, c = x, y, z -/
namespace DL
open PySem PySem.Spec PyProof.Rows L2
variable [CTab] {X : Cx} {E : XK} {pos : Pos}
def mPar3 (i j k : Nat) (ms : M (List D)) : M Fl := fun ρ => bindR (ms ρ) fun l ρ => match l with
  | [a, b, c] => .ok .nx (((ρ.set i (some (.val a))).set j (some (.val b))).set k (some (.val c)))
  | _ => .fail
theorem Reps.inv3 {K : PySem.W.Frag} {H : Hp} {Z : Addr → Prop} {a b c : D} {vs : List V} (h : Reps K H Z [a, b, c] vs) : ∃ u v w, vs = [u, v, w] ∧ Rep K H Z a u ∧ Rep K H Z b v ∧ Rep K H Z c w := by
  simp only [Reps] at h
  obtain ⟨u, _, rfl, h1, v, _, rfl, h2, w, _, rfl, h3, rfl⟩ := h
  exact ⟨u, v, w, rfl, h1, h2, h3⟩
theorem s_par3 (i j l : Nat) {x y z : Str} {a b c : Expr} {ms : M (List D)} {px py pz pt : Pos} {kt k2 pt2} (hc : X.calm = true) (hN : X.N.Nodup) (ha : PA X [a, b, c] (tAr X.K E ms)) (hi : X.N[i]? = some x := by rfl) (hj : X.N[j]? = some y := by rfl) (hl : X.N[l]? = some z := by rfl) (hij : i ≠ j := by decide) (hil : i ≠ l := by decide) (hjl : j ≠ l := by decide)
    (hx : X.env.scope.names.lookup x = some .local := by rfl) (hy : X.env.scope.names.lookup y = some .local := by rfl) (hz : X.env.scope.names.lookup z = some .local := by rfl)
    (hw : swappedStores [.Tuple [.Name x px, .Name y py, .Name z pz] kt pt] (.Tuple [a, b, c] k2 pt2) X.env = pure (some [x, y, z]) := by rfl)
    (hs : swapsWithSole [.Tuple [.Name x px, .Name y py, .Name z pz] kt pt] (.Tuple [a, b, c] k2 pt2) pos.line X.env = pure false := by rfl) :
    PS X (.Assign [.Tuple [.Name x px, .Name y py, .Name z pz] kt pt] (.Tuple [a, b, c] k2 pt2) pos) (tS X.K E (mPar3 i j l ms)) := by
  refine (ps_par3 hc hN hi hj hl hij hil hjl hx hy hz ha hw hs).imp fun Dn σ H h => ?_
  obtain ⟨c, ρ, ⟨Z, r⟩, q⟩ := h
  refine ⟨c, Z, ρ, r, tSR.expr q fun l ρ1 vs H1 r1 hl q1 => ?_⟩
  have hl : Reps X.K H1 Z l vs := hl
  split at q1
  · obtain ⟨v, u, w, rfl, h1, h2, h3⟩ := hl.inv3
    exact ⟨v, u, w, rfl, q1 _ _ ⟨Z, ((r1.set h1).set h2).set h3⟩⟩
  · exact q1.elim
@[simp] theorem ev_mPar3 (i j k : Nat) (ms : M (List D)) (ρ : Env) : mPar3 i j k ms ρ = (bindR (ms ρ) fun l ρ => match l with
  | [a, b, c] => .ok .nx (((ρ.set i (some (.val a))).set j (some (.val b))).set k (some (.val c)))
  | _ => .fail) := rfl
end DL
set_option Elab.async false
set_option linter.all false
set_option maxRecDepth 100000
set_option maxHeartbeats 4000000
/-! ### enumerate of a tuple -/
namespace DL
open PySem PySem.Spec PyProof.Rows L2
theorem meets_enum1 {v : Value} {o : Obj} {H : Heap → Prop} (B : Begins v o H) :
    Meets (Builtin.«enumerate.__new__» ⟨[.type "enumerate", v], []⟩) (fun _ R s => H s.heap ∧
      R (.ok (.ret (.ref (s.heap.push o).objs.size))) { s with heap := (s.heap.push o).push { cls := .type "enumerate", data := .fields #[.none, .bool false, .ref s.heap.objs.size, rawInt 0, .none, .none] } }) :=
  .of_wp fun prog w A R s h => by
    obtain ⟨hp, g, d, tk, os⟩ := s; obtain ⟨h1, h⟩ := h
    have hsub := sub_enumerate
    have q1 : ∀ {A' : Around} {E : Value → Shared → Prop} {Q : Value → Shared → Prop}, Q (.ref hp.objs.size) ⟨hp.push o, g, d, tk, os⟩ → wpAny (model prog w) A' (pyIter v) Q E ⟨hp, g, d, tk, os⟩ :=
      fun q => B.iter prog w _ _ ⟨hp, g, d, tk, os⟩ _ h1 q
    wp_walk using q1
    refine wpAny_stack_any fun st => wpAny_pure ?_
    split
    · rename_i c _ _ _ _ _
      cases (c == Value.type "enumerate")
      · wp_walk using q1
        exact ⟨_, rfl, h⟩
      · wp_walk using q1
        exact ⟨_, rfl, h⟩
    · wp_walk using q1
      exact ⟨_, rfl, h⟩
section
variable {prog : Program} {w : World} {A : Around} {E : Value → Shared → Prop} {s : Shared}
theorem enum1_begins {v : Value} {o : Obj} {H : Heap → Prop} {Q : Value → Shared → Prop} (B : Begins v o H) (h1 : H s.heap)
    (h : ∀ h', IsEnum h' (s.heap.objs.size + 1) s.heap.objs.size 0 .none → h'.get? s.heap.objs.size = some o → h'.objs.size = s.heap.objs.size + 2 →
      (∀ b o, s.heap.get? b = some o → h'.get? b = some o) → Q (.ref (s.heap.objs.size + 1)) { s with heap := h' }) :
    wpAny (model prog w) A (call (.type "enumerate") [v]) Q E s := by
  refine callType_new F.called_enumerate (by decide) (F.typeCall_enumerate_1 _) (F.newCall_enumerate_1 _) (fun obj => F.args_object_init_2 obj _) F.entry_enumerate_new
    (meets_enum1 B) ⟨h1, ?_⟩
  have hz : (s.heap.push o).objs.size = s.heap.objs.size + 1 := Heap.size_push ..
  show _ ∧ _
  rw [hz]
  have he : IsEnum ((s.heap.push o).push { cls := .type "enumerate", data := .fields #[.none, .bool false, .ref s.heap.objs.size, rawInt 0, .none, .none] }) (s.heap.objs.size + 1) s.heap.objs.size 0 .none := by
    have := Heap.get?_push_size (s.heap.push o) (o := { cls := .type "enumerate", data := .fields #[.none, .bool false, .ref s.heap.objs.size, rawInt 0, .none, .none] }) rfl
    rw [hz] at this; exact this
  refine ⟨⟨_, he, rfl⟩, h _ he (Heap.get?_push_of_some _ (Heap.get?_push_size _ B.free)) (by rw [Heap.size_push, hz]) fun b o x => Heap.get?_push_of_some _ (Heap.get?_push_of_some _ x)⟩
theorem enumT_end {e it l : Addr} {i : Nat} {items : Array Value} {old : Value} {c : Int} {Q : Option Value → Shared → Prop} (hh : A.handled = none)
    (he : IsEnum s.heap e it c old) (hit : s.heap.IsTupleIter it l i) (hl : s.heap.IsTuple l items) (hx : items[i]? = none)
    (hQ : ∀ h', Heap.ExtBut it s.heap h' → Q none { s with heap := h' }) : wpAny (model prog w) A (pyNext (.ref e)) Q E s := by
  have hT : s.TypeIs (.ref e) "enumerate" := ⟨_, he, rfl⟩
  unfold pyNext
  refine wpAny_bind (wpAny_attempt (wpAny_callSpecial?_slot (name := Str.ofString "__next__") hT F.slot_enumerate_next
    (wpAny_call_entry F.slot_enumerate_next hT F.entry_enumerate_next ?_ (F.args_enumerate_next_1 _))))
  show wpAny _ _ (field (.ref e) 2 >>= _) _ _ _
  refine wpAny_bind (wpAny_field he rfl (x := .ref it) rfl ?_)
  refine wpAny_bind (wpAny_nextOf_tuple_end hh hit hl hx fun h' x he' hx' => ?_)
  obtain ⟨o, ho, hc⟩ := hx'
  refine wpAny_bind (wpAny_isInstance (T := "StopIteration") (b := true) ⟨o, ho, hc⟩ isSubtype_stop ?_)
  exact wpAny_pure (hQ _ he')
end
/-- the tuple at a, each item in a new pair -/
def IteT (K : PySem.W.Frag) (a : Addr) : It :=
  ⟨fun i H => ∃ (xs : List V) (x : V), SqT K H a xs ∧ xs[i]? = some x, fun i H v H' => ∃ T x, v = .ref T ∧ H T = none ∧ H' = upd H T (.tup [.int (i : Nat), x]) ∧ ∀ xs, SqT K H a xs → xs[i]? = some x, fun i H => ∃ xs : List V, SqT K H a xs ∧ xs.length ≤ i⟩
theorem turn_enumT {P : Program} {w : World} {K : PySem.W.Frag} {elts : List Expr} {kk : Nat} {tpos : Pos} (a e it : Addr) :
    Turn P w K (.Tuple elts kk tpos) (IteT K a) [e, it] e (fun i h => (∃ old, IsEnum h e it ((i : Nat) : Int) old) ∧ h.IsTupleIter it a i ∧ e ≠ it ∧ a ≠ it ∧ a ≠ e) where
  mem := by simp
  obj := fun i h st b hb => by
    obtain ⟨⟨old, he⟩, ⟨o, ho, hc, hd⟩, _⟩ := st
    have e' : b = e ∨ b = it := by simpa using hb
    rcases e' with z | z
    · rw [z]; exact ⟨_, he, fun v q => nomatch q⟩
    · rw [z]; exact ⟨o, ho, fun v q => by rw [hd] at q; cases q⟩
  keep := fun i h h' st k => let ⟨⟨old, he⟩, hi, hne⟩ := st; ⟨⟨old, k e (by simp) _ he⟩, hi.at fun o q => k it (by simp) o q, hne⟩
  item := by
    intro X hP hw hK hc i pins s σ H E I hf st hg
    subst hP hw hK
    obtain ⟨⟨old, he⟩, hit, hne, hai, hae⟩ := st
    obtain ⟨xs, x, hq, hx⟩ := hg
    obtain ⟨its, rv, p, hz⟩ := I.tuple hq
    have p : s.heap.IsTuple a its.toArray := p
    obtain ⟨u, hu, ru⟩ := rv.get hx
    have hel : e < s.heap.objs.size := Heap.lt_size he
    have hil : it < s.heap.objs.size := by obtain ⟨_, q, _⟩ := hit; exact Heap.lt_size q
    have hlt : i < its.toArray.size := by
      have := (List.getElem?_eq_some_iff.mp hu).1
      simpa using this
    refine wpAny_pyNext_enum_itemD (Draws.tuple (A := Around.in1 _) (I.ok.hd hc) it a hai its.toArray) he ⟨hit, p⟩ hlt hne (by simp [hne, Ne.symm hae]) fun u' h' tk hu' ho hst' hT hsz hk => ?_
    have eu : u' = u := by
      have h9 : its.toArray[i]? = some u' := hu'
      rw [List.getElem?_toArray, hu] at h9
      exact (Option.some.inj h9).symm
    subst eu
    refine ⟨_, rfl, wpAny_letOwnedTupleGo_enum (s := { s with heap := h', toks := tk + 1 }) ho fun h'' he' sb => ?_⟩
    have hT2 : h''.get? s.heap.objs.size = some { cls := .type "tuple", data := .seq #[.int i tk, u'] } := (sb.2 _ (Nat.ne_of_gt hel)).trans hT
    have new : ObjOk X.prog X.w (upd H s.heap.objs.size (.tup [.int (i : Nat), x])) h'' s.heap.objs.size (.tup [.int (i : Nat), x]) :=
      ⟨by show 2 ≤ sizeLine; decide, [.int i tk, u'], .cons ⟨_, rfl⟩ (.cons ru .nil), ⟨_, hT2, rfl, _, rfl⟩⟩
    have I1 : Inv X pins σ (upd H s.heap.objs.size (.tup [.int (i : Nat), x])) { s with heap := h'', toks := tk + 1 } :=
      I.turnedNew (ch := [e, it]) (fun b ob hb q => (sb.2 b (fun z => hb (by simp [z]))).trans (hk b ob (fun z => hb (by simp [z])) (fun z => hb (by simp [z])) q)) hf (Nat.le_refl _) new
    refine ⟨.ref s.heap.objs.size, _, I1, rfl, ⟨_, x, rfl, I.hok.fresh (Nat.le_refl _), rfl, fun ys hy => by rw [I.tuple_inj hy hq]; exact hx⟩, ⟨⟨u', ?_⟩, hst'.1.at fun o q => (sb.2 it (Ne.symm hne)).trans q, hne, hai, hae⟩, fun b hb => ?_⟩
    · have e1 : ((i + 1 : Nat) : Int) = (i : Int) + 1 := by omega
      rw [e1]; exact he'
    · have hb' : b < s.heap.objs.size := by
        have e' : b = e ∨ b = it := by simpa using hb
        rcases e' with z | z
        · rw [z]; exact hel
        · rw [z]; exact hil
      rw [upd_ne (Nat.ne_of_lt hb')]
      exact (hf b hb).1
  done := by
    intro X hP hw hK hc i pins s σ H E I hf st hg
    subst hP hw hK
    obtain ⟨⟨old, he⟩, hit, hne, hai, hae⟩ := st
    obtain ⟨xs, hq, hx⟩ := hg
    obtain ⟨its, rv, p, hz⟩ := I.tuple hq
    have p : s.heap.IsTuple a its.toArray := p
    obtain ⟨f0, f1, f2, f3, f4, f5⟩ := hf it (by simp)
    have hl := rv.length
    exact enumT_end (I.ok.hd hc) he hit p (by simp; omega) fun h' eb => ⟨rfl, I.turned (t' := s.toks) (fun b o hb q => eb b o hb q) f0 f1 f3 f4 f5⟩
  self := fun A i s Q E st h => let ⟨⟨_, he⟩, _⟩ := st; wpAny_pyIter_enum he h
def iEnumT (K : PySem.W.Frag) (ta : TA) : TI := fun σ H R => ta σ H fun vs H1 => ∃ a xs, vs = [.ref a] ∧ SqT K H1 a xs ∧ R (IteT K a) H1
theorem pi_enumT {X : Cx} {e : Expr} {ta : TA} {p pos tpos : Pos} {elts : List Expr} {kk : Nat} (hg : Gl X "enumerate") (hm : X.mg "enumerate" = none) (ha : PA X [e] ta) (hs : starEach [e] X.env = [(false, eval e X.env)] := by rfl) :
    PI X (.Tuple elts kk tpos) (.Call (.Name "enumerate" p) [e] [] pos) (iEnumT X.K ta) := by
  refine ⟨fun pins s σ H R I h => ?_⟩
  refine Call_ (ld_blt I hg hm boot_enumerate (PyProof.Rows.callWith_type1 (thn (ha.run pos pins s σ H _ I h) fun us s1 ⟨vs, H1, I1, r1, q1⟩ => ?_) hs rfl))
  obtain ⟨a, xs, ex, hq, q⟩ := q1
  subst ex
  cases r1 with
  | cons r rr =>
    cases rr
    cases r
    obtain ⟨its, rv, p', hz⟩ := I1.tuple hq
    have p' : s1.heap.IsTuple a its.toArray := p'
    have ha : a < s1.heap.objs.size := by obtain ⟨o, ho, _⟩ := p'; exact Heap.lt_size ho
    refine enum1_begins (begins_tuple a its.toArray) p' fun h' he hit hsz hk => wpAny_pyIter_enum he ?_
    have I2 : Inv X pins σ H1 { s1 with heap := h' } := I1.kept (t' := s1.toks) hk
    refine ⟨s1.heap.objs.size + 1, [s1.heap.objs.size + 1, s1.heap.objs.size], _, _, H1, rfl, I2, turn_enumT a (s1.heap.objs.size + 1) s1.heap.objs.size, ⟨⟨.none, he⟩, ⟨_, hit, rfl, rfl⟩, Nat.succ_ne_self _, Nat.ne_of_lt ha, Nat.ne_of_lt (Nat.lt_succ_of_lt ha)⟩, fun b hb => ?_, q⟩
    have e' : b = s1.heap.objs.size + 1 ∨ b = s1.heap.objs.size := by simpa using hb
    have hle : s1.heap.objs.size ≤ b := by
      rcases e' with z | z
      · rw [z]; exact Nat.le_add_right _ _
      · rw [z]; exact Nat.le_refl _
    exact I1.fpOk hle (I1.hok.fresh hle)
section
variable [CTab] {X : Cx} {E : XK} {pos p tpos : Pos} {e : Expr} {m : M D} {K : PySem.W.Frag}
theorem tup_repT {l : List D} {v : V} {H : Hp} {Z : Addr → Prop} (r : Rep K H Z (.tup l) v) : ∃ p vs, v = .ref p ∧ SqT K H p vs ∧ Reps K H Z l vs := by
  simp only [Rep] at r
  obtain ⟨p, vs, e, h1, h2⟩ := r
  exact ⟨p, vs, e, h1.sq, h2⟩
theorem wk_enumT {a : Addr} {l : List D} : WkD K (IteT K a) (enumD 0 l) [(.tup l, .ref a)] := by
  have at_ : ∀ (H : Hp) (Z : Addr → Prop), (∀ q ∈ [(D.tup l, V.ref a)], Rep K H Z q.1 q.2) → ∃ vs, SqT K H a vs ∧ Reps K H Z l vs := fun H Z h => by
    obtain ⟨p, vs, e, h1, h2⟩ := tup_repT (h _ (List.mem_singleton.mpr rfl))
    cases e
    exact ⟨vs, h1, h2⟩
  refine ⟨fun H Z hz h i x hx => ?_, fun H Z h => ?_⟩
  · obtain ⟨vs, h1, h2⟩ := at_ H Z h
    obtain ⟨y, hy, rfl⟩ := enumD_get hx
    obtain ⟨v, hv, rv⟩ := h2.get hy
    refine ⟨⟨vs, v, h1, hv⟩, fun u H' hu => ?_⟩
    obtain ⟨T, x', rfl, hT, rfl, hx'⟩ := hu
    have e := hx' vs h1
    rw [hv] at e
    cases e
    exact ⟨same_upd hT, new_tup hz hT (Reps.cons (by show V.int _ = V.int _; rw [Nat.zero_add]) (Reps.one rv))⟩
  · obtain ⟨vs, h1, h2⟩ := at_ H Z h
    exact ⟨vs, h1, by rw [enumD_len, h2.len]; exact Nat.le_refl _⟩
/-- enumerate of a list or a tuple -/
def mEnumX (m : M D) : M (List D) := fun ρ => bindR (m ρ) fun d ρ => match d.seq with
  | some l => .ok (enumD 0 l) ρ
  | none => .fail
@[simp] theorem ev_mEnumX (m : M D) (ρ : Env) : mEnumX m ρ = (bindR (m ρ) fun d ρ => match d.seq with
  | some l => .ok (enumD 0 l) ρ
  | none => .fail) := rfl
def mEnumT (m : M D) : M (List D) := fun ρ => bindR (m ρ) fun d ρ => match d with
  | .tup l => .ok (enumD 0 l) ρ
  | _ => .fail
theorem i_enumT {elts : List Expr} {kk : Nat} (he : PE X e (tD X.K E m)) (hm : X.mg "enumerate" = none) (hg : Gl X "enumerate" := by rfl) (hs : starEach [e] X.env = [(false, eval e X.env)] := by rfl) (hs' : starEach [e] X.env = (false, eval e X.env) :: starEach [] X.env := by rfl) : PI X (.Tuple elts kk tpos) (.Call (.Name "enumerate" p) [e] [] pos) (iD X.K E (mEnumT m)) := by
  refine (pi_enumT hg hm (pa_cons he pa_nil hs') hs).imp fun σ H R ⟨c, Z, ρ, r, q⟩ => ⟨c, Z, ρ, r, iR.bind q fun d ρ1 v H1 r1 e1 h1 q => ?_⟩
  have h1 : Rep X.K H1 Z d v := h1
  split at q
  · rename_i l
    obtain ⟨a, vs, rfl, g1, g2⟩ := tup_repT h1
    exact ⟨a, vs, rfl, g1, q _ _ H1 r1 Ext.refl (fun q hq => by rw [List.mem_singleton.mp hq]; exact h1) wk_enumT⟩
  · exact q.elim
theorem i_enumX {elts : List Expr} {kk : Nat} (he : PE X e (tD X.K E m)) (hm : X.mg "enumerate" = none) (hg : Gl X "enumerate" := by rfl) (hs : starEach [e] X.env = [(false, eval e X.env)] := by rfl) (hs' : starEach [e] X.env = (false, eval e X.env) :: starEach [] X.env := by rfl) : PI X (.Tuple elts kk tpos) (.Call (.Name "enumerate" p) [e] [] pos) (iD X.K E (mEnumX m)) := by
  refine (pi_or (i_enum he hm hg hs hs') (i_enumT he hm hg hs hs')).imp fun σ H R h => ?_
  obtain ⟨c, Z, ρ, r, q⟩ := h
  unfold mEnumX at q
  cases em : m ρ with
  | fail => rw [em] at q; exact q.elim
  | exc x l ρ1 =>
    rw [em] at q
    refine .inl ⟨c, Z, ρ, r, ?_⟩
    unfold mEnum
    rw [em]
    exact q
  | ok d ρ1 =>
    rw [em, bindR_ok] at q
    by_cases ht : ∃ l, d = .tup l
    · obtain ⟨l, rfl⟩ := ht
      refine .inr ⟨c, Z, ρ, r, ?_⟩
      unfold mEnumT
      rw [em]
      exact q
    · refine .inl ⟨c, Z, ρ, r, ?_⟩
      unfold mEnum
      rw [em, bindR_ok]
      have e1 : d.seq = d.lis := by
        cases d <;> first | rfl | exact absurd ⟨_, rfl⟩ ht
      rw [← e1]
      exact q
end
end DL
set_option Elab.async false
set_option linter.all false
set_option maxRecDepth 100000
set_option maxHeartbeats 4000000
namespace DL
open PySem PySem.Spec PyProof.Rows L2
variable [CTab]
/-! ### how the mirror words run -/
/-- what hangs on a value in its type alone: the simplifier leaves that value as it is -/
def Tied {α : Sort u} (_ : α) : Type := Unit
def tie {α : Sort u} (x : α) : Tied x := ()
def bnd {α β : Type} (k : α → Env → Res β) (_ : Tied k) (r : Res α) : Res β := bindR r k
@[simp ↓] theorem bindR_to {α β : Type} (r : Res α) (k : α → Env → Res β) : bindR r k = bnd k (tie k) r := rfl
@[simp] theorem bnd_ok {α β : Type} (a : α) (e : Env) (k : α → Env → Res β) (t : Tied k) : bnd k t (.ok a e) = k a e := Eq.trans rfl rfl
@[simp] theorem bnd_fail {α β : Type} (k : α → Env → Res β) (t : Tied k) : bnd k t .fail = .fail := rfl
@[simp] theorem bnd_exc {α β : Type} (x : Nat) (l : List D) (ρ : Env) (k : α → Env → Res β) (t : Tied k) : bnd k t (.exc x l ρ) = .exc x l ρ := rfl
def seqR (r : Res Fl) (b : M Fl) : Res Fl := match r with
  | .ok .nx ρ1 => b ρ1
  | r => r
def sqn (b : M Fl) (_ : Tied b) (r : Res Fl) : Res Fl := seqR r b
@[simp ↓] theorem seqR_to (r : Res Fl) (b : M Fl) : seqR r b = sqn b (tie b) r := rfl
@[simp] theorem sqn_nx (ρ : Env) (b : M Fl) (t : Tied b) : sqn b t (.ok .nx ρ) = b ρ := Eq.trans rfl rfl
@[simp] theorem sqn_bk (ρ : Env) (b : M Fl) (t : Tied b) : sqn b t (.ok .bk ρ) = .ok .bk ρ := rfl
@[simp] theorem sqn_ct (ρ : Env) (b : M Fl) (t : Tied b) : sqn b t (.ok .ct ρ) = .ok .ct ρ := rfl
@[simp] theorem sqn_rt (d : D) (ρ : Env) (b : M Fl) (t : Tied b) : sqn b t (.ok (.rt d) ρ) = .ok (.rt d) ρ := rfl
@[simp] theorem sqn_fail (b : M Fl) (t : Tied b) : sqn b t .fail = .fail := rfl
theorem seqR_nx (ρ : Env) (b : M Fl) : seqR (.ok .nx ρ) b = b ρ := rfl
theorem seqR_bk (ρ : Env) (b : M Fl) : seqR (.ok .bk ρ) b = .ok .bk ρ := rfl
theorem seqR_ct (ρ : Env) (b : M Fl) : seqR (.ok .ct ρ) b = .ok .ct ρ := rfl
theorem seqR_rt (d : D) (ρ : Env) (b : M Fl) : seqR (.ok (.rt d) ρ) b = .ok (.rt d) ρ := rfl
theorem seqR_fail (b : M Fl) : seqR .fail b = .fail := rfl
@[simp] theorem ev_mSeq (a b : M Fl) (ρ : Env) : mSeq a b ρ = seqR (a ρ) b := by
  unfold mSeq seqR
  rfl
def finR (x : Bool) (ws : List W) (r : Res Fl) : FR := match r with
  | .ok .nx ρ => finE .non ρ ws
  | .ok (.rt d) ρ => finE d ρ ws
  | .exc c l _ => if x = true then .exc c l else .fail
  | _ => .fail
@[simp] theorem finR_nx (x : Bool) (ws : List W) (ρ : Env) : finR x ws (.ok .nx ρ) = finE .non ρ ws := rfl
@[simp] theorem finR_rt (x : Bool) (ws : List W) (d : D) (ρ : Env) : finR x ws (.ok (.rt d) ρ) = finE d ρ ws := rfl
theorem ev_runF (n : Nat) (x : Bool) (m : M Fl) (ws : List W) : runF n x m ws = finR x ws (m (startE n ws)) := by
  unfold runF finR
  rfl
def backR (r : FR) (o : Option Nat) (ρ : Env) : Res D := match r with
  | .fail => .fail
  | .ok d ts => (match putBack ρ o ts with
    | some ρ' => .ok d ρ'
    | none => .fail)
  | .exc c l => match o with
    | none => .exc c l ρ
    | some _ => .fail
def callR (q : Option (List W × Option Nat)) (f : FD) (ρ : Env) : Res D := match q with
  | none => .fail
  | some (ws, o) => backR (f ws) o ρ
@[simp] theorem callR_some (ws : List W) (o : Option Nat) (f : FD) (ρ : Env) : callR (some (ws, o)) f ρ = backR (f ws) o ρ := Eq.trans rfl rfl
@[simp] theorem backR_ok0 (d : D) (ρ : Env) : backR (.ok d []) none ρ = .ok d ρ := Eq.trans rfl rfl
@[simp] theorem backR_ok1 (d : D) (t : Ct) (i : Nat) (ρ : Env) : backR (.ok d [t]) (some i) ρ = (match ρ[i]? with
    | some (some w) => .ok d (ρ.set i (some (w.put t)))
    | _ => .fail) := by
  show (match putBack ρ (some i) [t] with
    | some ρ' => Res.ok d ρ'
    | none => .fail) = _
  unfold putBack
  cases h : ρ[i]? with
  | none => simp only [h]
  | some x => cases x <;> simp only [h]
@[simp] theorem ev_mCall (f : FD) (ms : M (List Ar)) (ρ : Env) : mCall f ms ρ = bindR (ms ρ) fun as ρ => callR (toWs ρ as) f ρ := by
  unfold mCall
  congr 1
def optR (o : Option Env) : Res Fl := match o with
  | some ρ' => .ok .nx ρ'
  | none => .fail
@[simp] theorem optR_some (ρ : Env) : optR (some ρ) = .ok .nx ρ := rfl
@[simp] theorem ev_mAsg (g : MT) (m : M D) (ρ : Env) : mAsg g m ρ = bindR (m ρ) fun d ρ => optR (g d ρ) := by
  unfold mAsg optR
  rfl
@[simp] theorem ev_mVar (i : Nat) (ρ : Env) : mVar i ρ = (match ρ[i]? with
  | some (some (.val d)) => .ok d ρ
  | _ => .fail) := rfl
@[simp] theorem ev_mC (d : D) (ρ : Env) : mC d ρ = (.ok d ρ) := rfl
@[simp] theorem ev_m1 (f : D → Option D) (ma : M D) (ρ : Env) : m1 f ma ρ = (bindR (ma ρ) fun a ρ => liftO (f a) ρ) := rfl
@[simp] theorem ev_m2 (f : D → D → Option D) (ma mb : M D) (ρ : Env) : m2 f ma mb ρ = (bindR (ma ρ) fun a ρ => bindR (mb ρ) fun b ρ => liftO (f a b) ρ) := rfl
@[simp] theorem ev_mSl (ma : M D) (ml mh : Option (M D)) (ρ : Env) : mSl ma ml mh ρ = (bindR (ma ρ) fun a ρ => bindR (mOpt ml ρ) fun lo ρ => bindR (mOpt mh ρ) fun hi ρ => liftO (dCut a lo hi) ρ) := rfl
@[simp] theorem ev_mTest (m : M D) (ρ : Env) : mTest m ρ = (bindR (m ρ) fun d ρ => match d with
  | .bl b => .ok b ρ
  | _ => .fail) := rfl
@[simp] theorem ev_mChain (f g : D → D → Option D) (ma mb mc : M D) (ρ : Env) : mChain f g ma mb mc ρ = (bindR (ma ρ) fun a ρ => bindR (mb ρ) fun b ρ => match f a b with
  | some (.bl true) => bindR (mc ρ) fun c ρ => liftO (g b c) ρ
  | some (.bl false) => .ok (.bl false) ρ
  | _ => .fail) := rfl
@[simp] theorem ev_mTru (m : M D) (ρ : Env) : mTru m ρ = (bindR (m ρ) fun d ρ => liftO (dTru d) ρ) := rfl
@[simp] theorem ev_mAndT (ta tb : M Bool) (ρ : Env) : mAndT ta tb ρ = (bindR (ta ρ) fun k ρ => if k = true then tb ρ else .ok false ρ) := rfl
@[simp] theorem ev_mOrT (ta tb : M Bool) (ρ : Env) : mOrT ta tb ρ = (bindR (ta ρ) fun k ρ => if k = true then .ok true ρ else tb ρ) := rfl
@[simp] theorem ev_mNotT (ta : M Bool) (ρ : Env) : mNotT ta ρ = (bindR (ta ρ) fun k ρ => .ok (!k) ρ) := rfl
@[simp] theorem ev_mAndV (ma mb : M D) (ρ : Env) : mAndV ma mb ρ = (bindR (ma ρ) fun d ρ => match d with
  | .bl true => mb ρ
  | .bl false => .ok (.bl false) ρ
  | _ => .fail) := rfl
@[simp] theorem ev_mOrV (ma mb : M D) (ρ : Env) : mOrV ma mb ρ = (bindR (ma ρ) fun d ρ => match d with
  | .bl false => mb ρ
  | .bl true => .ok (.bl true) ρ
  | _ => .fail) := rfl
@[simp] theorem ev_mNotV (ma : M D) (ρ : Env) : mNotV ma ρ = (bindR (ma ρ) fun d ρ => match dTru d with
  | some k => .ok (.bl (!k)) ρ
  | none => .fail) := rfl
@[simp] theorem ev_mIfE (t : M Bool) (ma mb : M D) (ρ : Env) : mIfE t ma mb ρ = (bindR (t ρ) fun k ρ => if k = true then ma ρ else mb ρ) := rfl
@[simp] theorem ev_mNil (ρ : Env) : mNil  ρ = (.ok [] ρ) := rfl
@[simp] theorem ev_mCons (m : M D) (ms : M (List D)) (ρ : Env) : mCons m ms ρ = (bindR (m ρ) fun d ρ => bindR (ms ρ) fun l ρ => .ok (d :: l) ρ) := rfl
@[simp] theorem ev_mStar (m : M D) (ms : M (List D)) (ρ : Env) : mStar m ms ρ = (bindR (m ρ) fun d ρ => match d.seq with
  | some l => bindR (ms ρ) fun r ρ => .ok (l ++ r) ρ
  | none => .fail) := rfl
@[simp] theorem ev_mLst (ms : M (List D)) (ρ : Env) : mLst ms ρ = (bindR (ms ρ) fun l ρ => if l.length ≤ sizeLine then .ok (.lst l) ρ else .fail) := rfl
@[simp] theorem ev_mTup (ms : M (List D)) (ρ : Env) : mTup ms ρ = (bindR (ms ρ) fun l ρ => if l.length ≤ sizeLine then .ok (.tup l) ρ else .fail) := rfl
@[simp] theorem ev_mCa (f : List D → Option D) (ms : M (List D)) (ρ : Env) : mCa f ms ρ = (bindR (ms ρ) fun l ρ => liftO (f l) ρ) := rfl
@[simp] theorem ev_mANil (ρ : Env) : mANil  ρ = (.ok [] ρ) := rfl
@[simp] theorem ev_mACons (m : M D) (ms : M (List Ar)) (ρ : Env) : mACons m ms ρ = (bindR (m ρ) fun d ρ => bindR (ms ρ) fun l ρ => .ok (.d d :: l) ρ) := rfl
@[simp] theorem ev_mASlot (i : Nat) (ms : M (List Ar)) (ρ : Env) : mASlot i ms ρ = (match holds ρ i with
  | some _ => bindR (ms ρ) fun l ρ => .ok (.s i :: l) ρ
  | none => .fail) := rfl
@[simp] theorem ev_mGet1 (ma mb : M D) (ρ : Env) : mGet1 ma mb ρ = (bindR (ma ρ) fun x ρ => if isDct x = true then bindR (mb ρ) fun y ρ => liftO (dGet1 x y) ρ else .fail) := rfl
@[simp] theorem ev_mGet2 (ma mb mc : M D) (ρ : Env) : mGet2 ma mb mc ρ = (bindR (ma ρ) fun x ρ => if isDct x = true then bindR (mb ρ) fun y ρ => bindR (mc ρ) fun z ρ => liftO (dGet2 x y z) ρ else .fail) := rfl
@[simp] theorem ev_mIndexOf (f : D → D → Option D) (ma mb : M D) (ρ : Env) : mIndexOf f ma mb ρ = (bindR (ma ρ) fun x ρ => if x.lis.isSome = true then bindR (mb ρ) fun y ρ => liftO (f x y) ρ else .fail) := rfl
@[simp] theorem ev_mNew (c : Nat) (g : FD) (ms : M (List Ar)) (ρ : Env) : mNew c g ms ρ = (bindR (ms ρ) fun as ρ => match toWs ρ as with
  | some (ws, none) => (match g (.inn (.ob c []) :: ws) with
    | .ok .non [.ob c' l] => if c' = c then .ok (.ob c l) ρ else .fail
    | .exc x l => .exc x l ρ
    | _ => .fail)
  | _ => .fail) := rfl
@[simp] theorem ev_mSkip (ρ : Env) : mSkip  ρ = (.ok .nx ρ) := rfl
@[simp] theorem ev_mBreak (ρ : Env) : mBreak  ρ = (.ok .bk ρ) := rfl
@[simp] theorem ev_mCont (ρ : Env) : mCont  ρ = (.ok .ct ρ) := rfl
@[simp] theorem ev_mSet (i : Nat) (m : M D) (ρ : Env) : mSet i m ρ = (bindR (m ρ) fun d ρ => .ok .nx (ρ.set i (some (.val d)))) := rfl
@[simp] theorem ev_mRet (m : M D) (ρ : Env) : mRet m ρ = (bindR (m ρ) fun d ρ => .ok (.rt d) ρ) := rfl
@[simp] theorem ev_mRetN (ρ : Env) : mRetN  ρ = (.ok (.rt .non) ρ) := rfl
@[simp] theorem ev_mDo (m : M D) (ρ : Env) : mDo m ρ = (bindR (m ρ) fun _ ρ => .ok .nx ρ) := rfl
@[simp] theorem ev_mIf (t : M Bool) (a b : M Fl) (ρ : Env) : mIf t a b ρ = (bindR (t ρ) fun k ρ => if k = true then a ρ else b ρ) := rfl
@[simp] theorem ev_mFrz (i : Nat) (m : M Fl) (ρ : Env) : mFrz i m ρ = (match ρ[i]? with
  | some (some (.own t)) => m (ρ.set i (some (.val t.toD)))
  | _ => .fail) := rfl
@[simp] theorem ev_mDrop (i : Nat) (m : M Fl) (ρ : Env) : mDrop i m ρ = (m (ρ.set i none)) := rfl
@[simp] theorem ev_oLst (ms : M (List D)) (ρ : Env) : oLst ms ρ = (bindR (ms ρ) fun l ρ => if l.length ≤ sizeLine then .ok (.lst l) ρ else .fail) := rfl
@[simp] theorem ev_oDct (ρ : Env) : oDct  ρ = (.ok (.dct [] []) ρ) := rfl
@[simp] theorem ev_mSetO (i : Nat) (m : M Ct) (ρ : Env) : mSetO i m ρ = (bindR (m ρ) fun t ρ => .ok .nx (ρ.set i (some (.own t)))) := rfl
@[simp] theorem ev_mMut (i : Nat) (f : Ct → D → Option Ct) (m : M D) (ρ : Env) : mMut i f m ρ = (bindR (m ρ) fun d ρ => match ρ[i]? with
  | some (some w) => (match holds ρ i with
    | some t => (match f t d with
      | some t' => .ok .nx (ρ.set i (some (w.put t')))
      | none => .fail)
    | none => .fail)
  | _ => .fail) := rfl
@[simp] theorem ev_mApp (i : Nat) (m : M D) (ρ : Env) : mApp i m ρ = (match holds ρ i with
  | some (.lst _) => mMut i cApp m ρ
  | _ => .fail) := rfl
@[simp] theorem ev_mExt (i : Nat) (m : M D) (ρ : Env) : mExt i m ρ = (match holds ρ i with
  | some (.lst _) => mMut i cExt m ρ
  | _ => .fail) := rfl
@[simp] theorem ev_mAug (i : Nat) (f : D → D → Option D) (m : M D) (ρ : Env) : mAug i f m ρ = (match ρ[i]? with
  | some (some (.val a)) => bindR (m ρ) fun b ρ => (match f a b with
    | some d => .ok .nx (ρ.set i (some (.val d)))
    | none => .fail)
  | _ => .fail) := rfl
@[simp] theorem ev_mTN (i : Nat) (d : D) (ρ : Env) : mTN i d ρ = (some (ρ.set i (some (.val d)))) := rfl
@[simp] theorem ev_mTNil (l : List D) (ρ : Env) : mTNil  l ρ = (match l with
  | [] => some ρ
  | _ => none) := rfl
@[simp] theorem ev_mTCons (g : MT) (gs : MTs) (l : List D) (ρ : Env) : mTCons g gs l ρ = (match l with
  | d :: r => (g d ρ).bind (gs r)
  | _ => none) := rfl
@[simp] theorem ev_mTT (gs : MTs) (d : D) (ρ : Env) : mTT gs d ρ = (match d with
  | .tup l => gs l ρ
  | _ => none) := rfl
@[simp] theorem ev_mPar (i j : Nat) (ms : M (List D)) (ρ : Env) : mPar i j ms ρ = (bindR (ms ρ) fun l ρ => match l with
  | [a, b] => .ok .nx ((ρ.set i (some (.val a))).set j (some (.val b)))
  | _ => .fail) := rfl
@[simp] theorem ev_mItL (m : M D) (ρ : Env) : mItL m ρ = (bindR (m ρ) fun d ρ => liftO d.lis ρ) := rfl
@[simp] theorem ev_mItT (m : M D) (ρ : Env) : mItT m ρ = (bindR (m ρ) fun d ρ => match d with
  | .tup l => .ok l ρ
  | _ => .fail) := rfl
@[simp] theorem ev_mItLT (m : M D) (ρ : Env) : mItLT m ρ = (bindR (m ρ) fun d ρ => liftO d.seq ρ) := rfl
@[simp] theorem ev_mRng1 (m : M D) (ρ : Env) : mRng1 m ρ = (bindR (m ρ) fun d ρ => match d with
  | .int j => if lim62 j = true then .ok (rngD 0 j.toNat) ρ else .fail
  | _ => .fail) := rfl
@[simp] theorem ev_mRng2 (m m' : M D) (ρ : Env) : mRng2 m m' ρ = (bindR (m ρ) fun d ρ => bindR (m' ρ) fun e ρ => match d, e with
  | .int i, .int j => if (lim62 i && lim62 j) = true then .ok (rngD i (j - i).toNat) ρ else .fail
  | _, _ => .fail) := rfl
@[simp] theorem ev_mEnum (m : M D) (ρ : Env) : mEnum m ρ = (bindR (m ρ) fun d ρ => match d.lis with
  | some l => .ok (enumD 0 l) ρ
  | none => .fail) := rfl
@[simp] theorem ev_mZip (m m' : M D) (ρ : Env) : mZip m m' ρ = (bindR (m ρ) fun d ρ => bindR (m' ρ) fun e ρ => match d, e with
  | .tup l, .tup r => .ok (zipD l r) ρ
  | _, _ => (match d.lis, e.lis with
    | some l, some r => .ok (zipD l r) ρ
    | _, _ => .fail)) := rfl
@[simp] theorem ev_mTrue (ρ : Env) : mTrue  ρ = (.ok true ρ) := rfl
@[simp] theorem ev_mLcD (m : M (List D)) (ρ : Env) : mLcD m ρ = (bindR (m ρ) fun l ρ => .ok (.lst l) ρ) := rfl
@[simp] theorem ev_oLc (m : M (List D)) (ρ : Env) : oLc m ρ = (bindR (m ρ) fun l ρ => .ok (.lst l) ρ) := rfl
@[simp] theorem ev_mTruO (bs : List (Nat × FD)) (m : M D) (ρ : Env) : mTruO bs m ρ = (bindR (m ρ) fun d ρ => liftO (obTru bs d) ρ) := rfl
@[simp] theorem ev_mDisp (ms : List (M D × M D)) (ρ : Env) : mDisp ms ρ = (bindR (mPairs ms ρ) fun ps ρ => match mergeD [] [] ps with
  | some (ks, l) => if ps.length ≤ 15 then .ok (.dct ks l) ρ else .fail
  | none => .fail) := rfl
@[simp] theorem ev_mItS (m : M D) (ρ : Env) : mItS m ρ = (bindR (m ρ) fun d ρ => match d with
  | .str x => .ok (signs x) ρ
  | _ => .fail) := rfl
@[simp] theorem ev_mParDO (i j : Nat) (m : M D) (mo : M Ct) (ρ : Env) : mParDO i j m mo ρ = (bindR (m ρ) fun d ρ => bindR (mo ρ) fun t ρ => .ok .nx ((ρ.set i (some (.val d))).set j (some (.own t)))) := rfl
@[simp] theorem ev_mOwnIx (i : Nat) (m : M D) (ρ : Env) : mOwnIx i m ρ = (match holds ρ i with
  | some (.lst _) => bindR (m ρ) fun k ρ => match k, holds ρ i with
    | .int j, some (.lst l) => liftO (L2.atI l j) ρ
    | _, _ => .fail
  | _ => .fail) := rfl
@[simp] theorem ev_mMutNow (i : Nat) (f : Ct → D → Option Ct) (d : D) (ρ : Env) : mMutNow i f d ρ = (match ρ[i]? with
  | some (some w) => (match holds ρ i with
    | some t => (match f t d with
      | some t' => .ok .nx (ρ.set i (some (w.put t')))
      | none => .fail)
    | none => .fail)
  | _ => .fail) := rfl
@[simp] theorem ev_mAugIx (i : Nat) (mi : M D) (f : D → D → Option D) (m : M D) (ρ : Env) : mAugIx i mi f m ρ = (match holds ρ i with
  | some (.lst _) => bindR (mi ρ) fun k ρ => (match k, holds ρ i with
    | .int j, some (.lst l) => if 0 ≤ j ∧ j < 2 ^ 63 then (match L2.atI l j with
      | some d0 => bindR (m ρ) fun d ρ => (match f d0 d with
        | some d' => mMutNow i (cSetAt j) d' ρ
        | none => .fail)
      | none => .fail) else .fail
    | _, _ => .fail)
  | _ => .fail) := rfl
@[simp] theorem ev_mSetIx (i : Nat) (mi m : M D) (ρ : Env) : mSetIx i mi m ρ = (bindR (m ρ) fun d ρ => (match holds ρ i with
  | some (.lst _) => bindR (mi ρ) fun k ρ => (match k, holds ρ i with
    | .int j, some (.lst _) => mMutNow i (cSetAt j) d ρ
    | _, _ => .fail)
  | _ => .fail)) := rfl
@[simp] theorem ev_mOpt_none (ρ : Env) : mOpt none ρ = .ok none ρ := rfl
@[simp] theorem ev_mOpt_some (m : M D) (ρ : Env) : mOpt (some m) ρ = bindR (m ρ) fun d ρ => match d with
  | .int i => .ok (some i) ρ
  | _ => .fail := rfl
@[simp] theorem ev_mFor (mi : M (List D)) (g : MT) (b : M Fl) (ρ : Env) : mFor mi g b ρ = bindR (mi ρ) fun ds ρ => forGo g b ds ρ := rfl
@[simp] theorem ev_mComp (vs : List Nat) (mi : M (List D)) (g : MT) (t : M Bool) (m : M D) (ρ : Env) : mComp vs mi g t m ρ = bindR (mi ρ) fun ds ρ => if (vs.all (notOwn ρ) && decide (ds.length ≤ sizeLine)) = true then lcs (lcIt vs g t m) ds ρ else .fail := rfl
@[simp] theorem ev_mWhile (n : Nat) (t : M Bool) (b : M Fl) (ρ : Env) : mWhile n t b ρ = whileGo t b n ρ := rfl
@[simp] theorem ev_mIs (f : D → Option Bool) (m : M D) (ρ : Env) : mIs f m ρ = bindR (m ρ) fun d ρ => liftO ((f d).map .bl) ρ := rfl
@[simp] theorem ev_mFld (i c j : Nat) (m : M D) (ρ : Env) : mFld i c j m ρ = mMut i (cFld c j) m ρ := rfl
@[simp] theorem ev_mIndex (ma mb : M D) (ρ : Env) : mIndexOf dIndex ma mb ρ = bindR (ma ρ) fun x ρ => if x.lis.isSome = true then bindR (mb ρ) fun y ρ => liftO (dIndex x y) ρ else .fail := rfl
@[simp] theorem ev_mPairs_nil (ρ : Env) : mPairs [] ρ = .ok [] ρ := rfl
@[simp] theorem ev_mPairs_cons (mk mv : M D) (r : List (M D × M D)) (ρ : Env) : mPairs ((mk, mv) :: r) ρ = bindR (mk ρ) fun x ρ => bindR (mv ρ) fun y ρ => bindR (mPairs r ρ) fun l ρ => .ok ((x, y) :: l) ρ := rfl
end DL
set_option Elab.async false
set_option linter.all false
set_option maxRecDepth 100000
set_option maxHeartbeats 4000000
namespace DL
open PySem PySem.Spec PyProof.Rows L2
variable [CTab]
/-! ### values told as data, and their equality -/
/-- a way of telling values of a type as data -/
structure Enc (α : Type) where
  d : α → D
  p : α → PyData
  ok : α → Prop
  dep : Nat
  py : ∀ a, toPy (d a) = some (p a)
  lay : ∀ a, ok a → (p a).canLay0 = true
  depth : ∀ a, (p a).depth ≤ dep
  eqv : ∀ a b, PyData.eqv (p a) (p b) = true ↔ a = b
def eInt : Enc Int := ⟨.int, .int, fun _ => True, 0, fun _ => rfl, fun _ _ => rfl, fun _ => Nat.le_refl _, fun a b => by simp [PyData.eqv]⟩
def eStr : Enc Str := ⟨.str, .str, fun x => PyData.strOk x = true, 0, fun _ => rfl, fun _ h => h, fun _ => Nat.le_refl _, fun a b => by simp [PyData.eqv]⟩
section
variable {α β : Type} (e : Enc α) (e' : Enc β)
theorem Enc.pys : ∀ l : List α, toPys (l.map e.d) = some (l.map e.p)
  | [] => rfl
  | a :: l => by simp [toPys, e.py, Enc.pys l]
theorem Enc.lays : ∀ l : List α, (∀ a ∈ l, e.ok a) → PyData.canLayAll0 (l.map e.p) = true
  | [], _ => rfl
  | a :: l, h => by simp [PyData.canLayAll0, e.lay a (h a (by simp)), Enc.lays l fun b hb => h b (by simp [hb])]
theorem Enc.deps : ∀ l : List α, PyData.depthAll (l.map e.p) ≤ e.dep
  | [] => Nat.zero_le _
  | a :: l => by
    simp only [List.map_cons, PyData.depthAll]
    exact Nat.max_le.mpr ⟨e.depth a, Enc.deps l⟩
theorem Enc.eqvs : ∀ l r : List α, PyData.eqvAll (l.map e.p) (r.map e.p) = true ↔ l = r
  | [], [] => by simp [PyData.eqvAll]
  | [], _ :: _ => by simp [PyData.eqvAll]
  | _ :: _, [] => by simp [PyData.eqvAll]
  | a :: l, b :: r => by simp [PyData.eqvAll, e.eqv, Enc.eqvs l r]
def eLst : Enc (List α) := ⟨fun l => .lst (l.map e.d), fun l => .list (l.map e.p), fun l => ∀ a ∈ l, e.ok a, e.dep + 1, fun l => by simp [toPy, e.pys], fun l h => by simpa [PyData.canLay0] using e.lays l h, fun l => by
  show PyData.depthAll _ + 1 ≤ _
  exact Nat.succ_le_succ (e.deps l), fun a b => by simpa [PyData.eqv] using e.eqvs a b⟩
def eTup : Enc (List α) := ⟨fun l => .tup (l.map e.d), fun l => .tuple (l.map e.p), fun l => ∀ a ∈ l, e.ok a, e.dep + 1, fun l => by simp [toPy, e.pys], fun l h => by simpa [PyData.canLay0] using e.lays l h, fun l => by
  show PyData.depthAll _ + 1 ≤ _
  exact Nat.succ_le_succ (e.deps l), fun a b => by simpa [PyData.eqv] using e.eqvs a b⟩
def ePr : Enc (α × β) := ⟨fun q => .tup [e.d q.1, e'.d q.2], fun q => .tuple [e.p q.1, e'.p q.2], fun q => e.ok q.1 ∧ e'.ok q.2, max e.dep e'.dep + 1, fun q => by simp [toPy, toPys, e.py, e'.py], fun q h => by simp [PyData.canLay0, PyData.canLayAll0, e.lay _ h.1, e'.lay _ h.2], fun q => by
  show PyData.depthAll _ + 1 ≤ _
  simp only [PyData.depthAll]
  have h1 := e.depth q.1
  have h2 := e'.depth q.2
  omega, fun a b => by simp [PyData.eqv, PyData.eqvAll, e.eqv, e'.eqv, Prod.ext_iff]⟩
theorem Enc.shaped {a : α} (h : e.ok a) (hd : e.dep ≤ 64) : SeqAt.shaped (e.p a) = true := by
  unfold SeqAt.shaped
  rw [e.lay a h]
  exact decide_eq_true (Nat.le_trans (e.depth a) hd)
theorem Enc.eqDeep [DecidableEq α] {a b : α} (ha : e.ok a) (hb : e.ok b) (hd : e.dep ≤ 64) : DL.eqDeep (e.d a) (e.d b) = some (decide (a = b)) := by
  unfold DL.eqDeep
  rw [e.py, e.py]
  simp only [e.shaped ha hd, e.shaped hb hd, Bool.and_self, if_true]
  have h := e.eqv a b
  by_cases q : a = b
  · rw [h.mpr q]; simp [q]
  · have : PyData.eqv (e.p a) (e.p b) = false := Bool.eq_false_iff.mpr fun z => q (h.mp z)
    rw [this]; simp [q]
end
section
variable {α β : Type} (e : Enc α) (e' : Enc β)
theorem eq_lst [DecidableEq α] {l r : List α} (ha : ∀ a ∈ l, e.ok a) (hb : ∀ a ∈ r, e.ok a) (hd : e.dep ≤ 63) : eqB (.lst (l.map e.d)) (.lst (r.map e.d)) = some (decide (l = r)) :=
  (eLst e).eqDeep (a := l) (b := r) ha hb (Nat.succ_le_succ hd)
theorem eq_tup [DecidableEq α] {l r : List α} (ha : ∀ a ∈ l, e.ok a) (hb : ∀ a ∈ r, e.ok a) (hd : e.dep ≤ 63) : eqB (.tup (l.map e.d)) (.tup (r.map e.d)) = some (decide (l = r)) :=
  (eTup e).eqDeep (a := l) (b := r) ha hb (Nat.succ_le_succ hd)
end
@[simp] theorem eq_int (a b : Int) : eqB (.int a) (.int b) = some (decide (a = b)) := by
  simp [eqB, D.sc, scal]
@[simp] theorem eq_str (a b : Str) : eqB (.str a) (.str b) = some (decide (a = b)) := by
  simp [eqB, D.sc, scal]
@[simp] theorem eq_bl (a b : Bool) : eqB (.bl a) (.bl b) = some (decide (a = b)) := by
  simp [eqB, D.sc, scal]
/-! ### in -/
theorem scs_strs : ∀ l : List Str, scs (l.map D.str) = some (l.map V.str)
  | [] => rfl
  | a :: l => by simp [scs, D.sc, scs_strs l]
theorem scs_ints : ∀ l : List Int, scs (l.map D.int) = some (l.map V.int)
  | [] => rfl
  | a :: l => by simp [scs, D.sc, scs_ints l]
theorem inV_strs (x : Str) (l : List Str) : inV (.str x) (l.map V.str) = decide (x ∈ l) := by
  induction l with
  | nil => simp [inV]
  | cons a l ih =>
    unfold inV at ih ⊢
    rw [List.map_cons, List.any_cons, ih]
    simp only [eqV]
    by_cases h : a = x
    · subst h; simp
    · have h2 : ¬ x = a := fun z => h z.symm
      have h3 : (a == x) = false := by simpa using h
      simp [h2, h3]
@[simp] theorem in_strs (x : Str) (l : List Str) : dIn (.str x) (.lst (l.map D.str)) = some (.bl (decide (x ∈ l))) := by
  simp [dIn, inB, D.seq, D.sc, scs_strs, inV_strs]
@[simp] theorem in_strsT (x : Str) (l : List Str) : dIn (.str x) (.tup (l.map D.str)) = some (.bl (decide (x ∈ l))) := by
  simp [dIn, inB, D.seq, D.sc, scs_strs, inV_strs]
@[simp] theorem nin_strs (x : Str) (l : List Str) : dNotIn (.str x) (.lst (l.map D.str)) = some (.bl (!decide (x ∈ l))) := by
  simp [dNotIn, inB, D.seq, D.sc, scs_strs, inV_strs]
@[simp] theorem nin_strsT (x : Str) (l : List Str) : dNotIn (.str x) (.tup (l.map D.str)) = some (.bl (!decide (x ∈ l))) := by
  simp [dNotIn, inB, D.seq, D.sc, scs_strs, inV_strs]
/-! ### index -/
theorem idxV_strs (x : Str) : ∀ l : List Str, idxV (.str x) (l.map V.str) = if x ∈ l then some (l.idxOf x) else none
  | [] => rfl
  | a :: l => by
    simp only [List.map_cons, idxV, idxV_strs x l, eqV]
    by_cases h : a = x
    · subst h; simp
    · have h2 : ¬ x = a := fun z => h z.symm
      have h3 : (a == x) = false := by simpa using h
      rw [List.idxOf_cons]
      by_cases hm : x ∈ l <;> simp [h2, h3, hm]
theorem index_strs {x : Str} {l : List Str} (h : x ∈ l) : dIndex (.lst (l.map D.str)) (.str x) = some (.int (l.idxOf x : Nat)) := by
  simp [dIndex, D.lis, D.sc, scs_strs, idxV_strs, h]
/-! ### comprehensions -/
theorem lcs_all {f : D → Env → Res (Option D)} {ρ : Env} (F : D → Option D) : ∀ ds : List D, (∀ d ∈ ds, f d ρ = .ok (F d) ρ) → lcs f ds ρ = .ok (ds.filterMap F) ρ
  | [], _ => rfl
  | d :: ds, h => by
    unfold lcs
    rw [h d (by simp)]
    simp only [lcs_all F ds fun x hx => h x (by simp [hx])]
    cases e : F d <;> simp [e]
/-- over told values: those that pass, each as told by m -/
theorem lcs_enc {α β : Type} {f : D → Env → Res (Option D)} {ρ : Env} (e : α → D) (o : β → D) (F : α → Option β) (l : List α) (h : ∀ a ∈ l, f (e a) ρ = .ok ((F a).map o) ρ) : lcs f (l.map e) ρ = .ok ((l.filterMap F).map o) ρ := by
  induction l with
  | nil => rfl
  | cons a l ih =>
    rw [List.map_cons]
    unfold lcs
    rw [h a (by simp)]
    simp only [ih fun x hx => h x (by simp [hx])]
    cases e : F a <;> simp [e]
theorem dBls_map : ∀ l : List Bool, dBls (l.map D.bl) = some l
  | [] => rfl
  | a :: l => by simp [dBls, dBls_map l]
theorem dStrs_map : ∀ l : List Str, dStrs (l.map D.str) = some l
  | [] => rfl
  | a :: l => by simp [dStrs, dStrs_map l]
@[simp] theorem all_map (l : List Bool) : fAll [.lst (l.map D.bl)] = some (.bl (l.all id)) := by simp [fAll, D.lis, dBls_map]
@[simp] theorem any_map (l : List Bool) : fAny [.lst (l.map D.bl)] = some (.bl (l.any id)) := by simp [fAny, D.lis, dBls_map]
theorem cutD_map {α : Type} (e : α → D) (l : List α) (lo hi : Option Int) : cutD (l.map e) lo hi = ((l.drop (HT.sIx l.length 0 lo)).take (HT.sIx l.length l.length hi - HT.sIx l.length 0 lo)).map e := by
  unfold cutD
  simp [List.map_drop, List.map_take]
theorem enumD_map {α : Type} (e : α → D) : ∀ (l : List α) (k : Nat), enumD k (l.map e) = (l.zipIdx k).map fun q => .tup [.int (q.2 : Nat), e q.1]
  | [], _ => rfl
  | a :: l, k => by simp [enumD, enumD_map e l (k + 1)]
theorem zipD_map {α β : Type} (e : α → D) (f : β → D) : ∀ (l : List α) (r : List β), zipD (l.map e) (r.map f) = (l.zip r).map fun q => .tup [e q.1, f q.2]
  | [], r => by cases r <;> simp [zipD]
  | a :: l, [] => by simp [zipD]
  | a :: l, b :: r => by simp [zipD, zipD_map e f l r]
theorem atI_map {α : Type} (f : α → D) (ns : List α) (i : Int) : L2.atI (ns.map f) i = (L2.atI ns i).map f := by
  unfold L2.atI
  rw [List.length_map]
  cases ixN ns.length i <;> simp
end DL
set_option Elab.async false
set_option linter.all false
set_option maxRecDepth 100000
set_option maxHeartbeats 4000000
namespace DL
open PySem PySem.Spec PyProof.Rows L2
variable [CTab]
/-! ### how the later mirror words run -/
@[simp] theorem ev_mComp2 (vs : List Nat) (mi : M (List D)) (g : MT) (t : M Bool) (vs1 : List Nat) (mi1 : M (List D)) (g1 : MT) (t1 : M Bool) (m : M D) (ρ : Env) : mComp2 vs mi g t vs1 mi1 g1 t1 m ρ = bindR (mi ρ) fun ds ρ => if vs.all (notOwn ρ) = true then (match lcs2 (lcIt2 vs g t vs1 mi1 g1 t1 m) ds ρ with
    | .ok l ρ' => if l.length ≤ sizeLine then .ok l ρ' else .fail
    | _ => .fail) else .fail := rfl
@[simp] theorem ev_mPlain (c : Nat) (ρ : Env) : mPlain c ρ = .ok (.ob c []) ρ := rfl
@[simp] theorem ev_mAsgX (gs : MTs) (m : M D) (ρ : Env) : mAsgX gs m ρ = bindR (m ρ) fun d ρ => match d with
  | .tup l => optR (gs l ρ)
  | _ => .fail := by
  unfold mAsgX optR
  rfl
@[simp] theorem ev_mXN (i : Nat) (gs : MTs) (d : D) (l : List D) (ρ : Env) : mXN i gs (d :: l) ρ = gs l (ρ.set i (some (.val d))) := rfl
@[simp] theorem ev_mXI (i : Nat) (mi : M D) (gs : MTs) (d : D) (l : List D) (ρ : Env) : mXI i mi gs (d :: l) ρ = (match holds ρ i with
    | some (.lst _) => (match mi ρ with
      | .ok (.int j) ρ1 => (match mMutNow i (cSetAt j) d ρ1 with
        | .ok .nx ρ2 => gs l ρ2
        | _ => none)
      | _ => none)
    | _ => none) := rfl
@[simp] theorem ev_mXF (i c j : Nat) (gs : MTs) (d : D) (l : List D) (ρ : Env) : mXF i c j gs (d :: l) ρ = (match mMutNow i (cFld c j) d ρ with
    | .ok .nx ρ1 => gs l ρ1
    | _ => none) := rfl
@[simp] theorem ev_mLstRng1 (m : M D) (ρ : Env) : mLstRng1 m ρ = bindR (m ρ) fun d ρ => match d with
  | .int j => if lim4 j = true then .ok (.lst (rngD 0 j.toNat)) ρ else .fail
  | _ => .fail := rfl
@[simp] theorem ev_mLstRng2 (m m' : M D) (ρ : Env) : mLstRng2 m m' ρ = bindR (m ρ) fun d ρ => bindR (m' ρ) fun d' ρ => match d, d' with
  | .int i, .int j => if (lim4 i && lim4 j) = true then .ok (.lst (rngD i (j - i).toNat)) ρ else .fail
  | _, _ => .fail := rfl
/-! ### statements one behind another -/
theorem seq_nx {a b : M Fl} {ρ ρ1 : Env} {r : Res Fl} (h : a ρ = .ok .nx ρ1) (k : b ρ1 = r) : mSeq a b ρ = r := by
  rw [ev_mSeq, h]
  exact k
theorem seq_to {a b : M Fl} {ρ : Env} {P : Res Fl → Prop} (h : ∃ ρ1, a ρ = .ok .nx ρ1 ∧ P (b ρ1)) : P (mSeq a b ρ) := by
  obtain ⟨ρ1, h1, h2⟩ := h
  rw [ev_mSeq, h1]
  exact h2
theorem seq_rt {a b : M Fl} {ρ ρ1 : Env} {d : D} (h : a ρ = .ok (.rt d) ρ1) : mSeq a b ρ = .ok (.rt d) ρ1 := by
  rw [ev_mSeq, h]
  rfl
/-! ### walks that keep a relation -/
theorem for_rel {α σ : Type} {g : MT} {b : M Fl} (R : σ → Env → Prop) (f : σ → α → σ) (e : α → D) : ∀ (l : List α), (∀ a ∈ l, ∀ s ρ, R s ρ → ∃ ρ1 ρ2, g (e a) ρ = some ρ1 ∧ b ρ1 = .ok .nx ρ2 ∧ R (f s a) ρ2) → ∀ s ρ, R s ρ → ∃ ρ', forGo g b (l.map e) ρ = .ok .nx ρ' ∧ R (l.foldl f s) ρ'
  | [], _, s, ρ, h => ⟨ρ, rfl, h⟩
  | a :: l, k, s, ρ, h => by
    obtain ⟨ρ1, ρ2, h1, h2, h3⟩ := k a (by simp) s ρ h
    obtain ⟨ρ', h4, h5⟩ := for_rel R f e l (fun x hx => k x (by simp [hx])) (f s a) ρ2 h3
    refine ⟨ρ', ?_, h5⟩
    rw [List.map_cons]
    unfold forGo
    rw [h1]
    simp only [h2]
    exact h4
/-- .. each turn goes on -/
theorem for_keep {g : MT} {b : M Fl} (R : Env → Prop) : ∀ (ds : List D), (∀ d ∈ ds, ∀ ρ, R ρ → ∃ ρ1 ρ2, g d ρ = some ρ1 ∧ b ρ1 = .ok .nx ρ2 ∧ R ρ2) → ∀ ρ, R ρ → ∃ ρ', forGo g b ds ρ = .ok .nx ρ' ∧ R ρ'
  | [], _, ρ, h => ⟨ρ, rfl, h⟩
  | d :: ds, k, ρ, h => by
    obtain ⟨ρ1, ρ2, h1, h2, h3⟩ := k d (by simp) ρ h
    obtain ⟨ρ', h4, h5⟩ := for_keep R ds (fun x hx => k x (by simp [hx])) ρ2 h3
    refine ⟨ρ', ?_, h5⟩
    unfold forGo
    rw [h1]
    simp only [h2]
    exact h4
/-- up to the first item at which the body hands back, if there is one -/
theorem for_find {α : Type} {g : MT} {b : M Fl} (R : Env → Prop) (p : α → Bool) (r : α → D) (e : α → D) : ∀ (l : List α), (∀ a ∈ l, ∀ ρ, R ρ → ∃ ρ1 ρ2, g (e a) ρ = some ρ1 ∧ ((p a = false ∧ b ρ1 = .ok .nx ρ2 ∧ R ρ2) ∨ (p a = true ∧ b ρ1 = .ok (.rt (r a)) ρ2))) → ∀ ρ, R ρ →
    (∃ ρ', l.find? p = none ∧ forGo g b (l.map e) ρ = .ok .nx ρ' ∧ R ρ') ∨ ∃ a ρ', l.find? p = some a ∧ forGo g b (l.map e) ρ = .ok (.rt (r a)) ρ'
  | [], _, ρ, h => .inl ⟨ρ, rfl, rfl, h⟩
  | a :: l, k, ρ, h => by
    obtain ⟨ρ1, ρ2, h1, h2⟩ := k a (by simp) ρ h
    rw [List.map_cons]
    unfold forGo
    rw [h1]
    rcases h2 with ⟨h2, h3, h4⟩ | ⟨h2, h3⟩
    · simp only [h3]
      rw [List.find?_cons_of_neg (by rw [h2]; simp)]
      exact for_find R p r e l (fun x hx => k x (by simp [hx])) ρ2 h4
    · simp only [h3]
      exact .inr ⟨a, ρ2, by rw [List.find?_cons_of_pos h2], rfl⟩
/-- items that draw: what comes of each is as ok says -/
theorem lcs_draw {β : Type} {f : D → Env → Res (Option D)} (R : Env → Prop) (o : β → D) (ok : β → Prop) : ∀ (ds : List D), (∀ d ∈ ds, ∀ ρ, R ρ → ∃ x ρ', f d ρ = .ok (some (o x)) ρ' ∧ ok x ∧ R ρ') → ∀ ρ, R ρ → ∃ (l : List β) (ρ' : Env), lcs f ds ρ = .ok (l.map o) ρ' ∧ l.length = ds.length ∧ (∀ x ∈ l, ok x) ∧ R ρ'
  | [], _, ρ, h => ⟨[], ρ, rfl, rfl, by simp, h⟩
  | d :: ds, k, ρ, h => by
    obtain ⟨x, ρ1, h1, h2, h3⟩ := k d (by simp) ρ h
    obtain ⟨l, ρ', h4, h5, h6, h7⟩ := lcs_draw R o ok ds (fun x hx => k x (by simp [hx])) ρ1 h3
    refine ⟨x :: l, ρ', ?_, by simp [h5], fun y hy => (List.mem_cons.mp hy).elim (fun e => e ▸ h2) (h6 y), h7⟩
    unfold lcs
    rw [h1]
    simp only [h4]
    rfl
/-- items that a draw takes or leaves -/
theorem lcs_some {α : Type} {f : D → Env → Res (Option D)} (R : Env → Prop) (o : α → D) (q : D → D) : ∀ (as : List α), (∀ a ∈ as, ∀ ρ, R ρ → ∃ ρ', (f (o a) ρ = .ok none ρ' ∨ f (o a) ρ = .ok (some (o a)) ρ') ∧ R ρ') → ∀ ρ, R ρ → ∃ (l : List α) (ρ' : Env), lcs f (as.map o) ρ = .ok (l.map o) ρ' ∧ l.Sublist as ∧ R ρ'
  | [], _, ρ, h => ⟨[], ρ, rfl, .slnil, h⟩
  | a :: as, k, ρ, h => by
    obtain ⟨ρ1, h1, h3⟩ := k a (by simp) ρ h
    obtain ⟨l, ρ', h4, h5, h6⟩ := lcs_some R o q as (fun x hx => k x (by simp [hx])) ρ1 h3
    rw [List.map_cons]
    unfold lcs
    rcases h1 with h1 | h1
    · rw [h1]
      exact ⟨l, ρ', by simp only [h4], h5.cons a, h6⟩
    · rw [h1]
      simp only [h4]
      exact ⟨a :: l, ρ', rfl, h5.cons₂ a, h6⟩
/-- nothing drawn: each item told by a function -/
theorem lcs_map {α β : Type} {f : D → Env → Res (Option D)} {ρ : Env} (e : α → D) (o : β → D) (F : α → β) (l : List α) (h : ∀ a ∈ l, f (e a) ρ = .ok (some (o (F a))) ρ) : lcs f (l.map e) ρ = .ok ((l.map F).map o) ρ := by
  have := lcs_enc (f := f) (ρ := ρ) e o (fun a => some (F a)) l (fun a ha => by rw [h a ha]; rfl)
  rw [this]
  congr 2
  simp
theorem lcs_filter {α β : Type} {f : D → Env → Res (Option D)} {ρ : Env} (e : α → D) (o : β → D) (p : α → Bool) (F : α → β) (l : List α) (h : ∀ a ∈ l, f (e a) ρ = .ok (if p a = true then some (o (F a)) else none) ρ) : lcs f (l.map e) ρ = .ok (((l.filter p).map F).map o) ρ := by
  have := lcs_enc (f := f) (ρ := ρ) e o (fun a => if p a = true then some (F a) else none) l (fun a ha => by rw [h a ha]; by_cases c : p a = true <;> simp [c])
  rw [this]
  congr 2
  clear h this
  induction l with
  | nil => rfl
  | cons a l ih => by_cases c : p a = true <;> simp [c, ih]
theorem lcs2_map {α β : Type} {f : D → Env → Res (List D)} {ρ : Env} (e : α → D) (o : β → D) (F : α → List β) : ∀ (l : List α), (∀ a ∈ l, f (e a) ρ = .ok ((F a).map o) ρ) → lcs2 f (l.map e) ρ = .ok ((l.flatMap F).map o) ρ
  | [], _ => rfl
  | a :: l, h => by
    rw [List.map_cons]
    unfold lcs2
    rw [h a (by simp)]
    simp only [lcs2_map e o F l fun x hx => h x (by simp [hx])]
    simp
theorem ofVal (ρ : Env) (i : Nat) (o : Option D) (h : ρ[i]? = some (o.map W.val)) : notOwn ρ i = true := by
  unfold notOwn
  rw [h]
  cases o <;> rfl
theorem sizeL {n : Nat} (h : n ≤ 1000) : n ≤ sizeLine := Nat.le_trans h (by decide)
theorem dInts_map : ∀ l : List Int, dInts (l.map D.int) = some l
  | [] => rfl
  | a :: l => by simp [dInts, dInts_map l]
@[simp] theorem sum_ints (l : List Int) : fSum [.lst (l.map D.int)] = some (.int l.sum) := by simp [fSum, D.lis, dInts_map]
end DL
namespace DL
open PySem PySem.Spec PyProof.Rows L2
variable [CTab]
theorem lcs_tru {α : Type} {f : D → DL.Env → DL.Res (Option D)} {ρ : DL.Env} (e : α → D) (l : List α) (h : ∀ a ∈ l, f (e a) ρ = .ok (some (.bl true)) ρ) : lcs f (l.map e) ρ = (.ok (List.replicate l.length (D.bl true)) ρ) := by
  rw [lcs_enc e D.bl (fun _ => some true) l (fun a ha => by rw [h a ha]; rfl)]
  congr 1
  clear h
  induction l with
  | nil => rfl
  | cons a l ih => simpa [List.replicate_succ] using ih
theorem all_rep (n : Nat) : fAll [.lst (List.replicate n (D.bl true))] = some (.bl true) := by
  have := all_map (List.replicate n true)
  simp at this
  simpa using this
theorem lenSet_lst {l : List Str} (h : l.Nodup) (h2 : l.length ≤ 4000) : dLenSet (.lst (l.map D.str)) = some (.int (l.length : Nat)) := by
  simp [dLenSet, dStrs_map, h, h2]
theorem lenSet_tup {l : List Str} (h : l.Nodup) (h2 : l.length ≤ 4000) : dLenSet (.tup (l.map D.str)) = some (.int (l.length : Nat)) := by
  simp [dLenSet, dStrs_map, h, h2]
/-- a walk with numbers: nothing but the walk's own slots changes, and each turn goes on -/
theorem for_pass {g : MT} {b : M Fl} (R : Env → Prop) (ds : List D) (h : ∀ d ∈ ds, ∀ ρ, R ρ → ∃ ρ1, g d ρ = some ρ1 ∧ b ρ1 = .ok .nx ρ1 ∧ R ρ1) : ∀ ρ, R ρ → ∃ ρ', forGo g b ds ρ = .ok .nx ρ' ∧ R ρ' :=
  for_keep R ds fun d hd ρ hr => by
    obtain ⟨ρ1, h1, h2, h3⟩ := h d hd ρ hr
    exact ⟨ρ1, ρ1, h1, h2, h3⟩
end DL
namespace DL
open PySem PySem.Spec PyProof.Rows L2
variable [CTab]
theorem enumD_mem {α : Type} (e : α → D) : ∀ (l : List α) (k : Nat) (d : D), d ∈ enumD k (l.map e) → ∃ (i : Nat) (a : α), a ∈ l ∧ d = .tup [.int (i : Int), e a]
  | [], _, d, h => by simp [enumD] at h
  | a :: l, k, d, h => by
    simp only [List.map_cons, enumD, List.mem_cons] at h
    rcases h with h | h
    · exact ⟨k, a, by simp, h⟩
    · obtain ⟨i, x, h1, h2⟩ := enumD_mem e l (k + 1) d h
      exact ⟨i, x, by simp [h1], h2⟩
end DL
namespace DL
/-- all rows that can be left of a row -/
def subs {α : Type} : List α → List (List α)
  | [] => [[]]
  | a :: l => subs l ++ (subs l).map (a :: ·)
theorem mem_subs {α : Type} : ∀ {m l : List α}, l.Sublist m → l ∈ subs m
  | _, _, .slnil => by simp [subs]
  | _, _, .cons a h => by simp [subs, mem_subs h]
  | _, _, .cons₂ a h => by
    simp only [subs, List.mem_append, List.mem_map]
    exact .inr ⟨_, mem_subs h, rfl⟩
end DL
namespace DL
open PySem PySem.Spec PyProof.Rows L2
variable [CTab]
/-- whether a slot holds no thing of one's own -/
def noW : Option (Option W) → Bool
  | some (some (.own _)) => false
  | some (some (.inn _)) => false
  | _ => true
theorem notOwn_eq (ρ : Env) (i : Nat) : notOwn ρ i = noW ρ[i]? := rfl
@[simp] theorem noW_val (d : D) : noW (some (some (.val d))) = true := rfl
@[simp] theorem noW_none : noW (some none) = true := rfl
@[simp] theorem noW_no : noW none = true := rfl
@[simp] theorem noW_map (o : Option D) : noW (some (o.map W.val)) = true := by cases o <;> rfl
/-- a walk whose relation speaks of what was taken -/
theorem for_pre {α : Type} {g : MT} {b : M Fl} (R : List α → Env → Prop) (e : α → D) (l : List α) (h : ∀ pre a suf, l = pre ++ a :: suf → ∀ ρ, R pre ρ → ∃ ρ1 ρ2, g (e a) ρ = some ρ1 ∧ b ρ1 = .ok .nx ρ2 ∧ R (pre ++ [a]) ρ2) : ∀ ρ, R [] ρ → ∃ ρ', forGo g b (l.map e) ρ = .ok .nx ρ' ∧ R l ρ' := by
  have gen : ∀ (suf pre : List α), l = pre ++ suf → ∀ ρ, R pre ρ → ∃ ρ', forGo g b (suf.map e) ρ = .ok .nx ρ' ∧ R l ρ' := by
    intro suf
    induction suf with
    | nil => intro pre e1 ρ hr; exact ⟨ρ, rfl, by rw [e1, List.append_nil]; exact hr⟩
    | cons a suf ih =>
      intro pre e1 ρ hr
      obtain ⟨ρ1, ρ2, h1, h2, h3⟩ := h pre a suf e1 ρ hr
      obtain ⟨ρ', h4, h5⟩ := ih (pre ++ [a]) (by rw [e1]; simp) ρ2 h3
      refine ⟨ρ', ?_, h5⟩
      rw [List.map_cons]
      unfold forGo
      rw [h1]
      simp only [h2]
      exact h4
  exact fun ρ hr => gen l [] rfl ρ hr
end DL
set_option Elab.async false
set_option linter.all false
set_option maxRecDepth 100000
set_option maxHeartbeats 0
namespace T38
open PySem PySem.Spec PyProof.Rows L2 DL
def top (i : Nat) : Stmt := PySem.Challenge.pw_goodsbypapers_k38_across_checks_and_days.main.body.getD i (.Pass ⟨0, 0, 0, 0⟩)
instance tab : DL.CTab := ⟨fun c => match c with
  | 0 => ("Tells", [])
  | 1 => ("Hides", ["bad", "seen"])
  | 2 => ("Letter", ["hands", "bank", "buyer", "seller", "ship", "goods", "amount", "most", "days", "ship_by", "until", "stale", "wants", "rules"])
  | 3 => ("Sure", ["day"])
  | 4 => ("Perhaps", ["good", "bad"])
  | 5 => ("Never", ["fault"])
  | _ => ("", [])⟩
def c_FIGURES : D := .str "0123456789"
def c_KINDS : D := .tup [.str "bill", .str "bought", .str "check", .str "cover", .str "draft"]
def c_MOST_BOXES : D := .int 60
def c_MOST_DAYS : D := .int 5000
def c_RULES : D := .tup [.str "clean", .str "full", .str "asked", .str "part", .str "about"]
def c_SMALL : D := .str "abcdefghijklmnopqrstuvwxyz"
structure B (K : PySem.W.Frag) (mg : Str → Option Value) : Prop where
  all : mg "all" = none
  t_bool : mg "bool" = none
  enumerate : mg "enumerate" = none
  t_int : mg "int" = none
  isinstance : mg "isinstance" = none
  len : mg "len" = none
  t_list : mg "list" = none
  max : mg "max" = none
  min : mg "min" = none
  range : mg "range" = none
  t_str : mg "str" = none
  sum : mg "sum" = none
  t_tuple : mg "tuple" = none
  g_Hides : mg "Hides" = some (.ref (He.ga K "Hides"))
  g_Letter : mg "Letter" = some (.ref (He.ga K "Letter"))
  g_Never : mg "Never" = some (.ref (He.ga K "Never"))
  g_Perhaps : mg "Perhaps" = some (.ref (He.ga K "Perhaps"))
  g_Sure : mg "Sure" = some (.ref (He.ga K "Sure"))
  g_Tells : mg "Tells" = some (.ref (He.ga K "Tells"))
  c_FIGURES : ∃ p : V × Value, mg "FIGURES" = some p.2 ∧ RelV p.1 p.2 ∧ ∀ H Z, Rep K H Z c_FIGURES p.1
  c_KINDS : ∃ p : V × Value, mg "KINDS" = some p.2 ∧ RelV p.1 p.2 ∧ ∀ H Z, Rep K H Z c_KINDS p.1
  c_MOST_BOXES : ∃ p : V × Value, mg "MOST_BOXES" = some p.2 ∧ RelV p.1 p.2 ∧ ∀ H Z, Rep K H Z c_MOST_BOXES p.1
  c_MOST_DAYS : ∃ p : V × Value, mg "MOST_DAYS" = some p.2 ∧ RelV p.1 p.2 ∧ ∀ H Z, Rep K H Z c_MOST_DAYS p.1
  c_RULES : ∃ p : V × Value, mg "RULES" = some p.2 ∧ RelV p.1 p.2 ∧ ∀ H Z, Rep K H Z c_RULES p.1
  c_SMALL : ∃ p : V × Value, mg "SMALL" = some p.2 ∧ RelV p.1 p.2 ∧ ∀ H Z, Rep K H Z c_SMALL p.1
  p_Tells : OB.Plain K (He.ga K "Tells")
section
variable {P : Program} {w : World} {K : PySem.W.Frag} {mg : Str → Option Value} {base : Heap}
/-! Tells.__bool__ -/
def m_Tells_bool : M Fl := (mRet (mC (.bl true)))
def F_Tells_bool : FD := runF 1 false m_Tells_bool
theorem sc_Tells_bool : FnScope ["self"] ["self"] (defScope (inClass (top 17) 0)) := ⟨rfl, rfl, rfl, by decide +kernel, rfl, by decide +kernel, by decide +kernel⟩
theorem k_Tells_bool {f : Addr} {fd : FuncData} (b : B K mg) (cf : CFacts K 6) (F : FunD K "__bool__" "Tells.__bool__" (defArgs (inClass (top 17) 0)) (defBody (inClass (top 17) 0)) (defScope (inClass (top 17) 0)) [] [] f fd) : FnOk P w K mg base CX0 1 f fd ["self"] (spF K 1 F_Tells_bool) :=
  have hN : List.Nodup (α := Str) ["self"] := sc_Tells_bool.nd
  fn_ok F sc_Tells_bool fun cdv A outer s H E hr =>
  (s_one (s_ret d_bl))
theorem n_Tells_bool {f : Addr} {fd : FuncData} (F : FunD K "__bool__" "Tells.__bool__" (defArgs (inClass (top 17) 0)) (defBody (inClass (top 17) 0)) (defScope (inClass (top 17) 0)) [] [] f fd) : L2.Binds K fd ["self"] [] :=
  F.bindsN fun _ _ _ _ _ _ us hl => match us, hl with | [_], _ => rfl
/-! Hides.__bool__ -/
def m_Hides_bool : M Fl := (mRet (mC (.bl false)))
def F_Hides_bool : FD := runF 1 false m_Hides_bool
theorem sc_Hides_bool : FnScope ["self"] ["self"] (defScope (inClass (top 18) 1)) := ⟨rfl, rfl, rfl, by decide +kernel, rfl, by decide +kernel, by decide +kernel⟩
theorem k_Hides_bool {f : Addr} {fd : FuncData} (b : B K mg) (cf : CFacts K 6) (F : FunD K "__bool__" "Hides.__bool__" (defArgs (inClass (top 18) 1)) (defBody (inClass (top 18) 1)) (defScope (inClass (top 18) 1)) [] [] f fd) : FnOk P w K mg base CX0 1 f fd ["self"] (spF K 1 F_Hides_bool) :=
  have hN : List.Nodup (α := Str) ["self"] := sc_Hides_bool.nd
  fn_ok F sc_Hides_bool fun cdv A outer s H E hr =>
  (s_one (s_ret d_bl))
theorem n_Hides_bool {f : Addr} {fd : FuncData} (F : FunD K "__bool__" "Hides.__bool__" (defArgs (inClass (top 18) 1)) (defBody (inClass (top 18) 1)) (defScope (inClass (top 18) 1)) [] [] f fd) : L2.Binds K fd ["self"] [] :=
  F.bindsN fun _ _ _ _ _ _ us hl => match us, hl with | [_], _ => rfl
/-! Sure.__bool__ -/
def m_Sure_bool : M Fl := (mRet (mC (.bl true)))
def F_Sure_bool : FD := runF 1 false m_Sure_bool
theorem sc_Sure_bool : FnScope ["self"] ["self"] (defScope (inClass (top 40) 1)) := ⟨rfl, rfl, rfl, by decide +kernel, rfl, by decide +kernel, by decide +kernel⟩
theorem k_Sure_bool {f : Addr} {fd : FuncData} (b : B K mg) (cf : CFacts K 6) (F : FunD K "__bool__" "Sure.__bool__" (defArgs (inClass (top 40) 1)) (defBody (inClass (top 40) 1)) (defScope (inClass (top 40) 1)) [] [] f fd) : FnOk P w K mg base CX0 1 f fd ["self"] (spF K 1 F_Sure_bool) :=
  have hN : List.Nodup (α := Str) ["self"] := sc_Sure_bool.nd
  fn_ok F sc_Sure_bool fun cdv A outer s H E hr =>
  (s_one (s_ret d_bl))
theorem n_Sure_bool {f : Addr} {fd : FuncData} (F : FunD K "__bool__" "Sure.__bool__" (defArgs (inClass (top 40) 1)) (defBody (inClass (top 40) 1)) (defScope (inClass (top 40) 1)) [] [] f fd) : L2.Binds K fd ["self"] [] :=
  F.bindsN fun _ _ _ _ _ _ us hl => match us, hl with | [_], _ => rfl
/-! Perhaps.__bool__ -/
def m_Perhaps_bool : M Fl := (mRet (mC (.bl false)))
def F_Perhaps_bool : FD := runF 1 false m_Perhaps_bool
theorem sc_Perhaps_bool : FnScope ["self"] ["self"] (defScope (inClass (top 41) 1)) := ⟨rfl, rfl, rfl, by decide +kernel, rfl, by decide +kernel, by decide +kernel⟩
theorem k_Perhaps_bool {f : Addr} {fd : FuncData} (b : B K mg) (cf : CFacts K 6) (F : FunD K "__bool__" "Perhaps.__bool__" (defArgs (inClass (top 41) 1)) (defBody (inClass (top 41) 1)) (defScope (inClass (top 41) 1)) [] [] f fd) : FnOk P w K mg base CX0 1 f fd ["self"] (spF K 1 F_Perhaps_bool) :=
  have hN : List.Nodup (α := Str) ["self"] := sc_Perhaps_bool.nd
  fn_ok F sc_Perhaps_bool fun cdv A outer s H E hr =>
  (s_one (s_ret d_bl))
theorem n_Perhaps_bool {f : Addr} {fd : FuncData} (F : FunD K "__bool__" "Perhaps.__bool__" (defArgs (inClass (top 41) 1)) (defBody (inClass (top 41) 1)) (defScope (inClass (top 41) 1)) [] [] f fd) : L2.Binds K fd ["self"] [] :=
  F.bindsN fun _ _ _ _ _ _ us hl => match us, hl with | [_], _ => rfl
/-! Never.__bool__ -/
def m_Never_bool : M Fl := (mRet (mC (.bl false)))
def F_Never_bool : FD := runF 1 false m_Never_bool
theorem sc_Never_bool : FnScope ["self"] ["self"] (defScope (inClass (top 42) 1)) := ⟨rfl, rfl, rfl, by decide +kernel, rfl, by decide +kernel, by decide +kernel⟩
theorem k_Never_bool {f : Addr} {fd : FuncData} (b : B K mg) (cf : CFacts K 6) (F : FunD K "__bool__" "Never.__bool__" (defArgs (inClass (top 42) 1)) (defBody (inClass (top 42) 1)) (defScope (inClass (top 42) 1)) [] [] f fd) : FnOk P w K mg base CX0 1 f fd ["self"] (spF K 1 F_Never_bool) :=
  have hN : List.Nodup (α := Str) ["self"] := sc_Never_bool.nd
  fn_ok F sc_Never_bool fun cdv A outer s H E hr =>
  (s_one (s_ret d_bl))
theorem n_Never_bool {f : Addr} {fd : FuncData} (F : FunD K "__bool__" "Never.__bool__" (defArgs (inClass (top 42) 1)) (defBody (inClass (top 42) 1)) (defScope (inClass (top 42) 1)) [] [] f fd) : L2.Binds K fd ["self"] [] :=
  F.bindsN fun _ _ _ _ _ _ us hl => match us, hl with | [_], _ => rfl
def bs : List (Nat × FD) := [(0, F_Tells_bool), (1, F_Hides_bool), (3, F_Sure_bool), (4, F_Perhaps_bool), (5, F_Never_bool)]
/-! _law_number -/
def b_law_number_1 (ρ : DL.Env) : DL.Res Fl := (mSet 4 (m2 dFdiv (mVar 4) (mC (.int 1009)))) ρ
def m_law_number : M Fl := (mSeq (mAsg (mTT (mTCons (mTN 2) (mTCons (mTN 3) mTNil))) (mIfE (mTest (m2 dNe (mVar 0) (mLst mNil))) (mTup (mCons (m2 dIx (mVar 0) (m2 dMod (mVar 1) (mCa fLen (mCons (mVar 0) mNil)))) (mCons (m2 dFdiv (mVar 1) (mCa fLen (mCons (mVar 0) mNil))) mNil))) (mTup (mCons (mC (.int 12345)) (mCons (mC (.int 0)) mNil)))))
  (mSeq (mSet 4 (mIfE (mTest (m2 dLt (mVar 3) (mC (.int 60)))) (m2 dSub (mVar 2) (m2 dPow (mC (.int 10)) (mC (.int 18)))) (mC (.int 0))))
  (mSeq (mFor (mRng1 (m2 dMod (mCa fInt (mCons (mVar 3) mNil)) (mC (.int 60)))) (mTN 5) b_law_number_1)
  (mSeq (mIf (mTest (m2 dGt (mVar 4) (mC (.int 0)))) (mRet (m2 dMod (mCa fInt (mCons (mVar 4) mNil)) (mC (.int 1009))))
  mSkip)
  (mSeq (mSet 6 (m2 dMod (m2 dAdd (m2 dMul (mCa fInt (mCons (m2 dAdd (mVar 2) (m2 dMul (mC (.int 977)) (mVar 1))) mNil)) (mC (.int 48271))) (m2 dMul (mC (.int 31)) (mCa fLen (mCons (mVar 0) mNil)))) (mC (.int 2147483647))))
  (mSeq (mSet 6 (m2 dMod (m2 dAdd (m2 dMul (mVar 6) (mVar 6)) (m2 dMul (mC (.int 40503)) (mVar 1))) (mC (.int 2147483629))))
  (mRet (mCa fInt (mCons (m2 dMod (m2 dAdd (m2 dMul (mVar 6) (mC (.int 69621))) (m2 dFdiv (mVar 6) (mC (.int 977)))) (mC (.int 2147483587))) mNil)))))))))
def F_law_number : FD := runF 7 false m_law_number
theorem sc_law_number : FnScope ["script", "index", "cell", "turn", "rest", "step", "blend"] ["script", "index"] (defScope (top 56)) := ⟨rfl, rfl, rfl, by decide +kernel, rfl, by decide +kernel, by decide +kernel⟩
theorem k_law_number {f : Addr} {fd : FuncData} (b : B K mg) (cf : CFacts K 6) (F : FunD K "_law_number" "_law_number" (defArgs (top 56)) (defBody (top 56)) (defScope (top 56)) [] [] f fd) : FnOk P w K mg base CX0 1 f fd ["script", "index"] (spF K 2 F_law_number) :=
  have hN : List.Nodup (α := Str) ["script", "index", "cell", "turn", "rest", "step", "blend"] := sc_law_number.nd
  fn_ok F sc_law_number fun cdv A outer s H E hr =>
  (s_cons (s_asg (d_ifexp (dt_cmp1 (c_ne hr) (d_var 0) (d_list da_nil)) (d_tuple (da_cons (d_item (d_var 0) (d_mod (d_var 1) (d_callB call_lenA ca_len b.len bt_len (da_cons (d_var 0) da_nil)))) (da_cons (d_fdiv (d_var 1) (d_callB call_lenA ca_len b.len bt_len (da_cons (d_var 0) da_nil))) da_nil))) (d_tuple (da_cons d_int (da_cons d_int da_nil)))) (g_tup rfl (gs_cons (g_name 2 hN) (gs_cons (g_name 3 hN) gs_nil))))
  (s_cons (s_set 4 hN (d_ifexp (dt_cmp1 c_lt (d_var 3) d_int) (d_sub (d_var 2) (d_pow d_int d_int)) d_int))
  (s_cons (s_for PassesOwn.never rfl (i_rng1 (d_mod (d_callTy call_int1 ca_int b.t_int bt_int (da_cons (d_var 3) da_nil)) d_int) b.range) (g_name 5 hN) (s_one (s_set 4 hN (d_fdiv (d_var 4) d_int))))
  (s_cons (s_if (dt_cmp1 c_gt (d_var 4) d_int) (s_one (s_ret (d_mod (d_callTy call_int1 ca_int b.t_int bt_int (da_cons (d_var 4) da_nil)) d_int)))
  s_nil)
  (s_cons (s_set 6 hN (d_mod (d_add (d_mul (d_callTy call_int1 ca_int b.t_int bt_int (da_cons (d_add (d_var 2) (d_mul d_int (d_var 1))) da_nil)) d_int) (d_mul d_int (d_callB call_lenA ca_len b.len bt_len (da_cons (d_var 0) da_nil)))) d_int))
  (s_cons (s_set 6 hN (d_mod (d_add (d_mul (d_var 6) (d_var 6)) (d_mul d_int (d_var 1))) d_int))
  (s_one (s_ret (d_callTy call_int1 ca_int b.t_int bt_int (da_cons (d_mod (d_add (d_mul (d_var 6) d_int) (d_fdiv (d_var 6) d_int)) d_int) da_nil))))))))))
theorem n_law_number {f : Addr} {fd : FuncData} (F : FunD K "_law_number" "_law_number" (defArgs (top 56)) (defBody (top 56)) (defScope (top 56)) [] [] f fd) : L2.Binds K fd ["script", "index"] [] :=
  F.bindsN fun _ _ _ _ _ _ us hl => match us, hl with | [_, _], _ => rfl
/-! _law_take -/
def m_law_take : M Fl := (mSeq (mAugIx 0 (mC (.int 1)) dAddI (mC (.int 1)))
  (mRet (m2 dMod (mCa fInt (mCons (mCall F_law_number (mACons (mOwnIx 0 (mC (.int 0))) (mACons (mCa fInt (mCons (mOwnIx 0 (mC (.int 1))) mNil)) mANil))) mNil)) (mVar 1))))
def F_law_take : FD := runF 2 false m_law_take
theorem sc_law_take : FnScope ["draw", "many"] ["draw", "many"] (defScope (top 57)) := ⟨rfl, rfl, rfl, by decide +kernel, rfl, by decide +kernel, by decide +kernel⟩
theorem k_law_take {f : Addr} {fd : FuncData} (b : B K mg) (cf : CFacts K 6) (h_law_number : Callee P w K mg base CX0 1 "_law_number" 2 F_law_number) (F : FunD K "_law_take" "_law_take" (defArgs (top 57)) (defBody (top 57)) (defScope (top 57)) [] [] f fd) : FnOk P w K mg base CX0 2 f fd ["draw", "many"] (spF K 2 F_law_take) :=
  have hN : List.Nodup (α := Str) ["draw", "many"] := sc_law_take.nd
  fn_ok F sc_law_take fun cdv A outer s H E hr =>
  (s_cons (s_augIx 0 ip_add add_opI d_int d_int)
  (s_one (s_ret (d_mod (d_callTy call_int1 ca_int b.t_int bt_int (da_cons (d_call h_law_number hr p0 (as_cons (d_ownIx 0 d_int) (as_cons (d_callTy call_int1 ca_int b.t_int bt_int (da_cons (d_ownIx 0 d_int) da_nil)) as_nil))) da_nil)) (d_var 1)))))
theorem n_law_take {f : Addr} {fd : FuncData} (F : FunD K "_law_take" "_law_take" (defArgs (top 57)) (defBody (top 57)) (defScope (top 57)) [] [] f fd) : L2.Binds K fd ["draw", "many"] [] :=
  F.bindsN fun _ _ _ _ _ _ us hl => match us, hl with | [_, _], _ => rfl
/-! is_integer -/
def m_is_integer : M Fl := (mRet (mAndV (mIs (isTy .int) (mVar 0)) (mNotV (mIs (isTy .bool) (mVar 0)))))
def F_is_integer : FD := runF 1 false m_is_integer
theorem sc_is_integer : FnScope ["thing"] ["thing"] (defScope (top 8)) := ⟨rfl, rfl, rfl, by decide +kernel, rfl, by decide +kernel, by decide +kernel⟩
theorem k_is_integer {f : Addr} {fd : FuncData} (b : B K mg) (cf : CFacts K 6) (F : FunD K "is_integer" "is_integer" (defArgs (top 8)) (defBody (top 8)) (defScope (top 8)) [] [] f fd) : FnOk P w K mg base CX0 1 f fd ["thing"] (spF K 1 F_is_integer) :=
  have hN : List.Nodup (α := Str) ["thing"] := sc_is_integer.nd
  fn_ok F sc_is_integer fun cdv A outer s H E hr =>
  (s_one (s_ret (d_and (d_isTy .int (d_var 0) b.isinstance b.t_int bt_int) (d_one (d_not (d_isTy .bool (d_var 0) b.isinstance b.t_bool bt_bool))))))
theorem n_is_integer {f : Addr} {fd : FuncData} (F : FunD K "is_integer" "is_integer" (defArgs (top 8)) (defBody (top 8)) (defScope (top 8)) [] [] f fd) : L2.Binds K fd ["thing"] [] :=
  F.bindsN fun _ _ _ _ _ _ us hl => match us, hl with | [_], _ => rfl
/-! is_number -/
def m_is_number : M Fl := (mRet (mAndV (mCall F_is_integer (mACons (mVar 0) mANil)) (mChain dLe dLe (mVar 1) (mVar 0) (mVar 2))))
def F_is_number : FD := runF 3 false m_is_number
theorem sc_is_number : FnScope ["thing", "low", "high"] ["thing", "low", "high"] (defScope (top 9)) := ⟨rfl, rfl, rfl, by decide +kernel, rfl, by decide +kernel, by decide +kernel⟩
theorem k_is_number {f : Addr} {fd : FuncData} (b : B K mg) (cf : CFacts K 6) (h_is_integer : Callee P w K mg base CX0 1 "is_integer" 1 F_is_integer) (F : FunD K "is_number" "is_number" (defArgs (top 9)) (defBody (top 9)) (defScope (top 9)) [] [] f fd) : FnOk P w K mg base CX0 2 f fd ["thing", "low", "high"] (spF K 3 F_is_number) :=
  have hN : List.Nodup (α := Str) ["thing", "low", "high"] := sc_is_number.nd
  fn_ok F sc_is_number fun cdv A outer s H E hr =>
  (s_one (s_ret (d_and (d_call h_is_integer hr p0 (as_cons (d_var 0) as_nil)) (d_one (d_chain c_le c_le (d_var 1) (d_var 0) (d_var 2))))))
theorem n_is_number {f : Addr} {fd : FuncData} (F : FunD K "is_number" "is_number" (defArgs (top 9)) (defBody (top 9)) (defScope (top 9)) [] [] f fd) : L2.Binds K fd ["thing", "low", "high"] [] :=
  F.bindsN fun _ _ _ _ _ _ us hl => match us, hl with | [_, _, _], _ => rfl
/-! check_number -/
def m_check_number : M Fl := (mIf (mNotT (mTru (mCall F_is_number (mACons (mVar 1) (mACons (mVar 2) (mACons (mVar 3) mANil)))))) mNever
  mSkip)
def F_check_number : FD := runF 4 false m_check_number
theorem sc_check_number : FnScope ["part", "thing", "low", "high"] ["part", "thing", "low", "high"] (defScope (top 10)) := ⟨rfl, rfl, rfl, by decide +kernel, rfl, by decide +kernel, by decide +kernel⟩
theorem k_check_number {f : Addr} {fd : FuncData} (b : B K mg) (cf : CFacts K 6) (h_is_number : Callee P w K mg base CX0 2 "is_number" 3 F_is_number) (F : FunD K "check_number" "check_number" (defArgs (top 10)) (defBody (top 10)) (defScope (top 10)) [] [] f fd) : FnOk P w K mg base CX0 3 f fd ["part", "thing", "low", "high"] (spF K 4 F_check_number) :=
  have hN : List.Nodup (α := Str) ["part", "thing", "low", "high"] := sc_check_number.nd
  fn_ok F sc_check_number fun cdv A outer s H E hr =>
  (s_one (s_if (dt_not (dt_tru (d_call h_is_number hr p0 (as_cons (d_var 1) (as_cons (d_var 2) (as_cons (d_var 3) as_nil)))))) (s_one s_never)
  s_nil))
theorem n_check_number {f : Addr} {fd : FuncData} (F : FunD K "check_number" "check_number" (defArgs (top 10)) (defBody (top 10)) (defScope (top 10)) [] [] f fd) : L2.Binds K fd ["part", "thing", "low", "high"] [] :=
  F.bindsN fun _ _ _ _ _ _ us hl => match us, hl with | [_, _, _, _], _ => rfl
/-! check_looked -/
def m_check_looked : M Fl := (mSeq (mDo (mCall F_check_number (mACons (mC (.str "boxes")) (mACons (mVar 0) (mACons (mC (.int 1)) (mACons (mC c_MOST_BOXES) mANil))))))
  (mSeq (mDo (mCall F_check_number (mACons (mC (.str "looked")) (mACons (mVar 1) (mACons (mC (.int 0)) (mACons (mVar 0) mANil))))))
  (mSeq (mDo (mCall F_check_number (mACons (mC (.str "allowed")) (mACons (mVar 2) (mACons (mC (.int 0)) (mACons (mVar 1) mANil))))))
  (mDo (mCall F_check_number (mACons (mC (.str "most")) (mACons (mVar 3) (mACons (mC (.int 0)) (mACons (mVar 0) mANil)))))))))
def F_check_looked : FD := runF 4 false m_check_looked
theorem sc_check_looked : FnScope ["boxes", "looked", "allowed", "most"] ["boxes", "looked", "allowed", "most"] (defScope (top 19)) := ⟨rfl, rfl, rfl, by decide +kernel, rfl, by decide +kernel, by decide +kernel⟩
theorem k_check_looked {f : Addr} {fd : FuncData} (b : B K mg) (cf : CFacts K 6) (h_check_number : Callee P w K mg base CX0 3 "check_number" 4 F_check_number) (F : FunD K "check_looked" "check_looked" (defArgs (top 19)) (defBody (top 19)) (defScope (top 19)) [] [] f fd) : FnOk P w K mg base CX0 4 f fd ["boxes", "looked", "allowed", "most"] (spF K 4 F_check_looked) :=
  have hN : List.Nodup (α := Str) ["boxes", "looked", "allowed", "most"] := sc_check_looked.nd
  fn_ok F sc_check_looked fun cdv A outer s H E hr =>
  (s_cons (s_expr (d_call h_check_number hr p0 (as_cons d_str (as_cons (d_var 0) (as_cons d_int (as_cons (d_glob (by rfl) b.c_MOST_BOXES.choose_spec.1 b.c_MOST_BOXES.choose_spec.2.1 b.c_MOST_BOXES.choose_spec.2.2) as_nil))))))
  (s_cons (s_expr (d_call h_check_number hr p0 (as_cons d_str (as_cons (d_var 1) (as_cons d_int (as_cons (d_var 0) as_nil))))))
  (s_cons (s_expr (d_call h_check_number hr p0 (as_cons d_str (as_cons (d_var 2) (as_cons d_int (as_cons (d_var 1) as_nil))))))
  (s_one (s_expr (d_call h_check_number hr p0 (as_cons d_str (as_cons (d_var 3) (as_cons d_int (as_cons (d_var 0) as_nil))))))))))
theorem n_check_looked {f : Addr} {fd : FuncData} (F : FunD K "check_looked" "check_looked" (defArgs (top 19)) (defBody (top 19)) (defScope (top 19)) [] [] f fd) : L2.Binds K fd ["boxes", "looked", "allowed", "most"] [] :=
  F.bindsN fun _ _ _ _ _ _ us hl => match us, hl with | [_, _, _, _], _ => rfl
/-! Hides.__init__ -/
def m_Hides_init : M Fl := (mSeq (mFld 0 1 0 (mVar 1))
  (mFld 0 1 1 (mVar 2)))
def F_Hides_init : FD := runF 3 false m_Hides_init
theorem sc_Hides_init : FnScope ["self", "bad", "seen"] ["self", "bad", "seen"] (defScope (inClass (top 18) 0)) := ⟨rfl, rfl, rfl, by decide +kernel, rfl, by decide +kernel, by decide +kernel⟩
theorem k_Hides_init {f : Addr} {fd : FuncData} (b : B K mg) (cf : CFacts K 6) (F : FunD K "__init__" "Hides.__init__" (defArgs (inClass (top 18) 0)) (defBody (inClass (top 18) 0)) (defScope (inClass (top 18) 0)) [] [] f fd) : FnOk P w K mg base CX0 1 f fd ["self", "bad", "seen"] (spF K 3 F_Hides_init) :=
  have hN : List.Nodup (α := Str) ["self", "bad", "seen"] := sc_Hides_init.nd
  fn_ok F sc_Hides_init fun cdv A outer s H E hr =>
  (s_cons (s_fld cf 0 1 0 (by decide) rfl (by decide) (d_var 1))
  (s_one (s_fld cf 0 1 1 (by decide) rfl (by decide) (d_var 2))))
theorem n_Hides_init {f : Addr} {fd : FuncData} (F : FunD K "__init__" "Hides.__init__" (defArgs (inClass (top 18) 0)) (defBody (inClass (top 18) 0)) (defScope (inClass (top 18) 0)) [] [] f fd) : L2.Binds K fd ["self", "bad", "seen"] [] :=
  F.bindsN fun _ _ _ _ _ _ us hl => match us, hl with | [_, _, _], _ => rfl
/-! judge_check -/
def m_judge_check : M Fl := (mSeq (mDo (mCall F_check_looked (mACons (mVar 0) (mACons (mVar 1) (mACons (mVar 2) (mACons (mVar 3) mANil))))))
  (mSeq (mSet 4 (mCa fMax (mCons (mC (.int 0)) (mCons (m2 dSub (m2 dAdd (mVar 3) (mC (.int 1))) (m2 dSub (mVar 0) (mVar 1))) mNil))))
  (mRet (mIfE (mAndT (mTest (m2 dLe (mVar 4) (mVar 2))) (mTest (m2 dLt (mVar 3) (mVar 0)))) (mNew 1 F_Hides_init (mACons (m2 dAdd (mVar 3) (mC (.int 1))) (mACons (mVar 4) mANil))) (mPlain 0)))))
def F_judge_check : FD := runF 5 false m_judge_check
theorem sc_judge_check : FnScope ["boxes", "looked", "allowed", "most", "seen"] ["boxes", "looked", "allowed", "most"] (defScope (top 20)) := ⟨rfl, rfl, rfl, by decide +kernel, rfl, by decide +kernel, by decide +kernel⟩
theorem k_judge_check {f : Addr} {fd : FuncData} (b : B K mg) (cf : CFacts K 6) (h_check_looked : Callee P w K mg base CX0 4 "check_looked" 4 F_check_looked) (h_Hides_init : Maker P w K mg base CX0 1 "Hides" 2 1 F_Hides_init) (F : FunD K "judge_check" "judge_check" (defArgs (top 20)) (defBody (top 20)) (defScope (top 20)) [] [] f fd) : FnOk P w K mg base CX0 5 f fd ["boxes", "looked", "allowed", "most"] (spF K 4 F_judge_check) :=
  have hN : List.Nodup (α := Str) ["boxes", "looked", "allowed", "most", "seen"] := sc_judge_check.nd
  fn_ok F sc_judge_check fun cdv A outer s H E hr =>
  (s_cons (s_expr (d_call h_check_looked hr p0 (as_cons (d_var 0) (as_cons (d_var 1) (as_cons (d_var 2) (as_cons (d_var 3) as_nil))))))
  (s_cons (s_set 4 hN (d_callB (call_maxA rfl) ca_max b.max bt_max (da_cons d_int (da_cons (d_sub (d_add (d_var 3) d_int) (d_sub (d_var 0) (d_var 1))) da_nil))))
  (s_one (s_ret (d_ifexp (dw_and (dt_cmp1 c_le (d_var 4) (d_var 2)) (dw_and1 (dt_cmp1 c_lt (d_var 3) (d_var 0)))).pt (d_new h_Hides_init hr p0 (as_cons (d_add (d_var 3) d_int) (as_cons (d_var 4) as_nil))) (d_plain (c := 0) b.p_Tells b.g_Tells))))))
theorem n_judge_check {f : Addr} {fd : FuncData} (F : FunD K "judge_check" "judge_check" (defArgs (top 20)) (defBody (top 20)) (defScope (top 20)) [] [] f fd) : L2.Binds K fd ["boxes", "looked", "allowed", "most"] [] :=
  F.bindsN fun _ _ _ _ _ _ us hl => match us, hl with | [_, _, _, _], _ => rfl
/-! greatest_hidden -/
def m_greatest_hidden : M Fl := (mSeq (mDo (mCall F_check_looked (mACons (mVar 0) (mACons (mVar 1) (mACons (mVar 2) (mACons (mC (.int 0)) mANil))))))
  (mRet (m2 dSub (m2 dAdd (mVar 2) (mVar 0)) (mVar 1))))
def F_greatest_hidden : FD := runF 3 false m_greatest_hidden
theorem sc_greatest_hidden : FnScope ["boxes", "looked", "allowed"] ["boxes", "looked", "allowed"] (defScope (top 26)) := ⟨rfl, rfl, rfl, by decide +kernel, rfl, by decide +kernel, by decide +kernel⟩
theorem k_greatest_hidden {f : Addr} {fd : FuncData} (b : B K mg) (cf : CFacts K 6) (h_check_looked : Callee P w K mg base CX0 4 "check_looked" 4 F_check_looked) (F : FunD K "greatest_hidden" "greatest_hidden" (defArgs (top 26)) (defBody (top 26)) (defScope (top 26)) [] [] f fd) : FnOk P w K mg base CX0 5 f fd ["boxes", "looked", "allowed"] (spF K 3 F_greatest_hidden) :=
  have hN : List.Nodup (α := Str) ["boxes", "looked", "allowed"] := sc_greatest_hidden.nd
  fn_ok F sc_greatest_hidden fun cdv A outer s H E hr =>
  (s_cons (s_expr (d_call h_check_looked hr p0 (as_cons (d_var 0) (as_cons (d_var 1) (as_cons (d_var 2) (as_cons d_int as_nil))))))
  (s_one (s_ret (d_sub (d_add (d_var 2) (d_var 0)) (d_var 1)))))
theorem n_greatest_hidden {f : Addr} {fd : FuncData} (F : FunD K "greatest_hidden" "greatest_hidden" (defArgs (top 26)) (defBody (top 26)) (defScope (top 26)) [] [] f fd) : L2.Binds K fd ["boxes", "looked", "allowed"] [] :=
  F.bindsN fun _ _ _ _ _ _ us hl => match us, hl with | [_, _, _], _ => rfl
/-! ways_to_pick -/
def b_ways_to_pick_1 (ρ : DL.Env) : DL.Res Fl := (mSet 2 (m2 dFdiv (m2 dMul (mVar 2) (m2 dSub (mVar 0) (mVar 3))) (m2 dAdd (mVar 3) (mC (.int 1))))) ρ
def m_ways_to_pick : M Fl := (mSeq (mSet 2 (mC (.int 1)))
  (mSeq (mFor (mRng1 (mVar 1)) (mTN 3) b_ways_to_pick_1)
  (mRet (mIfE (mTest (mChain dLe dLe (mC (.int 0)) (mVar 1) (mVar 0))) (mVar 2) (mC (.int 0))))))
def F_ways_to_pick : FD := runF 4 false m_ways_to_pick
theorem sc_ways_to_pick : FnScope ["many", "some", "found", "turn"] ["many", "some"] (defScope (top 22)) := ⟨rfl, rfl, rfl, by decide +kernel, rfl, by decide +kernel, by decide +kernel⟩
theorem k_ways_to_pick {f : Addr} {fd : FuncData} (b : B K mg) (cf : CFacts K 6) (F : FunD K "ways_to_pick" "ways_to_pick" (defArgs (top 22)) (defBody (top 22)) (defScope (top 22)) [] [] f fd) : FnOk P w K mg base CX0 1 f fd ["many", "some"] (spF K 2 F_ways_to_pick) :=
  have hN : List.Nodup (α := Str) ["many", "some", "found", "turn"] := sc_ways_to_pick.nd
  fn_ok F sc_ways_to_pick fun cdv A outer s H E hr =>
  (s_cons (s_set 2 hN d_int)
  (s_cons (s_for PassesOwn.never rfl (i_rng1 (d_var 1) b.range) (g_name 3 hN) (s_one (s_set 2 hN (d_fdiv (d_mul (d_var 2) (d_sub (d_var 0) (d_var 3))) (d_add (d_var 3) d_int)))))
  (s_one (s_ret (d_ifexp (dt_chain c_le c_le d_int (d_var 1) (d_var 0)) (d_var 2) d_int)))))
theorem n_ways_to_pick {f : Addr} {fd : FuncData} (F : FunD K "ways_to_pick" "ways_to_pick" (defArgs (top 22)) (defBody (top 22)) (defScope (top 22)) [] [] f fd) : L2.Binds K fd ["many", "some"] [] :=
  F.bindsN fun _ _ _ _ _ _ us hl => match us, hl with | [_, _], _ => rfl
/-! lowest -/
def w_lowest_1 (ρ : DL.Env) : DL.Res Bool := (mTest (m2 dGt (mVar 3) (mC (.int 0)))) ρ
def b_lowest_1 (ρ : DL.Env) : DL.Res Fl := (mPar 2 3 (mCons (mVar 3) (mCons (m2 dMod (mVar 2) (mVar 3)) mNil))) ρ
def m_lowest : M Fl := (mSeq (mPar 2 3 (mCons (mVar 0) (mCons (mVar 1) mNil)))
  (mSeq (mWhile 64 w_lowest_1 b_lowest_1)
  (mRet (mTup (mCons (m2 dFdiv (mVar 0) (mVar 2)) (mCons (m2 dFdiv (mVar 1) (mVar 2)) mNil))))))
def F_lowest : FD := runF 4 false m_lowest
theorem sc_lowest : FnScope ["above", "below", "one", "other"] ["above", "below"] (defScope (top 14)) := ⟨rfl, rfl, rfl, by decide +kernel, rfl, by decide +kernel, by decide +kernel⟩
theorem k_lowest {f : Addr} {fd : FuncData} (b : B K mg) (cf : CFacts K 6) (F : FunD K "lowest" "lowest" (defArgs (top 14)) (defBody (top 14)) (defScope (top 14)) [] [] f fd) : FnOk P w K mg base CX0 1 f fd ["above", "below"] (spF K 2 F_lowest) :=
  have hN : List.Nodup (α := Str) ["above", "below", "one", "other"] := sc_lowest.nd
  fn_ok F sc_lowest fun cdv A outer s H E hr =>
  (s_cons (s_par 2 3 rfl hN (da_cons (d_var 0) (da_cons (d_var 1) da_nil)))
  (s_cons (s_while 64 PassesOwn.never (dt_cmp1 c_gt (d_var 3) d_int) (s_one (s_par 2 3 rfl hN (da_cons (d_var 3) (da_cons (d_mod (d_var 2) (d_var 3)) da_nil)))))
  (s_one (s_ret (d_tuple (da_cons (d_fdiv (d_var 0) (d_var 2)) (da_cons (d_fdiv (d_var 1) (d_var 2)) da_nil)))))))
theorem n_lowest {f : Addr} {fd : FuncData} (F : FunD K "lowest" "lowest" (defArgs (top 14)) (defBody (top 14)) (defScope (top 14)) [] [] f fd) : L2.Binds K fd ["above", "below"] [] :=
  F.bindsN fun _ _ _ _ _ _ us hl => match us, hl with | [_, _], _ => rfl
/-! odds_to_pass -/
def e_odds_to_pass_1 (ρ : DL.Env) : DL.Res D := (m2 dMul (mCall F_ways_to_pick (mACons (mVar 3) (mACons (mVar 6) mANil))) (mCall F_ways_to_pick (mACons (m2 dSub (mVar 0) (mVar 3)) (mACons (m2 dSub (mVar 1) (mVar 6)) mANil)))) ρ
def m_odds_to_pass : M Fl := (mSeq (mDo (mCall F_check_looked (mACons (mVar 0) (mACons (mVar 1) (mACons (mVar 2) (mACons (mC (.int 0)) mANil))))))
  (mSeq (mDo (mCall F_check_number (mACons (mC (.str "bad")) (mACons (mVar 3) (mACons (mC (.int 0)) (mACons (mVar 0) mANil))))))
  (mSeq (mSet 4 (mCall F_ways_to_pick (mACons (mVar 0) (mACons (mVar 1) mANil))))
  (mSeq (mSet 5 (mLcD (mComp [6] (mRng1 (m2 dAdd (mVar 2) (mC (.int 1)))) (mTN 6) mTrue e_odds_to_pass_1)))
  (mRet (mCall F_lowest (mACons (mCa fSum (mCons (mVar 5) mNil)) (mACons (mVar 4) mANil))))))))
def F_odds_to_pass : FD := runF 7 false m_odds_to_pass
theorem sc_odds_to_pass : FnScope ["boxes", "looked", "allowed", "bad", "whole", "rows", "seen"] ["boxes", "looked", "allowed", "bad"] (defScope (top 23)) := ⟨rfl, rfl, rfl, by decide +kernel, rfl, by decide +kernel, by decide +kernel⟩
theorem k_odds_to_pass {f : Addr} {fd : FuncData} (b : B K mg) (cf : CFacts K 6) (h_check_looked : Callee P w K mg base CX0 4 "check_looked" 4 F_check_looked) (h_check_number : Callee P w K mg base CX0 3 "check_number" 4 F_check_number) (h_lowest : Callee P w K mg base CX0 1 "lowest" 2 F_lowest) (h_ways_to_pick : Callee P w K mg base CX0 1 "ways_to_pick" 2 F_ways_to_pick) (F : FunD K "odds_to_pass" "odds_to_pass" (defArgs (top 23)) (defBody (top 23)) (defScope (top 23)) [] [] f fd) : FnOk P w K mg base CX0 5 f fd ["boxes", "looked", "allowed", "bad"] (spF K 4 F_odds_to_pass) :=
  have hN : List.Nodup (α := Str) ["boxes", "looked", "allowed", "bad", "whole", "rows", "seen"] := sc_odds_to_pass.nd
  fn_ok F sc_odds_to_pass fun cdv A outer s H E hr =>
  (s_cons (s_expr (d_call h_check_looked hr p0 (as_cons (d_var 0) (as_cons (d_var 1) (as_cons (d_var 2) (as_cons d_int as_nil))))))
  (s_cons (s_expr (d_call h_check_number hr p0 (as_cons d_str (as_cons (d_var 3) (as_cons d_int (as_cons (d_var 0) as_nil))))))
  (s_cons (s_set 4 hN (d_call h_ways_to_pick hr p0 (as_cons (d_var 0) (as_cons (d_var 1) as_nil))))
  (s_cons (s_setLc 5 [("seen", 6)] rfl hN (blkOk_by (N := ["boxes", "looked", "allowed", "bad", "whole", "rows", "seen"]) (sc := defScope (top 23)) (by decide +kernel)) (by decide) (i_rng1 (d_add (d_var 2) d_int) b.range) (fun _ _ _ _ _ => (g_name 6 hN)) (fun _ _ _ _ _ => ts_nil) (fun _ _ _ _ _ => (d_mul (d_call h_ways_to_pick hr p0 (as_cons (d_var 3) (as_cons (d_var 6) as_nil))) (d_call h_ways_to_pick hr p0 (as_cons (d_sub (d_var 0) (d_var 3)) (as_cons (d_sub (d_var 1) (d_var 6)) as_nil))))))
  (s_one (s_ret (d_call h_lowest hr p0 (as_cons (d_callB (cr_sum rfl) ca_sum b.sum bt_sum (da_cons (d_var 5) da_nil)) (as_cons (d_var 4) as_nil)))))))))
theorem n_odds_to_pass {f : Addr} {fd : FuncData} (F : FunD K "odds_to_pass" "odds_to_pass" (defArgs (top 23)) (defBody (top 23)) (defScope (top 23)) [] [] f fd) : L2.Binds K fd ["boxes", "looked", "allowed", "bad"] [] :=
  F.bindsN fun _ _ _ _ _ _ us hl => match us, hl with | [_, _, _, _], _ => rfl
/-! _law_is_less -/
def m_law_is_less : M Fl := (mRet (m2 dLt (m2 dMul (m2 dIx (mVar 0) (mC (.int 0))) (m2 dIx (mVar 1) (mC (.int 1)))) (m2 dMul (m2 dIx (mVar 1) (mC (.int 0))) (m2 dIx (mVar 0) (mC (.int 1))))))
def F_law_is_less : FD := runF 2 false m_law_is_less
theorem sc_law_is_less : FnScope ["one", "other"] ["one", "other"] (defScope (top 61)) := ⟨rfl, rfl, rfl, by decide +kernel, rfl, by decide +kernel, by decide +kernel⟩
theorem k_law_is_less {f : Addr} {fd : FuncData} (b : B K mg) (cf : CFacts K 6) (F : FunD K "_law_is_less" "_law_is_less" (defArgs (top 61)) (defBody (top 61)) (defScope (top 61)) [] [] f fd) : FnOk P w K mg base CX0 1 f fd ["one", "other"] (spF K 2 F_law_is_less) :=
  have hN : List.Nodup (α := Str) ["one", "other"] := sc_law_is_less.nd
  fn_ok F sc_law_is_less fun cdv A outer s H E hr =>
  (s_one (s_ret (d_cmp1 c_lt (d_mul (d_item (d_var 0) d_int) (d_item (d_var 1) d_int)) (d_mul (d_item (d_var 1) d_int) (d_item (d_var 0) d_int)))))
theorem n_law_is_less {f : Addr} {fd : FuncData} (F : FunD K "_law_is_less" "_law_is_less" (defArgs (top 61)) (defBody (top 61)) (defScope (top 61)) [] [] f fd) : L2.Binds K fd ["one", "other"] [] :=
  F.bindsN fun _ _ _ _ _ _ us hl => match us, hl with | [_, _], _ => rfl
/-! least_looked -/
def t_least_looked_1 (ρ : DL.Env) : DL.Res Bool := (mTruO bs (mCall F_judge_check (mACons (mVar 0) (mACons (mVar 4) (mACons (mVar 1) (mACons (mVar 2) mANil)))))) ρ
def m_least_looked : M Fl := (mSeq (mDo (mCall F_check_number (mACons (mC (.str "boxes")) (mACons (mVar 0) (mACons (mC (.int 1)) (mACons (mC c_MOST_BOXES) mANil))))))
  (mSeq (mDo (mCall F_check_number (mACons (mC (.str "allowed")) (mACons (mVar 1) (mACons (mC (.int 0)) (mACons (mVar 0) mANil))))))
  (mSeq (mDo (mCall F_check_number (mACons (mC (.str "most")) (mACons (mVar 2) (mACons (mC (.int 0)) (mACons (mVar 0) mANil))))))
  (mSeq (mSet 3 (mLcD (mComp [4] (mRng2 (mVar 1) (m2 dAdd (mVar 0) (mC (.int 1)))) (mTN 4) t_least_looked_1 (mVar 4))))
  (mRet (mIfE (mTest (m2 dNe (mVar 3) (mLst mNil))) (m2 dIx (mVar 3) (mC (.int 0))) (mC .non)))))))
def F_least_looked : FD := runF 5 false m_least_looked
theorem sc_least_looked : FnScope ["boxes", "allowed", "most", "good", "looked"] ["boxes", "allowed", "most"] (defScope (top 21)) := ⟨rfl, rfl, rfl, by decide +kernel, rfl, by decide +kernel, by decide +kernel⟩
theorem k_least_looked {f : Addr} {fd : FuncData} (b : B K mg) (cf : CFacts K 6) (hbs : ∀ q ∈ bs, Booler P w K mg base CX0 1 q.1 q.2) (h_check_number : Callee P w K mg base CX0 3 "check_number" 4 F_check_number) (h_judge_check : Callee P w K mg base CX0 5 "judge_check" 4 F_judge_check) (F : FunD K "least_looked" "least_looked" (defArgs (top 21)) (defBody (top 21)) (defScope (top 21)) [] [] f fd) : FnOk P w K mg base CX0 6 f fd ["boxes", "allowed", "most"] (spF K 3 F_least_looked) :=
  have hN : List.Nodup (α := Str) ["boxes", "allowed", "most", "good", "looked"] := sc_least_looked.nd
  fn_ok F sc_least_looked fun cdv A outer s H E hr =>
  (s_cons (s_expr (d_call h_check_number hr p0 (as_cons d_str (as_cons (d_var 0) (as_cons d_int (as_cons (d_glob (by rfl) b.c_MOST_BOXES.choose_spec.1 b.c_MOST_BOXES.choose_spec.2.1 b.c_MOST_BOXES.choose_spec.2.2) as_nil))))))
  (s_cons (s_expr (d_call h_check_number hr p0 (as_cons d_str (as_cons (d_var 1) (as_cons d_int (as_cons (d_var 0) as_nil))))))
  (s_cons (s_expr (d_call h_check_number hr p0 (as_cons d_str (as_cons (d_var 2) (as_cons d_int (as_cons (d_var 0) as_nil))))))
  (s_cons (s_setLc 3 [("looked", 4)] rfl hN (blkOk_by (N := ["boxes", "allowed", "most", "good", "looked"]) (sc := defScope (top 21)) (by decide +kernel)) (by decide) (i_rng2 (d_var 1) (d_add (d_var 0) d_int) b.range) (fun _ _ _ _ _ => (g_name 4 hN)) (fun _ _ _ _ _ => (ts_one (dt_truO bs hbs p0 hr (d_call h_judge_check hr p0 (as_cons (d_var 0) (as_cons (d_var 4) (as_cons (d_var 1) (as_cons (d_var 2) as_nil)))))))) (fun _ _ _ _ _ => (d_var 4)))
  (s_one (s_ret (d_ifexp (dt_cmp1 (c_ne hr) (d_var 3) (d_list da_nil)) (d_item (d_var 3) d_int) d_non)))))))
theorem n_least_looked {f : Addr} {fd : FuncData} (F : FunD K "least_looked" "least_looked" (defArgs (top 21)) (defBody (top 21)) (defScope (top 21)) [] [] f fd) : L2.Binds K fd ["boxes", "allowed", "most"] [] :=
  F.bindsN fun _ _ _ _ _ _ us hl => match us, hl with | [_, _, _], _ => rfl
/-! check_fraction -/
def e_check_fraction_1 (ρ : DL.Env) : DL.Res D := (mCall F_is_integer (mACons (mVar 1) mANil)) ρ
def m_check_fraction : M Fl := (mSeq (mIf (mOrT (mNotT (mTru (mIs (isTy .tuple) (mVar 0)))) (mOrT (mTest (m2 dNe (mCa fLen (mCons (mVar 0) mNil)) (mC (.int 2)))) (mNotT (mTru (mCa fAll (mCons (mLcD (mComp [1] (mItLT (mVar 0)) (mTN 1) mTrue e_check_fraction_1)) mNil)))))) mNever
  mSkip)
  (mIf (mOrT (mTest (m2 dLt (m2 dIx (mVar 0) (mC (.int 0))) (mC (.int 0)))) (mOrT (mTest (m2 dLt (m2 dIx (mVar 0) (mC (.int 1))) (mC (.int 1)))) (mTest (m2 dGt (m2 dIx (mVar 0) (mC (.int 0))) (m2 dIx (mVar 0) (mC (.int 1))))))) mNever
  mSkip))
def F_check_fraction : FD := runF 2 false m_check_fraction
theorem sc_check_fraction : FnScope ["fraction", "one"] ["fraction"] (defScope (top 24)) := ⟨rfl, rfl, rfl, by decide +kernel, rfl, by decide +kernel, by decide +kernel⟩
theorem k_check_fraction {f : Addr} {fd : FuncData} (b : B K mg) (cf : CFacts K 6) (h_is_integer : Callee P w K mg base CX0 1 "is_integer" 1 F_is_integer) (F : FunD K "check_fraction" "check_fraction" (defArgs (top 24)) (defBody (top 24)) (defScope (top 24)) [] [] f fd) : FnOk P w K mg base CX0 2 f fd ["fraction"] (spF K 1 F_check_fraction) :=
  have hN : List.Nodup (α := Str) ["fraction", "one"] := sc_check_fraction.nd
  fn_ok F sc_check_fraction fun cdv A outer s H E hr =>
  (s_cons (s_if (dw_or (dt_not (dt_tru (d_isTy .tuple (d_var 0) b.isinstance b.t_tuple bt_tuple))) (dw_or (dt_cmp1 (c_ne hr) (d_callB call_lenA ca_len b.len bt_len (da_cons (d_var 0) da_nil)) d_int) (dw_or1 (dt_not (dt_tru (d_callB (cr_all rfl) ca_all b.all bt_all (da_cons (d_lc [("one", 1)] rfl hN (blkOk_by (N := ["fraction", "one"]) (sc := defScope (top 24)) (by decide +kernel)) (by decide) (i_seq (d_var 0)) (fun _ _ _ _ _ => (g_name 1 hN)) (fun _ _ _ _ _ => ts_nil) (fun _ _ _ _ _ => (d_call h_is_integer hr p0 (as_cons (d_var 1) as_nil)))) da_nil))))))).pt (s_one s_never)
  s_nil)
  (s_one (s_if (dw_or (dt_cmp1 c_lt (d_item (d_var 0) d_int) d_int) (dw_or (dt_cmp1 c_lt (d_item (d_var 0) d_int) d_int) (dw_or1 (dt_cmp1 c_gt (d_item (d_var 0) d_int) (d_item (d_var 0) d_int))))).pt (s_one s_never)
  s_nil)))
theorem n_check_fraction {f : Addr} {fd : FuncData} (F : FunD K "check_fraction" "check_fraction" (defArgs (top 24)) (defBody (top 24)) (defScope (top 24)) [] [] f fd) : L2.Binds K fd ["fraction"] [] :=
  F.bindsN fun _ _ _ _ _ _ us hl => match us, hl with | [_], _ => rfl
/-! least_for -/
def b_least_for_1 (ρ : DL.Env) : DL.Res Fl := (mSeq (mAsg (mTT (mTCons (mTN 5) (mTCons (mTN 6) mTNil))) (mCall F_odds_to_pass (mACons (mVar 0) (mACons (mVar 4) (mACons (mVar 1) (mACons (mVar 2) mANil))))))
  (mIf (mTest (m2 dLe (m2 dMul (mVar 5) (m2 dIx (mVar 3) (mC (.int 1)))) (m2 dMul (m2 dIx (mVar 3) (mC (.int 0))) (mVar 6)))) (mRet (mVar 4))
  mSkip)) ρ
def m_least_for : M Fl := (mSeq (mDo (mCall F_check_fraction (mACons (mVar 3) mANil)))
  (mSeq (mDo (mCall F_check_number (mACons (mC (.str "boxes")) (mACons (mVar 0) (mACons (mC (.int 1)) (mACons (mC c_MOST_BOXES) mANil))))))
  (mSeq (mDo (mCall F_check_number (mACons (mC (.str "allowed")) (mACons (mVar 1) (mACons (mC (.int 0)) (mACons (mVar 0) mANil))))))
  (mSeq (mDo (mCall F_check_number (mACons (mC (.str "bad")) (mACons (mVar 2) (mACons (mC (.int 0)) (mACons (mVar 0) mANil))))))
  (mSeq (mFor (mRng2 (mVar 1) (m2 dAdd (mVar 0) (mC (.int 1)))) (mTN 4) b_least_for_1)
  (mRet (mC .non)))))))
def F_least_for : FD := runF 7 false m_least_for
theorem sc_least_for : FnScope ["boxes", "allowed", "bad", "fraction", "looked", "above", "below"] ["boxes", "allowed", "bad", "fraction"] (defScope (top 25)) := ⟨rfl, rfl, rfl, by decide +kernel, rfl, by decide +kernel, by decide +kernel⟩
theorem k_least_for {f : Addr} {fd : FuncData} (b : B K mg) (cf : CFacts K 6) (h_check_fraction : Callee P w K mg base CX0 2 "check_fraction" 1 F_check_fraction) (h_check_number : Callee P w K mg base CX0 3 "check_number" 4 F_check_number) (h_odds_to_pass : Callee P w K mg base CX0 5 "odds_to_pass" 4 F_odds_to_pass) (F : FunD K "least_for" "least_for" (defArgs (top 25)) (defBody (top 25)) (defScope (top 25)) [] [] f fd) : FnOk P w K mg base CX0 6 f fd ["boxes", "allowed", "bad", "fraction"] (spF K 4 F_least_for) :=
  have hN : List.Nodup (α := Str) ["boxes", "allowed", "bad", "fraction", "looked", "above", "below"] := sc_least_for.nd
  fn_ok F sc_least_for fun cdv A outer s H E hr =>
  (s_cons (s_expr (d_call h_check_fraction hr p0 (as_cons (d_var 3) as_nil)))
  (s_cons (s_expr (d_call h_check_number hr p0 (as_cons d_str (as_cons (d_var 0) (as_cons d_int (as_cons (d_glob (by rfl) b.c_MOST_BOXES.choose_spec.1 b.c_MOST_BOXES.choose_spec.2.1 b.c_MOST_BOXES.choose_spec.2.2) as_nil))))))
  (s_cons (s_expr (d_call h_check_number hr p0 (as_cons d_str (as_cons (d_var 1) (as_cons d_int (as_cons (d_var 0) as_nil))))))
  (s_cons (s_expr (d_call h_check_number hr p0 (as_cons d_str (as_cons (d_var 2) (as_cons d_int (as_cons (d_var 0) as_nil))))))
  (s_cons (s_for PassesOwn.never rfl (i_rng2 (d_var 1) (d_add (d_var 0) d_int) b.range) (g_name 4 hN) (s_cons (s_asg (d_call h_odds_to_pass hr p0 (as_cons (d_var 0) (as_cons (d_var 4) (as_cons (d_var 1) (as_cons (d_var 2) as_nil))))) (g_tup rfl (gs_cons (g_name 5 hN) (gs_cons (g_name 6 hN) gs_nil))))
  (s_one (s_if (dt_cmp1 c_le (d_mul (d_var 5) (d_item (d_var 3) d_int)) (d_mul (d_item (d_var 3) d_int) (d_var 6))) (s_one (s_ret (d_var 4)))
  s_nil))))
  (s_one (s_ret d_non)))))))
theorem n_least_for {f : Addr} {fd : FuncData} (F : FunD K "least_for" "least_for" (defArgs (top 25)) (defBody (top 25)) (defScope (top 25)) [] [] f fd) : L2.Binds K fd ["boxes", "allowed", "bad", "fraction"] [] :=
  F.bindsN fun _ _ _ _ _ _ us hl => match us, hl with | [_, _, _, _], _ => rfl
/-! _law_pick -/
def m_law_pick : M Fl := (mRet (m2 dIx (mVar 1) (mCall F_law_take (mASlot 0 (mACons (mCa fLen (mCons (mVar 1) mNil)) mANil)))))
def F_law_pick : FD := runF 2 false m_law_pick
theorem sc_law_pick : FnScope ["draw", "items"] ["draw", "items"] (defScope (top 58)) := ⟨rfl, rfl, rfl, by decide +kernel, rfl, by decide +kernel, by decide +kernel⟩
theorem k_law_pick {f : Addr} {fd : FuncData} (b : B K mg) (cf : CFacts K 6) (h_law_take : Callee P w K mg base CX0 2 "_law_take" 2 F_law_take) (F : FunD K "_law_pick" "_law_pick" (defArgs (top 58)) (defBody (top 58)) (defScope (top 58)) [] [] f fd) : FnOk P w K mg base CX0 3 f fd ["draw", "items"] (spF K 2 F_law_pick) :=
  have hN : List.Nodup (α := Str) ["draw", "items"] := sc_law_pick.nd
  fn_ok F sc_law_pick fun cdv A outer s H E hr =>
  (s_one (s_ret (d_item (d_var 1) (d_call h_law_take hr p0 (as_slot 0 (as_cons (d_callB call_lenA ca_len b.len bt_len (da_cons (d_var 1) da_nil)) as_nil))))))
theorem n_law_pick {f : Addr} {fd : FuncData} (F : FunD K "_law_pick" "_law_pick" (defArgs (top 58)) (defBody (top 58)) (defScope (top 58)) [] [] f fd) : L2.Binds K fd ["draw", "items"] [] :=
  F.bindsN fun _ _ _ _ _ _ us hl => match us, hl with | [_, _], _ => rfl
/-! _law_letter -/
def t_law_letter_1 (ρ : DL.Env) : DL.Res Bool := (mTest (m2 dGt (mCall F_law_take (mASlot 0 (mACons (mC (.int 3)) mANil))) (mC (.int 0)))) ρ
def t_law_letter_2 (ρ : DL.Env) : DL.Res Bool := (mTest (m2 dEq (mCall F_law_take (mASlot 0 (mACons (mC (.int 3)) mANil))) (mC (.int 0)))) ρ
def m_law_letter : M Fl := (mSeq (mSet 1 (mCall F_law_pick (mASlot 0 (mACons (mLst (mCons (mLst (mCons (mC (.str "ann")) (mCons (mC (.str "bob")) (mCons (mC (.str "cy")) (mCons (mC (.str "dan")) mNil))))) (mCons (mLst (mCons (mC (.str "b2")) (mCons (mC (.str "zed")) (mCons (mC (.str "ann")) (mCons (mC (.str "x")) mNil))))) mNil))) mANil))))
  (mSeq (mSet 2 (mLcD (mComp [5] (mItLT (mTup (mCons (mC (.str "bill")) (mCons (mC (.str "bought")) (mCons (mC (.str "check")) (mCons (mC (.str "cover")) (mCons (mC (.str "draft")) mNil))))))) (mTN 5) t_law_letter_1 (mVar 5))))
  (mSeq (mSet 3 (mLcD (mComp [6] (mItLT (mTup (mCons (mC (.str "clean")) (mCons (mC (.str "full")) (mCons (mC (.str "asked")) (mCons (mC (.str "part")) (mCons (mC (.str "about")) mNil))))))) (mTN 6) t_law_letter_2 (mVar 6))))
  (mSeq (mSet 4 (mLst (mCons (m2 dAdd (mC (.int 10)) (mCall F_law_take (mASlot 0 (mACons (mC (.int 20)) mANil)))) (mCons (m2 dAdd (mC (.int 20)) (mCall F_law_take (mASlot 0 (mACons (mC (.int 20)) mANil)))) (mCons (mCall F_law_take (mASlot 0 (mACons (mC (.int 20)) mANil))) mNil)))))
  (mRet (mDisp [((mC (.str "hands")), (mVar 1)), ((mC (.str "goods")), (mCall F_law_pick (mASlot 0 (mACons (mLst (mCons (mC (.str "tea")) (mCons (mC (.str "salt")) mNil))) mANil)))), ((mC (.str "amount")), (m2 dAdd (mC (.int 1)) (mCall F_law_take (mASlot 0 (mACons (mC (.int 40)) mANil))))), ((mC (.str "most")), (m2 dAdd (mC (.int 1)) (mCall F_law_take (mASlot 0 (mACons (mC (.int 500)) mANil))))), ((mC (.str "days")), (mVar 4)), ((mC (.str "wants")), (mVar 2)), ((mC (.str "rules")), (mVar 3))]))))))
def F_law_letter : FD := runF 7 false m_law_letter
theorem sc_law_letter : FnScope ["draw", "hands", "wants", "rules", "days", "kind", "rule"] ["draw"] (defScope (top 59)) := ⟨rfl, rfl, rfl, by decide +kernel, rfl, by decide +kernel, by decide +kernel⟩
theorem k_law_letter {f : Addr} {fd : FuncData} (b : B K mg) (cf : CFacts K 6) (h_law_pick : Callee P w K mg base CX0 3 "_law_pick" 2 F_law_pick) (h_law_take : Callee P w K mg base CX0 2 "_law_take" 2 F_law_take) (F : FunD K "_law_letter" "_law_letter" (defArgs (top 59)) (defBody (top 59)) (defScope (top 59)) [] [] f fd) : FnOk P w K mg base CX0 4 f fd ["draw"] (spF K 1 F_law_letter) :=
  have hN : List.Nodup (α := Str) ["draw", "hands", "wants", "rules", "days", "kind", "rule"] := sc_law_letter.nd
  fn_ok F sc_law_letter fun cdv A outer s H E hr =>
  (s_cons (s_set 1 hN (d_call h_law_pick hr p0 (as_slot 0 (as_cons (d_list (da_cons (d_list (da_cons d_str (da_cons d_str (da_cons d_str (da_cons d_str da_nil))))) (da_cons (d_list (da_cons d_str (da_cons d_str (da_cons d_str (da_cons d_str da_nil))))) da_nil))) as_nil))))
  (s_cons (s_setLc 2 [("kind", 5)] rfl hN (blkOk_by (N := ["draw", "hands", "wants", "rules", "days", "kind", "rule"]) (sc := defScope (top 59)) (by decide +kernel)) (by decide) (i_seq (d_tuple (da_cons d_str (da_cons d_str (da_cons d_str (da_cons d_str (da_cons d_str da_nil))))))) (fun _ _ _ _ _ => (g_name 5 hN)) (fun _ _ _ _ _ => (ts_one (dt_cmp1 c_gt (d_call h_law_take hr p0 (as_slot 0 (as_cons d_int as_nil))) d_int))) (fun _ _ _ _ _ => (d_var 5)))
  (s_cons (s_setLc 3 [("rule", 6)] rfl hN (blkOk_by (N := ["draw", "hands", "wants", "rules", "days", "kind", "rule"]) (sc := defScope (top 59)) (by decide +kernel)) (by decide) (i_seq (d_tuple (da_cons d_str (da_cons d_str (da_cons d_str (da_cons d_str (da_cons d_str da_nil))))))) (fun _ _ _ _ _ => (g_name 6 hN)) (fun _ _ _ _ _ => (ts_one (dt_cmp1 (c_eq hr) (d_call h_law_take hr p0 (as_slot 0 (as_cons d_int as_nil))) d_int))) (fun _ _ _ _ _ => (d_var 6)))
  (s_cons (s_set 4 hN (d_list (da_cons (d_add d_int (d_call h_law_take hr p0 (as_slot 0 (as_cons d_int as_nil)))) (da_cons (d_add d_int (d_call h_law_take hr p0 (as_slot 0 (as_cons d_int as_nil)))) (da_cons (d_call h_law_take hr p0 (as_slot 0 (as_cons d_int as_nil))) da_nil)))))
  (s_one (s_ret (d_disp [((mC (.str "hands")), (mVar 1)), ((mC (.str "goods")), (mCall F_law_pick (mASlot 0 (mACons (mLst (mCons (mC (.str "tea")) (mCons (mC (.str "salt")) mNil))) mANil)))), ((mC (.str "amount")), (m2 dAdd (mC (.int 1)) (mCall F_law_take (mASlot 0 (mACons (mC (.int 40)) mANil))))), ((mC (.str "most")), (m2 dAdd (mC (.int 1)) (mCall F_law_take (mASlot 0 (mACons (mC (.int 500)) mANil))))), ((mC (.str "days")), (mVar 4)), ((mC (.str "wants")), (mVar 2)), ((mC (.str "rules")), (mVar 3))] (pps_cons d_str (d_var 1) (pps_cons d_str (d_call h_law_pick hr p0 (as_slot 0 (as_cons (d_list (da_cons d_str (da_cons d_str da_nil))) as_nil))) (pps_cons d_str (d_add d_int (d_call h_law_take hr p0 (as_slot 0 (as_cons d_int as_nil)))) (pps_cons d_str (d_add d_int (d_call h_law_take hr p0 (as_slot 0 (as_cons d_int as_nil)))) (pps_cons d_str (d_var 4) (pps_cons d_str (d_var 2) (pps_cons d_str (d_var 3) pps_nil))))))))))))))
theorem n_law_letter {f : Addr} {fd : FuncData} (F : FunD K "_law_letter" "_law_letter" (defArgs (top 59)) (defBody (top 59)) (defScope (top 59)) [] [] f fd) : L2.Binds K fd ["draw"] [] :=
  F.bindsN fun _ _ _ _ _ _ us hl => match us, hl with | [_], _ => rfl
/-! is_row -/
def m_is_row : M Fl := (mRet (mIs (isTys [.list, .tuple]) (mVar 0)))
def F_is_row : FD := runF 1 false m_is_row
theorem sc_is_row : FnScope ["thing"] ["thing"] (defScope (top 13)) := ⟨rfl, rfl, rfl, by decide +kernel, rfl, by decide +kernel, by decide +kernel⟩
theorem k_is_row {f : Addr} {fd : FuncData} (b : B K mg) (cf : CFacts K 6) (F : FunD K "is_row" "is_row" (defArgs (top 13)) (defBody (top 13)) (defScope (top 13)) [] [] f fd) : FnOk P w K mg base CX0 1 f fd ["thing"] (spF K 1 F_is_row) :=
  have hN : List.Nodup (α := Str) ["thing"] := sc_is_row.nd
  fn_ok F sc_is_row fun cdv A outer s H E hr =>
  (s_one (s_ret (d_isTys2 .list .tuple (d_var 0) b.isinstance b.t_list b.t_tuple bt_list bt_tuple)))
theorem n_is_row {f : Addr} {fd : FuncData} (F : FunD K "is_row" "is_row" (defArgs (top 13)) (defBody (top 13)) (defScope (top 13)) [] [] f fd) : L2.Binds K fd ["thing"] [] :=
  F.bindsN fun _ _ _ _ _ _ us hl => match us, hl with | [_], _ => rfl
/-! is_name -/
def e_is_name_1 (ρ : DL.Env) : DL.Res D := (m2 dIn (mVar 1) (m2 dAdd (mC c_SMALL) (mC c_FIGURES))) ρ
def m_is_name : M Fl := (mSeq (mIf (mOrT (mNotT (mTru (mIs (isTy .str) (mVar 0)))) (mOrT (mNotT (mTest (mChain dLe dLe (mC (.int 1)) (mCa fLen (mCons (mVar 0) mNil)) (mC (.int 8))))) (mTest (m2 dNotIn (m2 dIx (mVar 0) (mC (.int 0))) (mC c_SMALL))))) (mRet (mC (.bl false)))
  mSkip)
  (mRet (mCa fAll (mCons (mLcD (mComp [1] (mItS (mVar 0)) (mTN 1) mTrue e_is_name_1)) mNil))))
def F_is_name : FD := runF 2 false m_is_name
theorem sc_is_name : FnScope ["thing", "sign"] ["thing"] (defScope (top 11)) := ⟨rfl, rfl, rfl, by decide +kernel, rfl, by decide +kernel, by decide +kernel⟩
theorem k_is_name {f : Addr} {fd : FuncData} (b : B K mg) (cf : CFacts K 6) (F : FunD K "is_name" "is_name" (defArgs (top 11)) (defBody (top 11)) (defScope (top 11)) [] [] f fd) : FnOk P w K mg base CX0 1 f fd ["thing"] (spF K 1 F_is_name) :=
  have hN : List.Nodup (α := Str) ["thing", "sign"] := sc_is_name.nd
  fn_ok F sc_is_name fun cdv A outer s H E hr =>
  (s_cons (s_if (dw_or (dt_not (dt_tru (d_isTy .str (d_var 0) b.isinstance b.t_str bt_str))) (dw_or (dt_not (dt_chain c_le c_le d_int (d_callB call_lenA ca_len b.len bt_len (da_cons (d_var 0) da_nil)) d_int)) (dw_or1 (dt_cmp1 (c_notin hr) (d_item (d_var 0) d_int) (d_glob (by rfl) b.c_SMALL.choose_spec.1 b.c_SMALL.choose_spec.2.1 b.c_SMALL.choose_spec.2.2))))).pt (s_one (s_ret d_bl))
  s_nil)
  (s_one (s_ret (d_callB (cr_all rfl) ca_all b.all bt_all (da_cons (d_lc [("sign", 1)] rfl hN (blkOk_by (N := ["thing", "sign"]) (sc := defScope (top 11)) (by decide +kernel)) (by decide) (i_str (d_var 0)) (fun _ _ _ _ _ => (g_name 1 hN)) (fun _ _ _ _ _ => ts_nil) (fun _ _ _ _ _ => (d_cmp1 (c_in hr) (d_var 1) (d_add (d_glob (by rfl) b.c_SMALL.choose_spec.1 b.c_SMALL.choose_spec.2.1 b.c_SMALL.choose_spec.2.2) (d_glob (by rfl) b.c_FIGURES.choose_spec.1 b.c_FIGURES.choose_spec.2.1 b.c_FIGURES.choose_spec.2.2))))) da_nil)))))
theorem n_is_name {f : Addr} {fd : FuncData} (F : FunD K "is_name" "is_name" (defArgs (top 11)) (defBody (top 11)) (defScope (top 11)) [] [] f fd) : L2.Binds K fd ["thing"] [] :=
  F.bindsN fun _ _ _ _ _ _ us hl => match us, hl with | [_], _ => rfl
/-! check_name -/
def m_check_name : M Fl := (mIf (mNotT (mTru (mCall F_is_name (mACons (mVar 1) mANil)))) mNever
  mSkip)
def F_check_name : FD := runF 2 false m_check_name
theorem sc_check_name : FnScope ["part", "thing"] ["part", "thing"] (defScope (top 12)) := ⟨rfl, rfl, rfl, by decide +kernel, rfl, by decide +kernel, by decide +kernel⟩
theorem k_check_name {f : Addr} {fd : FuncData} (b : B K mg) (cf : CFacts K 6) (h_is_name : Callee P w K mg base CX0 1 "is_name" 1 F_is_name) (F : FunD K "check_name" "check_name" (defArgs (top 12)) (defBody (top 12)) (defScope (top 12)) [] [] f fd) : FnOk P w K mg base CX0 2 f fd ["part", "thing"] (spF K 2 F_check_name) :=
  have hN : List.Nodup (α := Str) ["part", "thing"] := sc_check_name.nd
  fn_ok F sc_check_name fun cdv A outer s H E hr =>
  (s_one (s_if (dt_not (dt_tru (d_call h_is_name hr p0 (as_cons (d_var 1) as_nil)))) (s_one s_never)
  s_nil))
theorem n_check_name {f : Addr} {fd : FuncData} (F : FunD K "check_name" "check_name" (defArgs (top 12)) (defBody (top 12)) (defScope (top 12)) [] [] f fd) : L2.Binds K fd ["part", "thing"] [] :=
  F.bindsN fun _ _ _ _ _ _ us hl => match us, hl with | [_, _], _ => rfl
/-! check_days_letters -/
def b_check_days_letters_1 (ρ : DL.Env) : DL.Res Fl := (mDo (mCall F_check_number (mACons (mC (.str "days")) (mACons (mVar 2) (mACons (mC (.int 0)) (mACons (mC (.int 999)) mANil)))))) ρ
def m_check_days_letters : M Fl := (mSeq (mIf (mOrT (mNotT (mTru (mCall F_is_row (mACons (mVar 0) mANil)))) (mTest (m2 dNe (mCa fLen (mCons (mVar 0) mNil)) (mC (.int 3))))) mNever
  mSkip)
  (mFor (mEnumX (mVar 0)) (mTT (mTCons (mTN 1) (mTCons (mTN 2) mTNil))) b_check_days_letters_1))
def F_check_days_letters : FD := runF 3 false m_check_days_letters
theorem sc_check_days_letters : FnScope ["days", "place", "day"] ["days"] (defScope (top 32)) := ⟨rfl, rfl, rfl, by decide +kernel, rfl, by decide +kernel, by decide +kernel⟩
theorem k_check_days_letters {f : Addr} {fd : FuncData} (b : B K mg) (cf : CFacts K 6) (h_check_number : Callee P w K mg base CX0 3 "check_number" 4 F_check_number) (h_is_row : Callee P w K mg base CX0 1 "is_row" 1 F_is_row) (F : FunD K "check_days" "check_days" (defArgs (top 32)) (defBody (top 32)) (defScope (top 32)) [] [] f fd) : FnOk P w K mg base CX0 4 f fd ["days"] (spF K 1 F_check_days_letters) :=
  have hN : List.Nodup (α := Str) ["days", "place", "day"] := sc_check_days_letters.nd
  fn_ok F sc_check_days_letters fun cdv A outer s H E hr =>
  (s_cons (s_if (dw_or (dt_not (dt_tru (d_call h_is_row hr p0 (as_cons (d_var 0) as_nil)))) (dw_or1 (dt_cmp1 (c_ne hr) (d_callB call_lenA ca_len b.len bt_len (da_cons (d_var 0) da_nil)) d_int))).pt (s_one s_never)
  s_nil)
  (s_one (s_for PassesOwn.never rfl (i_enumX (d_var 0) b.enumerate) (g_tup rfl (gs_cons (g_name 1 hN) (gs_cons (g_name 2 hN) gs_nil))) (s_one (s_tryN (fun _ _ z => z) (s_one (s_expr (d_call h_check_number hr p0 (as_cons d_str (as_cons (d_var 2) (as_cons d_int (as_cons d_int as_nil))))))))))))
theorem n_check_days_letters {f : Addr} {fd : FuncData} (F : FunD K "check_days" "check_days" (defArgs (top 32)) (defBody (top 32)) (defScope (top 32)) [] [] f fd) : L2.Binds K fd ["days"] [] :=
  F.bindsN fun _ _ _ _ _ _ us hl => match us, hl with | [_], _ => rfl
/-! known_row -/
def b_known_row_1 (ρ : DL.Env) : DL.Res Fl := (mIf (mOrT (mNotT (mTru (mIs (isTy .str) (mVar 4)))) (mOrT (mTest (m2 dNotIn (mVar 4) (mVar 2))) (mTest (m2 dIn (mVar 4) (mSl (mCa fLst (mCons (mVar 1) mNil)) none (some (mVar 3))))))) mNever
  mSkip) ρ
def t_known_row_1 (ρ : DL.Env) : DL.Res Bool := (mTest (m2 dIn (mVar 4) (mVar 1))) ρ
def m_known_row : M Fl := (mSeq (mIf (mNotT (mTru (mCall F_is_row (mACons (mVar 1) mANil)))) mNever
  mSkip)
  (mSeq (mFor (mEnumX (mVar 1)) (mTT (mTCons (mTN 3) (mTCons (mTN 4) mTNil))) b_known_row_1)
  (mRet (mCa fTup (mCons (mLcD (mComp [4] (mItLT (mVar 2)) (mTN 4) t_known_row_1 (mVar 4))) mNil)))))
def F_known_row : FD := runF 5 false m_known_row
theorem sc_known_row : FnScope ["part", "things", "known", "place", "thing"] ["part", "things", "known"] (defScope (top 34)) := ⟨rfl, rfl, rfl, by decide +kernel, rfl, by decide +kernel, by decide +kernel⟩
theorem k_known_row {f : Addr} {fd : FuncData} (b : B K mg) (cf : CFacts K 6) (h_is_row : Callee P w K mg base CX0 1 "is_row" 1 F_is_row) (F : FunD K "known_row" "known_row" (defArgs (top 34)) (defBody (top 34)) (defScope (top 34)) [] [] f fd) : FnOk P w K mg base CX0 2 f fd ["part", "things", "known"] (spF K 3 F_known_row) :=
  have hN : List.Nodup (α := Str) ["part", "things", "known", "place", "thing"] := sc_known_row.nd
  fn_ok F sc_known_row fun cdv A outer s H E hr =>
  (s_cons (s_if (dt_not (dt_tru (d_call h_is_row hr p0 (as_cons (d_var 1) as_nil)))) (s_one s_never)
  s_nil)
  (s_cons (s_for PassesOwn.never rfl (i_enumX (d_var 1) b.enumerate) (g_tup rfl (gs_cons (g_name 3 hN) (gs_cons (g_name 4 hN) gs_nil))) (s_one (s_if (dw_or (dt_not (dt_tru (d_isTy .str (d_var 4) b.isinstance b.t_str bt_str))) (dw_or (dt_cmp1 (c_notin hr) (d_var 4) (d_var 2)) (dw_or1 (dt_cmp1 (c_in hr) (d_var 4) (d_slice (d_callTy call_list_of ca_lst b.t_list bt_list (da_cons (d_var 1) da_nil)) do_none (do_some (d_var 3))))))).pt (s_one s_never)
  s_nil)))
  (s_one (s_ret (d_callTy call_tuple_of ca_tup b.t_tuple bt_tuple (da_cons (d_lc [("thing", 4)] rfl hN (blkOk_by (N := ["part", "things", "known", "place", "thing"]) (sc := defScope (top 34)) (by decide +kernel)) (by decide) (i_seq (d_var 2)) (fun _ _ _ _ _ => (g_name 4 hN)) (fun _ _ _ _ _ => (ts_one (dt_cmp1 (c_in hr) (d_var 4) (d_var 1)))) (fun _ _ _ _ _ => (d_var 4))) da_nil))))))
theorem n_known_row {f : Addr} {fd : FuncData} (F : FunD K "known_row" "known_row" (defArgs (top 34)) (defBody (top 34)) (defScope (top 34)) [] [] f fd) : L2.Binds K fd ["part", "things", "known"] [] :=
  F.bindsN fun _ _ _ _ _ _ us hl => match us, hl with | [_, _, _], _ => rfl
/-! Letter.__init__ -/
def b_Letter_init_1 (ρ : DL.Env) : DL.Res Fl := (mSeq (mIf (mTest (m2 dIn (mVar 9) (mSl (mCa fLst (mCons (mVar 1) mNil)) none (some (mVar 8))))) mNever
  mSkip)
  (mDo (mCall F_check_name (mACons (mC (.str "hands")) (mACons (mVar 9) mANil))))) ρ
def m_Letter_init : M Fl := (mSeq (mIf (mOrT (mNotT (mTru (mCall F_is_row (mACons (mVar 1) mANil)))) (mTest (m2 dNe (mCa fLen (mCons (mVar 1) mNil)) (mC (.int 4))))) mNever
  mSkip)
  (mSeq (mFor (mEnumX (mVar 1)) (mTT (mTCons (mTN 8) (mTCons (mTN 9) mTNil))) b_Letter_init_1)
  (mSeq (mDo (mCall F_check_name (mACons (mC (.str "goods")) (mACons (mVar 2) mANil))))
  (mSeq (mDo (mCall F_check_number (mACons (mC (.str "amount")) (mACons (mVar 3) (mACons (mC (.int 1)) (mACons (mC (.int 900)) mANil))))))
  (mSeq (mDo (mCall F_check_number (mACons (mC (.str "most")) (mACons (mVar 4) (mACons (mC (.int 1)) (mACons (mC (.int 9000)) mANil))))))
  (mSeq (mDo (mCall F_check_days_letters (mACons (mVar 5) mANil)))
  (mSeq (mFld 0 2 0 (mCa fTup (mCons (mVar 1) mNil)))
  (mSeq (mAsgX (mXF 0 2 1 (mXF 0 2 2 (mXF 0 2 3 (mXF 0 2 4 mTNil)))) (mOwnFld 0 [(2, 0)]))
  (mSeq (mFld 0 2 5 (mVar 2))
  (mSeq (mFld 0 2 6 (mVar 3))
  (mSeq (mFld 0 2 7 (mVar 4))
  (mSeq (mFld 0 2 8 (mCa fTup (mCons (mVar 5) mNil)))
  (mSeq (mAsgX (mXF 0 2 9 (mXF 0 2 10 (mXF 0 2 11 mTNil))) (mOwnFld 0 [(2, 8)]))
  (mSeq (mFld 0 2 12 (mCall F_known_row (mACons (mC (.str "wants")) (mACons (mVar 6) (mACons (mC c_KINDS) mANil)))))
  (mFld 0 2 13 (mCall F_known_row (mACons (mC (.str "rules")) (mACons (mVar 7) (mACons (mC c_RULES) mANil)))))))))))))))))))
def F_Letter_init : FD := runF 10 false m_Letter_init
theorem sc_Letter_init : FnScope ["self", "hands", "goods", "amount", "most", "days", "wants", "rules", "place", "hand"] ["self", "hands", "goods", "amount", "most", "days", "wants", "rules"] (defScope (inClass (top 30) 0)) := ⟨rfl, rfl, rfl, by decide +kernel, rfl, by decide +kernel, by decide +kernel⟩
theorem k_Letter_init {f : Addr} {fd : FuncData} (b : B K mg) (cf : CFacts K 6) (h_check_days_letters : Callee P w K mg base CX0 4 "check_days_letters" 1 F_check_days_letters) (h_check_name : Callee P w K mg base CX0 2 "check_name" 2 F_check_name) (h_check_number : Callee P w K mg base CX0 3 "check_number" 4 F_check_number) (h_is_row : Callee P w K mg base CX0 1 "is_row" 1 F_is_row) (h_known_row : Callee P w K mg base CX0 2 "known_row" 3 F_known_row) (F : FunD K "__init__" "Letter.__init__" (defArgs (inClass (top 30) 0)) (defBody (inClass (top 30) 0)) (defScope (inClass (top 30) 0)) [] [] f fd) : FnOk P w K mg base CX0 5 f fd ["self", "hands", "goods", "amount", "most", "days", "wants", "rules"] (spF K 8 F_Letter_init) :=
  have hN : List.Nodup (α := Str) ["self", "hands", "goods", "amount", "most", "days", "wants", "rules", "place", "hand"] := sc_Letter_init.nd
  fn_ok F sc_Letter_init fun cdv A outer s H E hr =>
  (s_cons (s_if (dw_or (dt_not (dt_tru (d_call h_is_row hr p0 (as_cons (d_var 1) as_nil)))) (dw_or1 (dt_cmp1 (c_ne hr) (d_callB call_lenA ca_len b.len bt_len (da_cons (d_var 1) da_nil)) d_int))).pt (s_one s_never)
  s_nil)
  (s_cons (s_for PassesOwn.never rfl (i_enumX (d_var 1) b.enumerate) (g_tup rfl (gs_cons (g_name 8 hN) (gs_cons (g_name 9 hN) gs_nil))) (s_cons (s_if (dt_cmp1 (c_in hr) (d_var 9) (d_slice (d_callTy call_list_of ca_lst b.t_list bt_list (da_cons (d_var 1) da_nil)) do_none (do_some (d_var 8)))) (s_one s_never)
  s_nil)
  (s_one (s_tryN (fun _ _ z => z) (s_one (s_expr (d_call h_check_name hr p0 (as_cons d_str (as_cons (d_var 9) as_nil)))))))))
  (s_cons (s_expr (d_call h_check_name hr p0 (as_cons d_str (as_cons (d_var 2) as_nil))))
  (s_cons (s_expr (d_call h_check_number hr p0 (as_cons d_str (as_cons (d_var 3) (as_cons d_int (as_cons d_int as_nil))))))
  (s_cons (s_expr (d_call h_check_number hr p0 (as_cons d_str (as_cons (d_var 4) (as_cons d_int (as_cons d_int as_nil))))))
  (s_cons (s_expr (d_call h_check_days_letters hr p0 (as_cons (d_var 5) as_nil)))
  (s_cons (s_fld cf 0 2 0 (by decide) rfl (by decide) (d_callTy call_tuple_of ca_tup b.t_tuple bt_tuple (da_cons (d_var 1) da_nil)))
  (s_cons (s_asgX rfl (d_ownFld cf 0 [(2, 0)]) (gx_fld cf 1 (by decide) rfl (by decide) (gx_fld cf 2 (by decide) rfl (by decide) (gx_fld cf 3 (by decide) rfl (by decide) (gx_fld cf 4 (by decide) rfl (by decide) gx_nil)))))
  (s_cons (s_fld cf 0 2 5 (by decide) rfl (by decide) (d_var 2))
  (s_cons (s_fld cf 0 2 6 (by decide) rfl (by decide) (d_var 3))
  (s_cons (s_fld cf 0 2 7 (by decide) rfl (by decide) (d_var 4))
  (s_cons (s_fld cf 0 2 8 (by decide) rfl (by decide) (d_callTy call_tuple_of ca_tup b.t_tuple bt_tuple (da_cons (d_var 5) da_nil)))
  (s_cons (s_asgX rfl (d_ownFld cf 0 [(2, 8)]) (gx_fld cf 9 (by decide) rfl (by decide) (gx_fld cf 10 (by decide) rfl (by decide) (gx_fld cf 11 (by decide) rfl (by decide) gx_nil))))
  (s_cons (s_fld cf 0 2 12 (by decide) rfl (by decide) (d_call h_known_row hr p0 (as_cons d_str (as_cons (d_var 6) (as_cons (d_glob (by rfl) b.c_KINDS.choose_spec.1 b.c_KINDS.choose_spec.2.1 b.c_KINDS.choose_spec.2.2) as_nil)))))
  (s_one (s_fld cf 0 2 13 (by decide) rfl (by decide) (d_call h_known_row hr p0 (as_cons d_str (as_cons (d_var 7) (as_cons (d_glob (by rfl) b.c_RULES.choose_spec.1 b.c_RULES.choose_spec.2.1 b.c_RULES.choose_spec.2.2) as_nil))))))))))))))))))))
theorem n_Letter_init {f : Addr} {fd : FuncData} (F : FunD K "__init__" "Letter.__init__" (defArgs (inClass (top 30) 0)) (defBody (inClass (top 30) 0)) (defScope (inClass (top 30) 0)) [] [] f fd) : L2.Binds K fd ["self", "hands", "goods", "amount", "most", "days", "wants", "rules"] [] :=
  F.bindsN fun _ _ _ _ _ _ us hl => match us, hl with | [_, _, _, _, _, _, _, _], _ => rfl
/-! _law_letter_built -/
def m_law_letter_built : M Fl := (mRet (mNew 2 F_Letter_init (mACons (m2 dItem (mVar 0) (mC (.str "hands"))) (mACons (m2 dItem (mVar 0) (mC (.str "goods"))) (mACons (m2 dItem (mVar 0) (mC (.str "amount"))) (mACons (m2 dItem (mVar 0) (mC (.str "most"))) (mACons (m2 dItem (mVar 0) (mC (.str "days"))) (mACons (m1 dRev (m2 dItem (mVar 0) (mC (.str "wants")))) (mACons (m1 dRev (m2 dItem (mVar 0) (mC (.str "rules")))) mANil)))))))))
def F_law_letter_built : FD := runF 1 false m_law_letter_built
theorem sc_law_letter_built : FnScope ["told"] ["told"] (defScope (top 60)) := ⟨rfl, rfl, rfl, by decide +kernel, rfl, by decide +kernel, by decide +kernel⟩
theorem k_law_letter_built {f : Addr} {fd : FuncData} (b : B K mg) (cf : CFacts K 6) (h_Letter_init : Maker P w K mg base CX0 5 "Letter" 7 2 F_Letter_init) (F : FunD K "_law_letter_built" "_law_letter_built" (defArgs (top 60)) (defBody (top 60)) (defScope (top 60)) [] [] f fd) : FnOk P w K mg base CX0 7 f fd ["told"] (spF K 1 F_law_letter_built) :=
  have hN : List.Nodup (α := Str) ["told"] := sc_law_letter_built.nd
  fn_ok F sc_law_letter_built fun cdv A outer s H E hr =>
  (s_one (s_ret (d_new h_Letter_init hr p0 (as_cons (d_sub_ hr (d_var 0) d_str) (as_cons (d_sub_ hr (d_var 0) d_str) (as_cons (d_sub_ hr (d_var 0) d_str) (as_cons (d_sub_ hr (d_var 0) d_str) (as_cons (d_sub_ hr (d_var 0) d_str) (as_cons (d_rev (d_sub_ hr (d_var 0) d_str)) (as_cons (d_rev (d_sub_ hr (d_var 0) d_str)) as_nil))))))))))
theorem n_law_letter_built {f : Addr} {fd : FuncData} (F : FunD K "_law_letter_built" "_law_letter_built" (defArgs (top 60)) (defBody (top 60)) (defScope (top 60)) [] [] f fd) : L2.Binds K fd ["told"] [] :=
  F.bindsN fun _ _ _ _ _ _ us hl => match us, hl with | [_], _ => rfl
/-! check_letter -/
def m_check_letter : M Fl := (mIf (mNotT (mTru (mIs (isCl 6 2) (mVar 0)))) mNever
  mSkip)
def F_check_letter : FD := runF 1 false m_check_letter
theorem sc_check_letter : FnScope ["letter"] ["letter"] (defScope (top 35)) := ⟨rfl, rfl, rfl, by decide +kernel, rfl, by decide +kernel, by decide +kernel⟩
theorem k_check_letter {f : Addr} {fd : FuncData} (b : B K mg) (cf : CFacts K 6) (F : FunD K "check_letter" "check_letter" (defArgs (top 35)) (defBody (top 35)) (defScope (top 35)) [] [] f fd) : FnOk P w K mg base CX0 1 f fd ["letter"] (spF K 1 F_check_letter) :=
  have hN : List.Nodup (α := Str) ["letter"] := sc_check_letter.nd
  fn_ok F sc_check_letter fun cdv A outer s H E hr =>
  (s_one (s_if (dt_not (dt_tru (d_isCl cf 2 (by decide) rfl (d_var 0) b.isinstance b.g_Letter))) (s_one s_never)
  s_nil))
theorem n_check_letter {f : Addr} {fd : FuncData} (F : FunD K "check_letter" "check_letter" (defArgs (top 35)) (defBody (top 35)) (defScope (top 35)) [] [] f fd) : L2.Binds K fd ["letter"] [] :=
  F.bindsN fun _ _ _ _ _ _ us hl => match us, hl with | [_], _ => rfl
/-! check_spans -/
def b_check_spans_1 (ρ : DL.Env) : DL.Res Fl := (mSeq (mIf (mOrT (mNotT (mTru (mIs (isTy .tuple) (mVar 2)))) (mOrT (mTest (m2 dNe (mCa fLen (mCons (mVar 2) mNil)) (mC (.int 2)))) (mNotT (mTru (mCall F_is_number (mACons (m2 dIx (mVar 2) (mC (.int 0))) (mACons (mC (.int 0)) (mACons (mC (.int 99)) mANil)))))))) mNever
  mSkip)
  (mIf (mNotT (mTru (mCall F_is_number (mACons (m2 dIx (mVar 2) (mC (.int 1))) (mACons (m2 dIx (mVar 2) (mC (.int 0))) (mACons (mC (.int 99)) mANil)))))) mNever
  mSkip)) ρ
def m_check_spans : M Fl := (mSeq (mIf (mOrT (mNotT (mTru (mCall F_is_row (mACons (mVar 0) mANil)))) (mTest (m2 dNe (mCa fLen (mCons (mVar 0) mNil)) (mC (.int 3))))) mNever
  mSkip)
  (mFor (mEnumX (mVar 0)) (mTT (mTCons (mTN 1) (mTCons (mTN 2) mTNil))) b_check_spans_1))
def F_check_spans : FD := runF 3 false m_check_spans
theorem sc_check_spans : FnScope ["times", "place", "pair"] ["times"] (defScope (top 44)) := ⟨rfl, rfl, rfl, by decide +kernel, rfl, by decide +kernel, by decide +kernel⟩
theorem k_check_spans {f : Addr} {fd : FuncData} (b : B K mg) (cf : CFacts K 6) (h_is_number : Callee P w K mg base CX0 2 "is_number" 3 F_is_number) (h_is_row : Callee P w K mg base CX0 1 "is_row" 1 F_is_row) (F : FunD K "check_spans" "check_spans" (defArgs (top 44)) (defBody (top 44)) (defScope (top 44)) [] [] f fd) : FnOk P w K mg base CX0 3 f fd ["times"] (spF K 1 F_check_spans) :=
  have hN : List.Nodup (α := Str) ["times", "place", "pair"] := sc_check_spans.nd
  fn_ok F sc_check_spans fun cdv A outer s H E hr =>
  (s_cons (s_if (dw_or (dt_not (dt_tru (d_call h_is_row hr p0 (as_cons (d_var 0) as_nil)))) (dw_or1 (dt_cmp1 (c_ne hr) (d_callB call_lenA ca_len b.len bt_len (da_cons (d_var 0) da_nil)) d_int))).pt (s_one s_never)
  s_nil)
  (s_one (s_for PassesOwn.never rfl (i_enumX (d_var 0) b.enumerate) (g_tup rfl (gs_cons (g_name 1 hN) (gs_cons (g_name 2 hN) gs_nil))) (s_cons (s_if (dw_or (dt_not (dt_tru (d_isTy .tuple (d_var 2) b.isinstance b.t_tuple bt_tuple))) (dw_or (dt_cmp1 (c_ne hr) (d_callB call_lenA ca_len b.len bt_len (da_cons (d_var 2) da_nil)) d_int) (dw_or1 (dt_not (dt_tru (d_call h_is_number hr p0 (as_cons (d_item (d_var 2) d_int) (as_cons d_int (as_cons d_int as_nil))))))))).pt (s_one s_never)
  s_nil)
  (s_one (s_if (dt_not (dt_tru (d_call h_is_number hr p0 (as_cons (d_item (d_var 2) d_int) (as_cons (d_item (d_var 2) d_int) (as_cons d_int as_nil)))))) (s_one s_never)
  s_nil))))))
theorem n_check_spans {f : Addr} {fd : FuncData} (F : FunD K "check_spans" "check_spans" (defArgs (top 44)) (defBody (top 44)) (defScope (top 44)) [] [] f fd) : L2.Binds K fd ["times"] [] :=
  F.bindsN fun _ _ _ _ _ _ us hl => match us, hl with | [_], _ => rfl
/-! check_times -/
def m_check_times : M Fl := (mSeq (mDo (mCall F_check_letter (mACons (mVar 0) mANil)))
  (mDo (mCall F_check_spans (mACons (mVar 1) mANil))))
def F_check_times : FD := runF 2 false m_check_times
theorem sc_check_times : FnScope ["letter", "times"] ["letter", "times"] (defScope (top 43)) := ⟨rfl, rfl, rfl, by decide +kernel, rfl, by decide +kernel, by decide +kernel⟩
theorem k_check_times {f : Addr} {fd : FuncData} (b : B K mg) (cf : CFacts K 6) (h_check_letter : Callee P w K mg base CX0 1 "check_letter" 1 F_check_letter) (h_check_spans : Callee P w K mg base CX0 3 "check_spans" 1 F_check_spans) (F : FunD K "check_times" "check_times" (defArgs (top 43)) (defBody (top 43)) (defScope (top 43)) [] [] f fd) : FnOk P w K mg base CX0 4 f fd ["letter", "times"] (spF K 2 F_check_times) :=
  have hN : List.Nodup (α := Str) ["letter", "times"] := sc_check_times.nd
  fn_ok F sc_check_times fun cdv A outer s H E hr =>
  (s_cons (s_expr (d_call h_check_letter hr p0 (as_cons (d_var 0) as_nil)))
  (s_one (s_expr (d_call h_check_spans hr p0 (as_cons (d_var 1) as_nil)))))
theorem n_check_times {f : Addr} {fd : FuncData} (F : FunD K "check_times" "check_times" (defArgs (top 43)) (defBody (top 43)) (defScope (top 43)) [] [] f fd) : L2.Binds K fd ["letter", "times"] [] :=
  F.bindsN fun _ _ _ _ _ _ us hl => match us, hl with | [_, _], _ => rfl
/-! earliest -/
def m_earliest : M Fl := (mSeq (mDo (mCall F_check_spans (mACons (mVar 0) mANil)))
  (mRet (mTup (mCons (m2 dIx (m2 dIx (mVar 0) (mC (.int 0))) (mC (.int 0))) (mCons (m2 dAdd (m2 dIx (m2 dIx (mVar 0) (mC (.int 0))) (mC (.int 0))) (m2 dIx (m2 dIx (mVar 0) (mC (.int 1))) (mC (.int 0)))) (mCons (m2 dAdd (m2 dAdd (m2 dIx (m2 dIx (mVar 0) (mC (.int 0))) (mC (.int 0))) (m2 dIx (m2 dIx (mVar 0) (mC (.int 1))) (mC (.int 0)))) (m2 dIx (m2 dIx (mVar 0) (mC (.int 2))) (mC (.int 0)))) mNil))))))
def F_earliest : FD := runF 1 false m_earliest
theorem sc_earliest : FnScope ["times"] ["times"] (defScope (top 49)) := ⟨rfl, rfl, rfl, by decide +kernel, rfl, by decide +kernel, by decide +kernel⟩
theorem k_earliest {f : Addr} {fd : FuncData} (b : B K mg) (cf : CFacts K 6) (h_check_spans : Callee P w K mg base CX0 3 "check_spans" 1 F_check_spans) (F : FunD K "earliest" "earliest" (defArgs (top 49)) (defBody (top 49)) (defScope (top 49)) [] [] f fd) : FnOk P w K mg base CX0 4 f fd ["times"] (spF K 1 F_earliest) :=
  have hN : List.Nodup (α := Str) ["times"] := sc_earliest.nd
  fn_ok F sc_earliest fun cdv A outer s H E hr =>
  (s_cons (s_expr (d_call h_check_spans hr p0 (as_cons (d_var 0) as_nil)))
  (s_one (s_ret (d_tuple (da_cons (d_item (d_item (d_var 0) d_int) d_int) (da_cons (d_add (d_item (d_item (d_var 0) d_int) d_int) (d_item (d_item (d_var 0) d_int) d_int)) (da_cons (d_add (d_add (d_item (d_item (d_var 0) d_int) d_int) (d_item (d_item (d_var 0) d_int) d_int)) (d_item (d_item (d_var 0) d_int) d_int)) da_nil)))))))
theorem n_earliest {f : Addr} {fd : FuncData} (F : FunD K "earliest" "earliest" (defArgs (top 49)) (defBody (top 49)) (defScope (top 49)) [] [] f fd) : L2.Binds K fd ["times"] [] :=
  F.bindsN fun _ _ _ _ _ _ us hl => match us, hl with | [_], _ => rfl
/-! latest -/
def m_latest : M Fl := (mSeq (mDo (mCall F_check_spans (mACons (mVar 0) mANil)))
  (mRet (mTup (mCons (m2 dIx (m2 dIx (mVar 0) (mC (.int 0))) (mC (.int 1))) (mCons (m2 dAdd (m2 dIx (m2 dIx (mVar 0) (mC (.int 0))) (mC (.int 1))) (m2 dIx (m2 dIx (mVar 0) (mC (.int 1))) (mC (.int 1)))) (mCons (m2 dAdd (m2 dAdd (m2 dIx (m2 dIx (mVar 0) (mC (.int 0))) (mC (.int 1))) (m2 dIx (m2 dIx (mVar 0) (mC (.int 1))) (mC (.int 1)))) (m2 dIx (m2 dIx (mVar 0) (mC (.int 2))) (mC (.int 1)))) mNil))))))
def F_latest : FD := runF 1 false m_latest
theorem sc_latest : FnScope ["times"] ["times"] (defScope (top 50)) := ⟨rfl, rfl, rfl, by decide +kernel, rfl, by decide +kernel, by decide +kernel⟩
theorem k_latest {f : Addr} {fd : FuncData} (b : B K mg) (cf : CFacts K 6) (h_check_spans : Callee P w K mg base CX0 3 "check_spans" 1 F_check_spans) (F : FunD K "latest" "latest" (defArgs (top 50)) (defBody (top 50)) (defScope (top 50)) [] [] f fd) : FnOk P w K mg base CX0 4 f fd ["times"] (spF K 1 F_latest) :=
  have hN : List.Nodup (α := Str) ["times"] := sc_latest.nd
  fn_ok F sc_latest fun cdv A outer s H E hr =>
  (s_cons (s_expr (d_call h_check_spans hr p0 (as_cons (d_var 0) as_nil)))
  (s_one (s_ret (d_tuple (da_cons (d_item (d_item (d_var 0) d_int) d_int) (da_cons (d_add (d_item (d_item (d_var 0) d_int) d_int) (d_item (d_item (d_var 0) d_int) d_int)) (da_cons (d_add (d_add (d_item (d_item (d_var 0) d_int) d_int) (d_item (d_item (d_var 0) d_int) d_int)) (d_item (d_item (d_var 0) d_int) d_int)) da_nil)))))))
theorem n_latest {f : Addr} {fd : FuncData} (F : FunD K "latest" "latest" (defArgs (top 50)) (defBody (top 50)) (defScope (top 50)) [] [] f fd) : L2.Binds K fd ["times"] [] :=
  F.bindsN fun _ _ _ _ _ _ us hl => match us, hl with | [_], _ => rfl
/-! check_days_days -/
def e_check_days_days_1 (ρ : DL.Env) : DL.Res D := (mCall F_is_number (mACons (mVar 2) (mACons (mC (.int 0)) (mACons (mC (.int 999)) mANil)))) ρ
def m_check_days_days : M Fl := (mSeq (mDo (mCall F_check_letter (mACons (mVar 0) mANil)))
  (mIf (mOrT (mNotT (mTru (mCall F_is_row (mACons (mVar 1) mANil)))) (mOrT (mTest (m2 dNe (mCa fLen (mCons (mVar 1) mNil)) (mC (.int 3)))) (mNotT (mTru (mCa fAll (mCons (mLcD (mComp [2] (mItLT (mVar 1)) (mTN 2) mTrue e_check_days_days_1)) mNil)))))) mNever
  mSkip))
def F_check_days_days : FD := runF 3 false m_check_days_days
theorem sc_check_days_days : FnScope ["letter", "days", "day"] ["letter", "days"] (defScope (top 45)) := ⟨rfl, rfl, rfl, by decide +kernel, rfl, by decide +kernel, by decide +kernel⟩
theorem k_check_days_days {f : Addr} {fd : FuncData} (b : B K mg) (cf : CFacts K 6) (h_check_letter : Callee P w K mg base CX0 1 "check_letter" 1 F_check_letter) (h_is_number : Callee P w K mg base CX0 2 "is_number" 3 F_is_number) (h_is_row : Callee P w K mg base CX0 1 "is_row" 1 F_is_row) (F : FunD K "check_days" "check_days" (defArgs (top 45)) (defBody (top 45)) (defScope (top 45)) [] [] f fd) : FnOk P w K mg base CX0 3 f fd ["letter", "days"] (spF K 2 F_check_days_days) :=
  have hN : List.Nodup (α := Str) ["letter", "days", "day"] := sc_check_days_days.nd
  fn_ok F sc_check_days_days fun cdv A outer s H E hr =>
  (s_cons (s_expr (d_call h_check_letter hr p0 (as_cons (d_var 0) as_nil)))
  (s_one (s_if (dw_or (dt_not (dt_tru (d_call h_is_row hr p0 (as_cons (d_var 1) as_nil)))) (dw_or (dt_cmp1 (c_ne hr) (d_callB call_lenA ca_len b.len bt_len (da_cons (d_var 1) da_nil)) d_int) (dw_or1 (dt_not (dt_tru (d_callB (cr_all rfl) ca_all b.all bt_all (da_cons (d_lc [("day", 2)] rfl hN (blkOk_by (N := ["letter", "days", "day"]) (sc := defScope (top 45)) (by decide +kernel)) (by decide) (i_seq (d_var 1)) (fun _ _ _ _ _ => (g_name 2 hN)) (fun _ _ _ _ _ => ts_nil) (fun _ _ _ _ _ => (d_call h_is_number hr p0 (as_cons (d_var 2) (as_cons d_int (as_cons d_int as_nil)))))) da_nil))))))).pt (s_one s_never)
  s_nil)))
theorem n_check_days_days {f : Addr} {fd : FuncData} (F : FunD K "check_days" "check_days" (defArgs (top 45)) (defBody (top 45)) (defScope (top 45)) [] [] f fd) : L2.Binds K fd ["letter", "days"] [] :=
  F.bindsN fun _ _ _ _ _ _ us hl => match us, hl with | [_, _], _ => rfl
/-! fault_of -/
def m_fault_of : M Fl := (mSeq (mDo (mCall F_check_days_days (mACons (mVar 0) (mACons (mVar 1) mANil))))
  (mSeq (mIf (mTest (m2 dGt (m2 dIx (mVar 1) (mC (.int 1))) (m1 (dFld [(2, 9)]) (mVar 0)))) (mRet (mC (.str "ship")))
  mSkip)
  (mSeq (mIf (mTest (m2 dGt (m2 dIx (mVar 1) (mC (.int 2))) (m1 (dFld [(2, 10)]) (mVar 0)))) (mRet (mC (.str "until")))
  mSkip)
  (mRet (mIfE (mTest (m2 dGt (m2 dIx (mVar 1) (mC (.int 2))) (m2 dAdd (m2 dIx (mVar 1) (mC (.int 1))) (m1 (dFld [(2, 11)]) (mVar 0))))) (mC (.str "stale")) (mC (.str "")))))))
def F_fault_of : FD := runF 2 false m_fault_of
theorem sc_fault_of : FnScope ["letter", "days"] ["letter", "days"] (defScope (top 47)) := ⟨rfl, rfl, rfl, by decide +kernel, rfl, by decide +kernel, by decide +kernel⟩
theorem k_fault_of {f : Addr} {fd : FuncData} (b : B K mg) (cf : CFacts K 6) (h_check_days_days : Callee P w K mg base CX0 3 "check_days_days" 2 F_check_days_days) (F : FunD K "fault_of" "fault_of" (defArgs (top 47)) (defBody (top 47)) (defScope (top 47)) [] [] f fd) : FnOk P w K mg base CX0 4 f fd ["letter", "days"] (spF K 2 F_fault_of) :=
  have hN : List.Nodup (α := Str) ["letter", "days"] := sc_fault_of.nd
  fn_ok F sc_fault_of fun cdv A outer s H E hr =>
  (s_cons (s_expr (d_call h_check_days_days hr p0 (as_cons (d_var 0) (as_cons (d_var 1) as_nil))))
  (s_cons (s_if (dt_cmp1 c_gt (d_item (d_var 1) d_int) (d_fld cf [(2, 9)] (d_var 0))) (s_one (s_ret d_str))
  s_nil)
  (s_cons (s_if (dt_cmp1 c_gt (d_item (d_var 1) d_int) (d_fld cf [(2, 10)] (d_var 0))) (s_one (s_ret d_str))
  s_nil)
  (s_one (s_ret (d_ifexp (dt_cmp1 c_gt (d_item (d_var 1) d_int) (d_add (d_item (d_var 1) d_int) (d_fld cf [(2, 11)] (d_var 0)))) d_str d_str))))))
theorem n_fault_of {f : Addr} {fd : FuncData} (F : FunD K "fault_of" "fault_of" (defArgs (top 47)) (defBody (top 47)) (defScope (top 47)) [] [] f fd) : L2.Binds K fd ["letter", "days"] [] :=
  F.bindsN fun _ _ _ _ _ _ us hl => match us, hl with | [_, _], _ => rfl
/-! Never.__init__ -/
def m_Never_init : M Fl := (mFld 0 5 0 (mVar 1))
def F_Never_init : FD := runF 2 false m_Never_init
theorem sc_Never_init : FnScope ["self", "fault"] ["self", "fault"] (defScope (inClass (top 42) 0)) := ⟨rfl, rfl, rfl, by decide +kernel, rfl, by decide +kernel, by decide +kernel⟩
theorem k_Never_init {f : Addr} {fd : FuncData} (b : B K mg) (cf : CFacts K 6) (F : FunD K "__init__" "Never.__init__" (defArgs (inClass (top 42) 0)) (defBody (inClass (top 42) 0)) (defScope (inClass (top 42) 0)) [] [] f fd) : FnOk P w K mg base CX0 1 f fd ["self", "fault"] (spF K 2 F_Never_init) :=
  have hN : List.Nodup (α := Str) ["self", "fault"] := sc_Never_init.nd
  fn_ok F sc_Never_init fun cdv A outer s H E hr =>
  (s_one (s_fld cf 0 5 0 (by decide) rfl (by decide) (d_var 1)))
theorem n_Never_init {f : Addr} {fd : FuncData} (F : FunD K "__init__" "Never.__init__" (defArgs (inClass (top 42) 0)) (defBody (inClass (top 42) 0)) (defScope (inClass (top 42) 0)) [] [] f fd) : L2.Binds K fd ["self", "fault"] [] :=
  F.bindsN fun _ _ _ _ _ _ us hl => match us, hl with | [_, _], _ => rfl
/-! Sure.__init__ -/
def m_Sure_init : M Fl := (mFld 0 3 0 (mVar 1))
def F_Sure_init : FD := runF 2 false m_Sure_init
theorem sc_Sure_init : FnScope ["self", "day"] ["self", "day"] (defScope (inClass (top 40) 0)) := ⟨rfl, rfl, rfl, by decide +kernel, rfl, by decide +kernel, by decide +kernel⟩
theorem k_Sure_init {f : Addr} {fd : FuncData} (b : B K mg) (cf : CFacts K 6) (F : FunD K "__init__" "Sure.__init__" (defArgs (inClass (top 40) 0)) (defBody (inClass (top 40) 0)) (defScope (inClass (top 40) 0)) [] [] f fd) : FnOk P w K mg base CX0 1 f fd ["self", "day"] (spF K 2 F_Sure_init) :=
  have hN : List.Nodup (α := Str) ["self", "day"] := sc_Sure_init.nd
  fn_ok F sc_Sure_init fun cdv A outer s H E hr =>
  (s_one (s_fld cf 0 3 0 (by decide) rfl (by decide) (d_var 1)))
theorem n_Sure_init {f : Addr} {fd : FuncData} (F : FunD K "__init__" "Sure.__init__" (defArgs (inClass (top 40) 0)) (defBody (inClass (top 40) 0)) (defScope (inClass (top 40) 0)) [] [] f fd) : L2.Binds K fd ["self", "day"] [] :=
  F.bindsN fun _ _ _ _ _ _ us hl => match us, hl with | [_, _], _ => rfl
/-! Perhaps.__init__ -/
def m_Perhaps_init : M Fl := (mSeq (mFld 0 4 0 (mIfE (mTru (mCall F_is_row (mACons (mVar 1) mANil))) (mCa fTup (mCons (mVar 1) mNil)) (mVar 1)))
  (mFld 0 4 1 (mIfE (mTru (mCall F_is_row (mACons (mVar 2) mANil))) (mCa fTup (mCons (mVar 2) mNil)) (mVar 2))))
def F_Perhaps_init : FD := runF 3 false m_Perhaps_init
theorem sc_Perhaps_init : FnScope ["self", "good", "bad"] ["self", "good", "bad"] (defScope (inClass (top 41) 0)) := ⟨rfl, rfl, rfl, by decide +kernel, rfl, by decide +kernel, by decide +kernel⟩
theorem k_Perhaps_init {f : Addr} {fd : FuncData} (b : B K mg) (cf : CFacts K 6) (h_is_row : Callee P w K mg base CX0 1 "is_row" 1 F_is_row) (F : FunD K "__init__" "Perhaps.__init__" (defArgs (inClass (top 41) 0)) (defBody (inClass (top 41) 0)) (defScope (inClass (top 41) 0)) [] [] f fd) : FnOk P w K mg base CX0 2 f fd ["self", "good", "bad"] (spF K 3 F_Perhaps_init) :=
  have hN : List.Nodup (α := Str) ["self", "good", "bad"] := sc_Perhaps_init.nd
  fn_ok F sc_Perhaps_init fun cdv A outer s H E hr =>
  (s_cons (s_fld cf 0 4 0 (by decide) rfl (by decide) (d_ifexp (dt_tru (d_call h_is_row hr p0 (as_cons (d_var 1) as_nil))) (d_callTy call_tuple_of ca_tup b.t_tuple bt_tuple (da_cons (d_var 1) da_nil)) (d_var 1)))
  (s_one (s_fld cf 0 4 1 (by decide) rfl (by decide) (d_ifexp (dt_tru (d_call h_is_row hr p0 (as_cons (d_var 2) as_nil))) (d_callTy call_tuple_of ca_tup b.t_tuple bt_tuple (da_cons (d_var 2) da_nil)) (d_var 2)))))
theorem n_Perhaps_init {f : Addr} {fd : FuncData} (F : FunD K "__init__" "Perhaps.__init__" (defArgs (inClass (top 41) 0)) (defBody (inClass (top 41) 0)) (defScope (inClass (top 41) 0)) [] [] f fd) : L2.Binds K fd ["self", "good", "bad"] [] :=
  F.bindsN fun _ _ _ _ _ _ us hl => match us, hl with | [_, _, _], _ => rfl
/-! judge_days -/
def m_judge_days : M Fl := (mSeq (mDo (mCall F_check_times (mACons (mVar 0) (mACons (mVar 1) mANil))))
  (mSeq (mPar 2 3 (mCons (mCall F_earliest (mACons (mVar 1) mANil)) (mCons (mCall F_latest (mACons (mVar 1) mANil)) mNil)))
  (mSeq (mIf (mTest (m2 dNe (mCall F_fault_of (mACons (mVar 0) (mACons (mVar 2) mANil))) (mC (.str "")))) (mRet (mNew 5 F_Never_init (mACons (mCall F_fault_of (mACons (mVar 0) (mACons (mVar 2) mANil))) mANil)))
  mSkip)
  (mRet (mIfE (mTest (m2 dEq (mCall F_fault_of (mACons (mVar 0) (mACons (mVar 3) mANil))) (mC (.str "")))) (mNew 3 F_Sure_init (mACons (m2 dIx (mVar 3) (mC (.int 2))) mANil)) (mNew 4 F_Perhaps_init (mACons (mVar 2) (mACons (mVar 3) mANil))))))))
def F_judge_days : FD := runF 4 false m_judge_days
theorem sc_judge_days : FnScope ["letter", "times", "first", "last"] ["letter", "times"] (defScope (top 51)) := ⟨rfl, rfl, rfl, by decide +kernel, rfl, by decide +kernel, by decide +kernel⟩
theorem k_judge_days {f : Addr} {fd : FuncData} (b : B K mg) (cf : CFacts K 6) (h_check_times : Callee P w K mg base CX0 4 "check_times" 2 F_check_times) (h_earliest : Callee P w K mg base CX0 4 "earliest" 1 F_earliest) (h_fault_of : Callee P w K mg base CX0 4 "fault_of" 2 F_fault_of) (h_latest : Callee P w K mg base CX0 4 "latest" 1 F_latest) (h_Never_init : Maker P w K mg base CX0 1 "Never" 1 5 F_Never_init) (h_Perhaps_init : Maker P w K mg base CX0 2 "Perhaps" 2 4 F_Perhaps_init) (h_Sure_init : Maker P w K mg base CX0 1 "Sure" 1 3 F_Sure_init) (F : FunD K "judge_days" "judge_days" (defArgs (top 51)) (defBody (top 51)) (defScope (top 51)) [] [] f fd) : FnOk P w K mg base CX0 5 f fd ["letter", "times"] (spF K 2 F_judge_days) :=
  have hN : List.Nodup (α := Str) ["letter", "times", "first", "last"] := sc_judge_days.nd
  fn_ok F sc_judge_days fun cdv A outer s H E hr =>
  (s_cons (s_expr (d_call h_check_times hr p0 (as_cons (d_var 0) (as_cons (d_var 1) as_nil))))
  (s_cons (s_par 2 3 rfl hN (da_cons (d_call h_earliest hr p0 (as_cons (d_var 1) as_nil)) (da_cons (d_call h_latest hr p0 (as_cons (d_var 1) as_nil)) da_nil)))
  (s_cons (s_if (dt_cmp1 (c_ne hr) (d_call h_fault_of hr p0 (as_cons (d_var 0) (as_cons (d_var 2) as_nil))) d_str) (s_one (s_ret (d_new h_Never_init hr p0 (as_cons (d_call h_fault_of hr p0 (as_cons (d_var 0) (as_cons (d_var 2) as_nil))) as_nil))))
  s_nil)
  (s_one (s_ret (d_ifexp (dt_cmp1 (c_eq hr) (d_call h_fault_of hr p0 (as_cons (d_var 0) (as_cons (d_var 3) as_nil))) d_str) (d_new h_Sure_init hr p0 (as_cons (d_item (d_var 3) d_int) as_nil)) (d_new h_Perhaps_init hr p0 (as_cons (d_var 2) (as_cons (d_var 3) as_nil)))))))))
theorem n_judge_days {f : Addr} {fd : FuncData} (F : FunD K "judge_days" "judge_days" (defArgs (top 51)) (defBody (top 51)) (defScope (top 51)) [] [] f fd) : L2.Binds K fd ["letter", "times"] [] :=
  F.bindsN fun _ _ _ _ _ _ us hl => match us, hl with | [_, _], _ => rfl
/-! all_days -/
def b_all_days_1 (ρ : DL.Env) : DL.Res Fl := (mAug 1 dMul (m2 dAdd (m2 dSub (mVar 3) (mVar 2)) (mC (.int 1)))) ρ
def e_all_days_1 (ρ : DL.Env) : DL.Res D := (mTup (mCons (mVar 5) (mCons (m2 dAdd (mVar 5) (mVar 6)) (mCons (m2 dAdd (m2 dAdd (mVar 5) (mVar 6)) (mVar 7)) mNil)))) ρ
def b_all_days_2 (ρ : DL.Env) : DL.Res Fl := (mExt 4 (mLcD (mComp [7] (mRng2 (m2 dIx (m2 dIx (mVar 0) (mC (.int 2))) (mC (.int 0))) (m2 dAdd (m2 dIx (m2 dIx (mVar 0) (mC (.int 2))) (mC (.int 1))) (mC (.int 1)))) (mTN 7) mTrue e_all_days_1))) ρ
def b_all_days_3 (ρ : DL.Env) : DL.Res Fl := (mFor (mRng2 (m2 dIx (m2 dIx (mVar 0) (mC (.int 1))) (mC (.int 0))) (m2 dAdd (m2 dIx (m2 dIx (mVar 0) (mC (.int 1))) (mC (.int 1))) (mC (.int 1)))) (mTN 6) b_all_days_2) ρ
def m_all_days : M Fl := (mSeq (mDo (mCall F_check_spans (mACons (mVar 0) mANil)))
  (mSeq (mSet 1 (mC (.int 1)))
  (mSeq (mFor (mItLT (mVar 0)) (mTT (mTCons (mTN 2) (mTCons (mTN 3) mTNil))) b_all_days_1)
  (mSeq (mIf (mTest (m2 dGt (mVar 1) (mC c_MOST_DAYS))) mNever
  mSkip)
  (mSeq (mSetO 4 (oLst mNil))
  (mSeq (mFor (mRng2 (m2 dIx (m2 dIx (mVar 0) (mC (.int 0))) (mC (.int 0))) (m2 dAdd (m2 dIx (m2 dIx (mVar 0) (mC (.int 0))) (mC (.int 1))) (mC (.int 1)))) (mTN 5) b_all_days_3)
  (mFrz 4 (mRet (mVar 4)))))))))
def F_all_days : FD := runF 8 false m_all_days
theorem sc_all_days : FnScope ["times", "many", "low", "high", "found", "ready", "load", "mail"] ["times"] (defScope (top 48)) := ⟨rfl, rfl, rfl, by decide +kernel, rfl, by decide +kernel, by decide +kernel⟩
theorem k_all_days {f : Addr} {fd : FuncData} (b : B K mg) (cf : CFacts K 6) (h_check_spans : Callee P w K mg base CX0 3 "check_spans" 1 F_check_spans) (F : FunD K "all_days" "all_days" (defArgs (top 48)) (defBody (top 48)) (defScope (top 48)) [] [] f fd) : FnOk P w K mg base CX0 4 f fd ["times"] (spF K 1 F_all_days) :=
  have hN : List.Nodup (α := Str) ["times", "many", "low", "high", "found", "ready", "load", "mail"] := sc_all_days.nd
  fn_ok F sc_all_days fun cdv A outer s H E hr =>
  (s_cons (s_expr (d_call h_check_spans hr p0 (as_cons (d_var 0) as_nil)))
  (s_cons (s_set 1 hN d_int)
  (s_cons (s_for PassesOwn.never rfl (i_seq (d_var 0)) (g_tup rfl (gs_cons (g_name 2 hN) (gs_cons (g_name 3 hN) gs_nil))) (s_one (s_augM 1 hN (d_add (d_sub (d_var 3) (d_var 2)) d_int))))
  (s_cons (s_if (dt_cmp1 c_gt (d_var 1) (d_glob (by rfl) b.c_MOST_DAYS.choose_spec.1 b.c_MOST_DAYS.choose_spec.2.1 b.c_MOST_DAYS.choose_spec.2.2)) (s_one s_never)
  s_nil)
  (s_cons (s_setO 4 hN (o_list da_nil))
  (s_cons (s_for PassesOwn.never rfl (i_rng2 (d_item (d_item (d_var 0) d_int) d_int) (d_add (d_item (d_item (d_var 0) d_int) d_int) d_int) b.range) (g_name 5 hN) (s_one (s_for PassesOwn.never rfl (i_rng2 (d_item (d_item (d_var 0) d_int) d_int) (d_add (d_item (d_item (d_var 0) d_int) d_int) d_int) b.range) (g_name 6 hN) (s_one (s_extend 4 hN (d_lc [("mail", 7)] rfl hN (blkOk_by (N := ["times", "many", "low", "high", "found", "ready", "load", "mail"]) (sc := defScope (top 48)) (by decide +kernel)) (by decide) (i_rng2 (d_item (d_item (d_var 0) d_int) d_int) (d_add (d_item (d_item (d_var 0) d_int) d_int) d_int) b.range) (fun _ _ _ _ _ => (g_name 7 hN)) (fun _ _ _ _ _ => ts_nil) (fun _ _ _ _ _ => (d_tuple (da_cons (d_var 5) (da_cons (d_add (d_var 5) (d_var 6)) (da_cons (d_add (d_add (d_var 5) (d_var 6)) (d_var 7)) da_nil)))))))))))
  (s_one (s_frz 4 (s_ret (d_var 4))))))))))
theorem n_all_days {f : Addr} {fd : FuncData} (F : FunD K "all_days" "all_days" (defArgs (top 48)) (defBody (top 48)) (defScope (top 48)) [] [] f fd) : L2.Binds K fd ["times"] [] :=
  F.bindsN fun _ _ _ _ _ _ us hl => match us, hl with | [_], _ => rfl
/-! count_good -/
def t_count_good_1 (ρ : DL.Env) : DL.Res Bool := (mTest (m2 dEq (mCall F_fault_of (mACons (mVar 0) (mACons (mVar 3) mANil))) (mC (.str "")))) ρ
def m_count_good : M Fl := (mSeq (mDo (mCall F_check_times (mACons (mVar 0) (mACons (mVar 1) mANil))))
  (mSeq (mSet 2 (mCall F_all_days (mACons (mVar 1) mANil)))
  (mRet (mTup (mCons (mCa fLen (mCons (mLcD (mComp [3] (mItLT (mVar 2)) (mTN 3) t_count_good_1 (mVar 3))) mNil)) (mCons (mCa fLen (mCons (mVar 2) mNil)) mNil))))))
def F_count_good : FD := runF 4 false m_count_good
theorem sc_count_good : FnScope ["letter", "times", "rows", "days"] ["letter", "times"] (defScope (top 52)) := ⟨rfl, rfl, rfl, by decide +kernel, rfl, by decide +kernel, by decide +kernel⟩
theorem k_count_good {f : Addr} {fd : FuncData} (b : B K mg) (cf : CFacts K 6) (h_all_days : Callee P w K mg base CX0 4 "all_days" 1 F_all_days) (h_check_times : Callee P w K mg base CX0 4 "check_times" 2 F_check_times) (h_fault_of : Callee P w K mg base CX0 4 "fault_of" 2 F_fault_of) (F : FunD K "count_good" "count_good" (defArgs (top 52)) (defBody (top 52)) (defScope (top 52)) [] [] f fd) : FnOk P w K mg base CX0 5 f fd ["letter", "times"] (spF K 2 F_count_good) :=
  have hN : List.Nodup (α := Str) ["letter", "times", "rows", "days"] := sc_count_good.nd
  fn_ok F sc_count_good fun cdv A outer s H E hr =>
  (s_cons (s_expr (d_call h_check_times hr p0 (as_cons (d_var 0) (as_cons (d_var 1) as_nil))))
  (s_cons (s_set 2 hN (d_call h_all_days hr p0 (as_cons (d_var 1) as_nil)))
  (s_one (s_ret (d_tuple (da_cons (d_callB call_lenA ca_len b.len bt_len (da_cons (d_lc [("days", 3)] rfl hN (blkOk_by (N := ["letter", "times", "rows", "days"]) (sc := defScope (top 52)) (by decide +kernel)) (by decide) (i_seq (d_var 2)) (fun _ _ _ _ _ => (g_name 3 hN)) (fun _ _ _ _ _ => (ts_one (dt_cmp1 (c_eq hr) (d_call h_fault_of hr p0 (as_cons (d_var 0) (as_cons (d_var 3) as_nil))) d_str))) (fun _ _ _ _ _ => (d_var 3))) da_nil)) (da_cons (d_callB call_lenA ca_len b.len bt_len (da_cons (d_var 2) da_nil)) da_nil)))))))
theorem n_count_good {f : Addr} {fd : FuncData} (F : FunD K "count_good" "count_good" (defArgs (top 52)) (defBody (top 52)) (defScope (top 52)) [] [] f fd) : L2.Binds K fd ["letter", "times"] [] :=
  F.bindsN fun _ _ _ _ _ _ us hl => match us, hl with | [_, _], _ => rfl
/-! with_days -/
def m_with_days : M Fl := (mSeq (mDo (mCall F_check_letter (mACons (mVar 0) mANil)))
  (mRet (mNew 2 F_Letter_init (mACons (m1 (dFld [(2, 0)]) (mVar 0)) (mACons (m1 (dFld [(2, 5)]) (mVar 0)) (mACons (m1 (dFld [(2, 6)]) (mVar 0)) (mACons (m1 (dFld [(2, 7)]) (mVar 0)) (mACons (mVar 1) (mACons (m1 (dFld [(2, 12)]) (mVar 0)) (mACons (m1 (dFld [(2, 13)]) (mVar 0)) mANil))))))))))
def F_with_days : FD := runF 2 false m_with_days
theorem sc_with_days : FnScope ["letter", "days"] ["letter", "days"] (defScope (top 36)) := ⟨rfl, rfl, rfl, by decide +kernel, rfl, by decide +kernel, by decide +kernel⟩
theorem k_with_days {f : Addr} {fd : FuncData} (b : B K mg) (cf : CFacts K 6) (h_check_letter : Callee P w K mg base CX0 1 "check_letter" 1 F_check_letter) (h_Letter_init : Maker P w K mg base CX0 5 "Letter" 7 2 F_Letter_init) (F : FunD K "with_days" "with_days" (defArgs (top 36)) (defBody (top 36)) (defScope (top 36)) [] [] f fd) : FnOk P w K mg base CX0 7 f fd ["letter", "days"] (spF K 2 F_with_days) :=
  have hN : List.Nodup (α := Str) ["letter", "days"] := sc_with_days.nd
  fn_ok F sc_with_days fun cdv A outer s H E hr =>
  (s_cons (s_expr (d_call h_check_letter hr p0 (as_cons (d_var 0) as_nil)))
  (s_one (s_ret (d_new h_Letter_init hr p0 (as_cons (d_fld cf [(2, 0)] (d_var 0)) (as_cons (d_fld cf [(2, 5)] (d_var 0)) (as_cons (d_fld cf [(2, 6)] (d_var 0)) (as_cons (d_fld cf [(2, 7)] (d_var 0)) (as_cons (d_var 1) (as_cons (d_fld cf [(2, 12)] (d_var 0)) (as_cons (d_fld cf [(2, 13)] (d_var 0)) as_nil)))))))))))
theorem n_with_days {f : Addr} {fd : FuncData} (F : FunD K "with_days" "with_days" (defArgs (top 36)) (defBody (top 36)) (defScope (top 36)) [] [] f fd) : L2.Binds K fd ["letter", "days"] [] :=
  F.bindsN fun _ _ _ _ _ _ us hl => match us, hl with | [_, _], _ => rfl
/-! spare_days -/
def m_spare_days : M Fl := (mSeq (mDo (mCall F_check_days_days (mACons (mVar 0) (mACons (mVar 1) mANil))))
  (mRet (mTup (mCons (m2 dSub (m1 (dFld [(2, 9)]) (mVar 0)) (m2 dIx (mVar 1) (mC (.int 1)))) (mCons (m2 dSub (m1 (dFld [(2, 10)]) (mVar 0)) (m2 dIx (mVar 1) (mC (.int 2)))) (mCons (m2 dSub (m2 dAdd (m2 dIx (mVar 1) (mC (.int 1))) (m1 (dFld [(2, 11)]) (mVar 0))) (m2 dIx (mVar 1) (mC (.int 2)))) mNil))))))
def F_spare_days : FD := runF 2 false m_spare_days
theorem sc_spare_days : FnScope ["letter", "days"] ["letter", "days"] (defScope (top 54)) := ⟨rfl, rfl, rfl, by decide +kernel, rfl, by decide +kernel, by decide +kernel⟩
theorem k_spare_days {f : Addr} {fd : FuncData} (b : B K mg) (cf : CFacts K 6) (h_check_days_days : Callee P w K mg base CX0 3 "check_days_days" 2 F_check_days_days) (F : FunD K "spare_days" "spare_days" (defArgs (top 54)) (defBody (top 54)) (defScope (top 54)) [] [] f fd) : FnOk P w K mg base CX0 4 f fd ["letter", "days"] (spF K 2 F_spare_days) :=
  have hN : List.Nodup (α := Str) ["letter", "days"] := sc_spare_days.nd
  fn_ok F sc_spare_days fun cdv A outer s H E hr =>
  (s_cons (s_expr (d_call h_check_days_days hr p0 (as_cons (d_var 0) (as_cons (d_var 1) as_nil))))
  (s_one (s_ret (d_tuple (da_cons (d_sub (d_fld cf [(2, 9)] (d_var 0)) (d_item (d_var 1) d_int)) (da_cons (d_sub (d_fld cf [(2, 10)] (d_var 0)) (d_item (d_var 1) d_int)) (da_cons (d_sub (d_add (d_item (d_var 1) d_int) (d_fld cf [(2, 11)] (d_var 0))) (d_item (d_var 1) d_int)) da_nil)))))))
theorem n_spare_days {f : Addr} {fd : FuncData} (F : FunD K "spare_days" "spare_days" (defArgs (top 54)) (defBody (top 54)) (defScope (top 54)) [] [] f fd) : L2.Binds K fd ["letter", "days"] [] :=
  F.bindsN fun _ _ _ _ _ _ us hl => match us, hl with | [_, _], _ => rfl
/-! last_day -/
def m_last_day : M Fl := (mSeq (mDo (mCall F_check_letter (mACons (mVar 0) mANil)))
  (mSeq (mDo (mCall F_check_number (mACons (mC (.str "shipped")) (mACons (mVar 1) (mACons (mC (.int 0)) (mACons (mC (.int 999)) mANil))))))
  (mRet (mIfE (mTest (m2 dLe (mVar 1) (m1 (dFld [(2, 9)]) (mVar 0)))) (mCa fMin (mCons (m1 (dFld [(2, 10)]) (mVar 0)) (mCons (m2 dAdd (mVar 1) (m1 (dFld [(2, 11)]) (mVar 0))) mNil))) (mC .non)))))
def F_last_day : FD := runF 2 false m_last_day
theorem sc_last_day : FnScope ["letter", "shipped"] ["letter", "shipped"] (defScope (top 37)) := ⟨rfl, rfl, rfl, by decide +kernel, rfl, by decide +kernel, by decide +kernel⟩
theorem k_last_day {f : Addr} {fd : FuncData} (b : B K mg) (cf : CFacts K 6) (h_check_letter : Callee P w K mg base CX0 1 "check_letter" 1 F_check_letter) (h_check_number : Callee P w K mg base CX0 3 "check_number" 4 F_check_number) (F : FunD K "last_day" "last_day" (defArgs (top 37)) (defBody (top 37)) (defScope (top 37)) [] [] f fd) : FnOk P w K mg base CX0 4 f fd ["letter", "shipped"] (spF K 2 F_last_day) :=
  have hN : List.Nodup (α := Str) ["letter", "shipped"] := sc_last_day.nd
  fn_ok F sc_last_day fun cdv A outer s H E hr =>
  (s_cons (s_expr (d_call h_check_letter hr p0 (as_cons (d_var 0) as_nil)))
  (s_cons (s_expr (d_call h_check_number hr p0 (as_cons d_str (as_cons (d_var 1) (as_cons d_int (as_cons d_int as_nil))))))
  (s_one (s_ret (d_ifexp (dt_cmp1 c_le (d_var 1) (d_fld cf [(2, 9)] (d_var 0))) (d_callB (call_minA rfl) ca_min b.min bt_min (da_cons (d_fld cf [(2, 10)] (d_var 0)) (da_cons (d_add (d_var 1) (d_fld cf [(2, 11)] (d_var 0))) da_nil))) d_non)))))
theorem n_last_day {f : Addr} {fd : FuncData} (F : FunD K "last_day" "last_day" (defArgs (top 37)) (defBody (top 37)) (defScope (top 37)) [] [] f fd) : L2.Binds K fd ["letter", "shipped"] [] :=
  F.bindsN fun _ _ _ _ _ _ us hl => match us, hl with | [_, _], _ => rfl
/-! latest_ready -/
def t_latest_ready_1 (ρ : DL.Env) : DL.Res Bool := (mTruO bs (mCall F_judge_days (mACons (mVar 0) (mACons (mLst (mCons (mTup (mCons (mVar 3) (mCons (mVar 3) mNil))) (mStar (mSl (mVar 1) (some (mC (.int 1))) none) mNil))) mANil)))) ρ
def m_latest_ready : M Fl := (mSeq (mDo (mCall F_check_times (mACons (mVar 0) (mACons (mVar 1) mANil))))
  (mSeq (mSet 2 (mLcD (mComp [3] (mRng1 (mC (.int 100))) (mTN 3) t_latest_ready_1 (mVar 3))))
  (mRet (mIfE (mTest (m2 dNe (mVar 2) (mLst mNil))) (m2 dIx (mVar 2) (m1 dNeg (mC (.int 1)))) (mC .non)))))
def F_latest_ready : FD := runF 4 false m_latest_ready
theorem sc_latest_ready : FnScope ["letter", "times", "good", "day"] ["letter", "times"] (defScope (top 53)) := ⟨rfl, rfl, rfl, by decide +kernel, rfl, by decide +kernel, by decide +kernel⟩
theorem k_latest_ready {f : Addr} {fd : FuncData} (b : B K mg) (cf : CFacts K 6) (hbs : ∀ q ∈ bs, Booler P w K mg base CX0 1 q.1 q.2) (h_check_times : Callee P w K mg base CX0 4 "check_times" 2 F_check_times) (h_judge_days : Callee P w K mg base CX0 5 "judge_days" 2 F_judge_days) (F : FunD K "latest_ready" "latest_ready" (defArgs (top 53)) (defBody (top 53)) (defScope (top 53)) [] [] f fd) : FnOk P w K mg base CX0 6 f fd ["letter", "times"] (spF K 2 F_latest_ready) :=
  have hN : List.Nodup (α := Str) ["letter", "times", "good", "day"] := sc_latest_ready.nd
  fn_ok F sc_latest_ready fun cdv A outer s H E hr =>
  (s_cons (s_expr (d_call h_check_times hr p0 (as_cons (d_var 0) (as_cons (d_var 1) as_nil))))
  (s_cons (s_setLc 2 [("day", 3)] rfl hN (blkOk_by (N := ["letter", "times", "good", "day"]) (sc := defScope (top 53)) (by decide +kernel)) (by decide) (i_rng1 d_int b.range) (fun _ _ _ _ _ => (g_name 3 hN)) (fun _ _ _ _ _ => (ts_one (dt_truO bs hbs p0 hr (d_call h_judge_days hr p0 (as_cons (d_var 0) (as_cons (d_list (da_cons (d_tuple (da_cons (d_var 3) (da_cons (d_var 3) da_nil))) (da_star (d_slice (d_var 1) (do_some d_int) do_none) da_nil))) as_nil)))))) (fun _ _ _ _ _ => (d_var 3)))
  (s_one (s_ret (d_ifexp (dt_cmp1 (c_ne hr) (d_var 2) (d_list da_nil)) (d_item (d_var 2) (d_neg d_int)) d_non)))))
theorem n_latest_ready {f : Addr} {fd : FuncData} (F : FunD K "latest_ready" "latest_ready" (defArgs (top 53)) (defBody (top 53)) (defScope (top 53)) [] [] f fd) : L2.Binds K fd ["letter", "times"] [] :=
  F.bindsN fun _ _ _ _ _ _ us hl => match us, hl with | [_, _], _ => rfl
/-! law -/
def e_law_1 (ρ : DL.Env) : DL.Res D := (mTup (mCons (mVar 22) (mCons (m2 dAdd (mVar 22) (mCall F_law_take (mASlot 1 (mACons (mC (.int 5)) mANil)))) mNil))) ρ
def e_law_2 (ρ : DL.Env) : DL.Res D := (mTup (mCons (mCa fMax (mCons (mC (.int 0)) (mCons (m2 dSub (mVar 22) (mCall F_law_take (mASlot 1 (mACons (mC (.int 2)) mANil)))) mNil))) (mCons (m2 dAdd (mVar 23) (mCall F_law_take (mASlot 1 (mACons (mC (.int 3)) mANil)))) mNil))) ρ
def e_law_3 (ρ : DL.Env) : DL.Res D := (m2 dAdd (mVar 24) (mCall F_law_take (mASlot 1 (mACons (mC (.int 9)) mANil)))) ρ
def e_law_4 (ρ : DL.Env) : DL.Res D := (m2 dGe (mVar 25) (mC (.int 0))) ρ
def s_law_1 (ρ : DL.Env) : DL.Res Fl := (mSet 3 (m2 dAdd (mC (.int 2)) (mCall F_law_take (mASlot 1 (mACons (mC (.int 12)) mANil))))) ρ
def s_law_2 (ρ : DL.Env) : DL.Res Fl := (mSet 4 (mCall F_law_take (mASlot 1 (mACons (mVar 3) mANil)))) ρ
def s_law_3 (ρ : DL.Env) : DL.Res Fl := (mPar3 5 6 7 (mCons (mCall F_law_take (mASlot 1 (mACons (m2 dAdd (mVar 4) (mC (.int 1))) mANil))) (mCons (mCall F_law_take (mASlot 1 (mACons (m2 dAdd (mVar 3) (mC (.int 1))) mANil))) (mCons (mCall F_law_take (mASlot 1 (mACons (mVar 3) mANil))) mNil)))) ρ
def s_law_4 (ρ : DL.Env) : DL.Res Fl := (mIf (mOrT (mAndT (mTruO bs (mCall F_judge_check (mACons (mVar 3) (mACons (mVar 4) (mACons (mVar 5) (mACons (mVar 6) mANil)))))) (mNotT (mTruO bs (mCall F_judge_check (mACons (mVar 3) (mACons (m2 dAdd (mVar 4) (mC (.int 1))) (mACons (mVar 5) (mACons (mVar 6) mANil)))))))) (mAndT (mTest (m2 dGt (mVar 5) (mC (.int 0)))) (mAndT (mTruO bs (mCall F_judge_check (mACons (mVar 3) (mACons (mVar 4) (mACons (mVar 5) (mACons (mVar 6) mANil)))))) (mNotT (mTruO bs (mCall F_judge_check (mACons (mVar 3) (mACons (mVar 4) (mACons (m2 dSub (mVar 5) (mC (.int 1))) (mACons (mVar 6) mANil)))))))))) (mRet (mC (.bl false)))
  mSkip) ρ
def s_law_5 (ρ : DL.Env) : DL.Res Fl := (mIf (mOrT (mTest (m2 dNe (mCa (fBoolO bs) (mCons (mCall F_judge_check (mACons (mVar 3) (mACons (mVar 4) (mACons (mVar 5) (mACons (mVar 6) mANil))))) mNil)) (m2 dLe (mCall F_greatest_hidden (mACons (mVar 3) (mACons (mVar 4) (mACons (mVar 5) mANil)))) (mVar 6)))) (mTest (m2 dNe (mCall F_greatest_hidden (mACons (mVar 3) (mACons (m2 dAdd (mVar 4) (mC (.int 1))) (mACons (mVar 5) mANil)))) (m2 dSub (mCall F_greatest_hidden (mACons (mVar 3) (mACons (mVar 4) (mACons (mVar 5) mANil)))) (mC (.int 1)))))) (mRet (mC (.bl false)))
  mSkip) ρ
def s_law_6 (ρ : DL.Env) : DL.Res Fl := (mSet 8 (mCall F_odds_to_pass (mACons (mVar 3) (mACons (mVar 4) (mACons (mVar 5) (mACons (mVar 7) mANil)))))) ρ
def s_law_7 (ρ : DL.Env) : DL.Res Fl := (mIf (mOrT (mTru (mCall F_law_is_less (mACons (mVar 8) (mACons (mCall F_odds_to_pass (mACons (mVar 3) (mACons (m2 dAdd (mVar 4) (mC (.int 1))) (mACons (mVar 5) (mACons (mVar 7) mANil))))) mANil)))) (mOrT (mTru (mCall F_law_is_less (mACons (mVar 8) (mACons (mCall F_odds_to_pass (mACons (mVar 3) (mACons (mVar 4) (mACons (mVar 5) (mACons (m2 dAdd (mVar 7) (mC (.int 1))) mANil))))) mANil)))) (mOrT (mTest (m2 dNe (mCa fTup (mCons (mCall F_odds_to_pass (mACons (mVar 3) (mACons (mVar 4) (mACons (mVar 5) (mACons (mC (.int 0)) mANil))))) mNil)) (mTup (mCons (mC (.int 1)) (mCons (mC (.int 1)) mNil))))) (mTest (m2 dNe (mCa fTup (mCons (mCall F_odds_to_pass (mACons (mVar 3) (mACons (mVar 4) (mACons (mVar 4) (mACons (mVar 7) mANil))))) mNil)) (mTup (mCons (mC (.int 1)) (mCons (mC (.int 1)) mNil)))))))) (mRet (mC (.bl false)))
  mSkip) ρ
def s_law_8 (ρ : DL.Env) : DL.Res Fl := (mSet 9 (mCall F_least_looked (mACons (mVar 3) (mACons (mVar 5) (mACons (mVar 6) mANil))))) ρ
def s_law_9 (ρ : DL.Env) : DL.Res Fl := (mIf (mOrT (mAndT (mTest (m2 dNotN (mVar 9) (mC .non))) (mOrT (mNotT (mTruO bs (mCall F_judge_check (mACons (mVar 3) (mACons (mVar 9) (mACons (mVar 5) (mACons (mVar 6) mANil))))))) (mAndT (mTest (m2 dGt (mVar 9) (mVar 5))) (mTruO bs (mCall F_judge_check (mACons (mVar 3) (mACons (m2 dSub (mVar 9) (mC (.int 1))) (mACons (mVar 5) (mACons (mVar 6) mANil))))))))) (mAndT (mTest (m2 dIsN (mVar 9) (mC .non))) (mTruO bs (mCall F_judge_check (mACons (mVar 3) (mACons (mVar 3) (mACons (mVar 5) (mACons (mVar 6) mANil)))))))) (mRet (mC (.bl false)))
  mSkip) ρ
def s_law_10 (ρ : DL.Env) : DL.Res Fl := (mSet 10 (mCall F_least_for (mACons (mVar 3) (mACons (mVar 5) (mACons (mVar 7) (mACons (mCa fTup (mCons (mVar 8) mNil)) mANil)))))) ρ
def s_law_11 (ρ : DL.Env) : DL.Res Fl := (mIf (mOrT (mTest (m2 dIsN (mVar 10) (mC .non))) (mOrT (mTest (m2 dGt (mVar 10) (mVar 4))) (mTru (mCall F_law_is_less (mACons (mVar 8) (mACons (mCall F_odds_to_pass (mACons (mVar 3) (mACons (mVar 10) (mACons (mVar 5) (mACons (mVar 7) mANil))))) mANil)))))) (mRet (mC (.bl false)))
  mSkip) ρ
def s_law_12 (ρ : DL.Env) : DL.Res Fl := (mSet 11 (mCall F_law_letter (mASlot 1 mANil))) ρ
def s_law_13 (ρ : DL.Env) : DL.Res Fl := (mSet 12 (mCall F_law_letter_built (mACons (mVar 11) mANil))) ρ
def s_law_14 (ρ : DL.Env) : DL.Res Fl := (mSet 13 (mLcD (mComp [22] (mItLT (mTup (mCons (mCall F_law_take (mASlot 1 (mACons (mC (.int 20)) mANil))) (mCons (mCall F_law_take (mASlot 1 (mACons (mC (.int 6)) mANil))) (mCons (mCall F_law_take (mASlot 1 (mACons (mC (.int 12)) mANil))) mNil))))) (mTN 22) mTrue e_law_1))) ρ
def s_law_15 (ρ : DL.Env) : DL.Res Fl := (mSet 14 (mLcD (mComp [22, 23] (mItLT (mVar 13)) (mTT (mTCons (mTN 22) (mTCons (mTN 23) mTNil))) mTrue e_law_2))) ρ
def s_law_16 (ρ : DL.Env) : DL.Res Fl := (mPar 15 16 (mCons (mCall F_judge_days (mACons (mVar 12) (mACons (mVar 13) mANil))) (mCons (mCall F_count_good (mACons (mVar 12) (mACons (mVar 13) mANil))) mNil))) ρ
def s_law_17 (ρ : DL.Env) : DL.Res Fl := (mIf (mOrT (mAndT (mTruO bs (mCall F_judge_days (mACons (mVar 12) (mACons (mVar 14) mANil)))) (mNotT (mTruO bs (mVar 15)))) (mOrT (mTest (m2 dNe (mCa (fBoolO bs) (mCons (mVar 15) mNil)) (m2 dEq (m2 dIx (mVar 16) (mC (.int 0))) (m2 dIx (mVar 16) (mC (.int 1)))))) (mTest (m2 dLt (m2 dIx (mCall F_count_good (mACons (mVar 12) (mACons (mVar 14) mANil))) (mC (.int 0))) (m2 dIx (mVar 16) (mC (.int 0))))))) (mRet (mC (.bl false)))
  mSkip) ρ
def s_law_18 (ρ : DL.Env) : DL.Res Fl := (mSet 17 (mCall F_with_days (mACons (mVar 12) (mACons (mLcD (mComp [24] (mItLT (m2 dItem (mVar 11) (mC (.str "days")))) (mTN 24) mTrue e_law_3)) mANil)))) ρ
def s_law_19 (ρ : DL.Env) : DL.Res Fl := (mIf (mOrT (mAndT (mTruO bs (mVar 15)) (mNotT (mTruO bs (mCall F_judge_days (mACons (mVar 17) (mACons (mVar 13) mANil)))))) (mTest (m2 dLt (m2 dIx (mCall F_count_good (mACons (mVar 17) (mACons (mVar 13) mANil))) (mC (.int 0))) (m2 dIx (mVar 16) (mC (.int 0)))))) (mRet (mC (.bl false)))
  mSkip) ρ
def s_law_20 (ρ : DL.Env) : DL.Res Fl := (mSet 18 (mTup (mCons (m2 dAdd (mC (.int 5)) (mCall F_law_take (mASlot 1 (mACons (mC (.int 10)) mANil)))) (mCons (m2 dAdd (mC (.int 15)) (mCall F_law_take (mASlot 1 (mACons (mC (.int 15)) mANil)))) (mCons (m2 dAdd (mC (.int 30)) (mCall F_law_take (mASlot 1 (mACons (mC (.int 15)) mANil)))) mNil))))) ρ
def s_law_21 (ρ : DL.Env) : DL.Res Fl := (mSet 19 (mCall F_spare_days (mACons (mVar 12) (mACons (mVar 18) mANil)))) ρ
def s_law_22 (ρ : DL.Env) : DL.Res Fl := (mSet 20 (mCall F_last_day (mACons (mVar 12) (mACons (m2 dIx (mVar 18) (mC (.int 1))) mANil)))) ρ
def s_law_23 (ρ : DL.Env) : DL.Res Fl := (mIf (mOrT (mTest (m2 dNe (m2 dEq (mCall F_fault_of (mACons (mVar 12) (mACons (mVar 18) mANil))) (mC (.str ""))) (mCa fAll (mCons (mLcD (mComp [25] (mItLT (mVar 19)) (mTN 25) mTrue e_law_4)) mNil)))) (mTest (m2 dNe (m2 dEq (mCall F_fault_of (mACons (mVar 12) (mACons (mVar 18) mANil))) (mC (.str ""))) (mAndV (m2 dNotN (mVar 20) (mC .non)) (m2 dLe (m2 dIx (mVar 18) (mC (.int 2))) (mVar 20)))))) (mRet (mC (.bl false)))
  mSkip) ρ
def s_law_24 (ρ : DL.Env) : DL.Res Fl := (mSet 21 (mCall F_latest_ready (mACons (mVar 12) (mACons (mVar 13) mANil)))) ρ
def s_law_25 (ρ : DL.Env) : DL.Res Fl := (mIf (mOrT (mAndT (mTest (m2 dNotN (mVar 21) (mC .non))) (mNotT (mTruO bs (mCall F_judge_days (mACons (mVar 12) (mACons (m2 dAdd (mLst (mCons (mTup (mCons (mVar 21) (mCons (mVar 21) mNil))) mNil)) (mSl (mVar 13) (some (mC (.int 1))) none)) mANil)))))) (mAndT (mTest (m2 dIsN (mVar 21) (mC .non))) (mTruO bs (mVar 15)))) (mRet (mC (.bl false)))
  mSkip) ρ
def b_law_1 (ρ : DL.Env) : DL.Res Fl := (mSeq s_law_1
  (mSeq s_law_2
  (mSeq s_law_3
  (mSeq s_law_4
  (mSeq s_law_5
  (mSeq s_law_6
  (mSeq s_law_7
  (mSeq s_law_8
  (mSeq s_law_9
  (mSeq s_law_10
  (mSeq s_law_11
  (mSeq s_law_12
  (mSeq s_law_13
  (mSeq s_law_14
  (mSeq s_law_15
  (mSeq s_law_16
  (mSeq s_law_17
  (mSeq s_law_18
  (mSeq s_law_19
  (mSeq s_law_20
  (mSeq s_law_21
  (mSeq s_law_22
  (mSeq s_law_23
  (mSeq s_law_24
  s_law_25)))))))))))))))))))))))) ρ
def m_law : M Fl := (mSeq (mSetO 1 (oLst (mCons (mVar 0) (mCons (mC (.int 0)) mNil))))
  (mSeq (mFor (mRng1 (mC (.int 6))) (mTN 2) b_law_1)
  (mRet (mC (.bl true)))))
def F_law : FD := runF 26 false m_law
theorem sc_law : FnScope ["script", "draw", "turn", "boxes", "looked", "allowed", "most", "bad", "odds", "few", "enough", "told", "letter", "times", "wider", "found", "good", "longer", "days", "spare", "last", "ready", "low", "high", "day", "one"] ["script"] (defScope (top 62)) := ⟨rfl, rfl, rfl, by decide +kernel, rfl, by decide +kernel, by decide +kernel⟩
theorem k_law {f : Addr} {fd : FuncData} (b : B K mg) (cf : CFacts K 6) (hbs : ∀ q ∈ bs, Booler P w K mg base CX0 1 q.1 q.2) (h_law_is_less : Callee P w K mg base CX0 1 "_law_is_less" 2 F_law_is_less) (h_law_letter : Callee P w K mg base CX0 4 "_law_letter" 1 F_law_letter) (h_law_letter_built : Callee P w K mg base CX0 7 "_law_letter_built" 1 F_law_letter_built) (h_law_take : Callee P w K mg base CX0 2 "_law_take" 2 F_law_take) (h_count_good : Callee P w K mg base CX0 5 "count_good" 2 F_count_good) (h_fault_of : Callee P w K mg base CX0 4 "fault_of" 2 F_fault_of) (h_greatest_hidden : Callee P w K mg base CX0 5 "greatest_hidden" 3 F_greatest_hidden) (h_judge_check : Callee P w K mg base CX0 5 "judge_check" 4 F_judge_check) (h_judge_days : Callee P w K mg base CX0 5 "judge_days" 2 F_judge_days) (h_last_day : Callee P w K mg base CX0 4 "last_day" 2 F_last_day) (h_latest_ready : Callee P w K mg base CX0 6 "latest_ready" 2 F_latest_ready) (h_least_for : Callee P w K mg base CX0 6 "least_for" 4 F_least_for) (h_least_looked : Callee P w K mg base CX0 6 "least_looked" 3 F_least_looked) (h_odds_to_pass : Callee P w K mg base CX0 5 "odds_to_pass" 4 F_odds_to_pass) (h_spare_days : Callee P w K mg base CX0 4 "spare_days" 2 F_spare_days) (h_with_days : Callee P w K mg base CX0 7 "with_days" 2 F_with_days) (F : FunD K "law" "law" (defArgs (top 62)) (defBody (top 62)) (defScope (top 62)) [] [] f fd) : FnOk P w K mg base CX0 8 f fd ["script"] (spF K 1 F_law) :=
  have hN : List.Nodup (α := Str) ["script", "draw", "turn", "boxes", "looked", "allowed", "most", "bad", "odds", "few", "enough", "told", "letter", "times", "wider", "found", "good", "longer", "days", "spare", "last", "ready", "low", "high", "day", "one"] := sc_law.nd
  fn_ok F sc_law fun cdv A outer s H E hr =>
  (s_cons (s_setO 1 hN (o_list (da_cons (d_var 0) (da_cons d_int da_nil))))
  (s_cons (s_for PassesOwn.never rfl (i_rng1 d_int b.range) (g_name 2 hN) (s_cons (s_set 3 hN (d_add d_int (d_call h_law_take hr p0 (as_slot 1 (as_cons d_int as_nil)))))
  (s_cons (s_set 4 hN (d_call h_law_take hr p0 (as_slot 1 (as_cons (d_var 3) as_nil))))
  (s_cons (s_par3 5 6 7 rfl hN (da_cons (d_call h_law_take hr p0 (as_slot 1 (as_cons (d_add (d_var 4) d_int) as_nil))) (da_cons (d_call h_law_take hr p0 (as_slot 1 (as_cons (d_add (d_var 3) d_int) as_nil))) (da_cons (d_call h_law_take hr p0 (as_slot 1 (as_cons (d_var 3) as_nil))) da_nil))))
  (s_cons (s_if (dw_or (dw_and (dt_truO bs hbs p0 hr (d_call h_judge_check hr p0 (as_cons (d_var 3) (as_cons (d_var 4) (as_cons (d_var 5) (as_cons (d_var 6) as_nil)))))) (dw_and1 (dt_not (dt_truO bs hbs p0 hr (d_call h_judge_check hr p0 (as_cons (d_var 3) (as_cons (d_add (d_var 4) d_int) (as_cons (d_var 5) (as_cons (d_var 6) as_nil))))))))).pt (dw_or1 (dw_and (dt_cmp1 c_gt (d_var 5) d_int) (dw_and (dt_truO bs hbs p0 hr (d_call h_judge_check hr p0 (as_cons (d_var 3) (as_cons (d_var 4) (as_cons (d_var 5) (as_cons (d_var 6) as_nil)))))) (dw_and1 (dt_not (dt_truO bs hbs p0 hr (d_call h_judge_check hr p0 (as_cons (d_var 3) (as_cons (d_var 4) (as_cons (d_sub (d_var 5) d_int) (as_cons (d_var 6) as_nil)))))))))).pt)).pt (s_one (s_ret d_bl))
  s_nil)
  (s_cons (s_if (dw_or (dt_cmp1 (c_ne hr) (d_callTy ((call_boolOs (bs := bs) (k := 1) hbs p0 (hr.mono (by decide))).or call_bool1) (ca_boolO (E := DL.E0)) b.t_bool bt_bool (da_cons (d_call h_judge_check hr p0 (as_cons (d_var 3) (as_cons (d_var 4) (as_cons (d_var 5) (as_cons (d_var 6) as_nil))))) da_nil)) (d_cmp1 c_le (d_call h_greatest_hidden hr p0 (as_cons (d_var 3) (as_cons (d_var 4) (as_cons (d_var 5) as_nil)))) (d_var 6))) (dw_or1 (dt_cmp1 (c_ne hr) (d_call h_greatest_hidden hr p0 (as_cons (d_var 3) (as_cons (d_add (d_var 4) d_int) (as_cons (d_var 5) as_nil)))) (d_sub (d_call h_greatest_hidden hr p0 (as_cons (d_var 3) (as_cons (d_var 4) (as_cons (d_var 5) as_nil)))) d_int)))).pt (s_one (s_ret d_bl))
  s_nil)
  (s_cons (s_set 8 hN (d_call h_odds_to_pass hr p0 (as_cons (d_var 3) (as_cons (d_var 4) (as_cons (d_var 5) (as_cons (d_var 7) as_nil))))))
  (s_cons (s_if (dw_or (dt_tru (d_call h_law_is_less hr p0 (as_cons (d_var 8) (as_cons (d_call h_odds_to_pass hr p0 (as_cons (d_var 3) (as_cons (d_add (d_var 4) d_int) (as_cons (d_var 5) (as_cons (d_var 7) as_nil))))) as_nil)))) (dw_or (dt_tru (d_call h_law_is_less hr p0 (as_cons (d_var 8) (as_cons (d_call h_odds_to_pass hr p0 (as_cons (d_var 3) (as_cons (d_var 4) (as_cons (d_var 5) (as_cons (d_add (d_var 7) d_int) as_nil))))) as_nil)))) (dw_or (dt_cmp1 (c_ne hr) (d_callTy call_tuple_of ca_tup b.t_tuple bt_tuple (da_cons (d_call h_odds_to_pass hr p0 (as_cons (d_var 3) (as_cons (d_var 4) (as_cons (d_var 5) (as_cons d_int as_nil))))) da_nil)) (d_tuple (da_cons d_int (da_cons d_int da_nil)))) (dw_or1 (dt_cmp1 (c_ne hr) (d_callTy call_tuple_of ca_tup b.t_tuple bt_tuple (da_cons (d_call h_odds_to_pass hr p0 (as_cons (d_var 3) (as_cons (d_var 4) (as_cons (d_var 4) (as_cons (d_var 7) as_nil))))) da_nil)) (d_tuple (da_cons d_int (da_cons d_int da_nil)))))))).pt (s_one (s_ret d_bl))
  s_nil)
  (s_cons (s_set 9 hN (d_call h_least_looked hr p0 (as_cons (d_var 3) (as_cons (d_var 5) (as_cons (d_var 6) as_nil)))))
  (s_cons (s_if (dw_or (dw_and (dt_cmp1 c_isnot (d_var 9) d_non) (dw_and1 (dw_or (dt_not (dt_truO bs hbs p0 hr (d_call h_judge_check hr p0 (as_cons (d_var 3) (as_cons (d_var 9) (as_cons (d_var 5) (as_cons (d_var 6) as_nil))))))) (dw_or1 (dw_and (dt_cmp1 c_gt (d_var 9) (d_var 5)) (dw_and1 (dt_truO bs hbs p0 hr (d_call h_judge_check hr p0 (as_cons (d_var 3) (as_cons (d_sub (d_var 9) d_int) (as_cons (d_var 5) (as_cons (d_var 6) as_nil)))))))).pt)).pt)).pt (dw_or1 (dw_and (dt_cmp1 c_is (d_var 9) d_non) (dw_and1 (dt_truO bs hbs p0 hr (d_call h_judge_check hr p0 (as_cons (d_var 3) (as_cons (d_var 3) (as_cons (d_var 5) (as_cons (d_var 6) as_nil)))))))).pt)).pt (s_one (s_ret d_bl))
  s_nil)
  (s_cons (s_set 10 hN (d_call h_least_for hr p0 (as_cons (d_var 3) (as_cons (d_var 5) (as_cons (d_var 7) (as_cons (d_callTy call_tuple_of ca_tup b.t_tuple bt_tuple (da_cons (d_var 8) da_nil)) as_nil))))))
  (s_cons (s_if (dw_or (dt_cmp1 c_is (d_var 10) d_non) (dw_or (dt_cmp1 c_gt (d_var 10) (d_var 4)) (dw_or1 (dt_tru (d_call h_law_is_less hr p0 (as_cons (d_var 8) (as_cons (d_call h_odds_to_pass hr p0 (as_cons (d_var 3) (as_cons (d_var 10) (as_cons (d_var 5) (as_cons (d_var 7) as_nil))))) as_nil))))))).pt (s_one (s_ret d_bl))
  s_nil)
  (s_cons (s_set 11 hN (d_call h_law_letter hr p0 (as_slot 1 as_nil)))
  (s_cons (s_set 12 hN (d_call h_law_letter_built hr p0 (as_cons (d_var 11) as_nil)))
  (s_cons (s_setLc 13 [("low", 22)] rfl hN (blkOk_by (N := ["script", "draw", "turn", "boxes", "looked", "allowed", "most", "bad", "odds", "few", "enough", "told", "letter", "times", "wider", "found", "good", "longer", "days", "spare", "last", "ready", "low", "high", "day", "one"]) (sc := defScope (top 62)) (by decide +kernel)) (by decide) (i_seq (d_tuple (da_cons (d_call h_law_take hr p0 (as_slot 1 (as_cons d_int as_nil))) (da_cons (d_call h_law_take hr p0 (as_slot 1 (as_cons d_int as_nil))) (da_cons (d_call h_law_take hr p0 (as_slot 1 (as_cons d_int as_nil))) da_nil))))) (fun _ _ _ _ _ => (g_name 22 hN)) (fun _ _ _ _ _ => ts_nil) (fun _ _ _ _ _ => (d_tuple (da_cons (d_var 22) (da_cons (d_add (d_var 22) (d_call h_law_take hr p0 (as_slot 1 (as_cons d_int as_nil)))) da_nil)))))
  (s_cons (s_setLc 14 [("low", 22), ("high", 23)] rfl hN (blkOk_by (N := ["script", "draw", "turn", "boxes", "looked", "allowed", "most", "bad", "odds", "few", "enough", "told", "letter", "times", "wider", "found", "good", "longer", "days", "spare", "last", "ready", "low", "high", "day", "one"]) (sc := defScope (top 62)) (by decide +kernel)) (by decide) (i_seq (d_var 13)) (fun _ _ _ _ _ => (g_tup rfl (gs_cons (g_name 22 hN) (gs_cons (g_name 23 hN) gs_nil)))) (fun _ _ _ _ _ => ts_nil) (fun _ _ _ _ _ => (d_tuple (da_cons (d_callB (call_maxA rfl) ca_max b.max bt_max (da_cons d_int (da_cons (d_sub (d_var 22) (d_call h_law_take hr p0 (as_slot 1 (as_cons d_int as_nil)))) da_nil))) (da_cons (d_add (d_var 23) (d_call h_law_take hr p0 (as_slot 1 (as_cons d_int as_nil)))) da_nil)))))
  (s_cons (s_par 15 16 rfl hN (da_cons (d_call h_judge_days hr p0 (as_cons (d_var 12) (as_cons (d_var 13) as_nil))) (da_cons (d_call h_count_good hr p0 (as_cons (d_var 12) (as_cons (d_var 13) as_nil))) da_nil)))
  (s_cons (s_if (dw_or (dw_and (dt_truO bs hbs p0 hr (d_call h_judge_days hr p0 (as_cons (d_var 12) (as_cons (d_var 14) as_nil)))) (dw_and1 (dt_not (dt_truO bs hbs p0 hr (d_var 15))))).pt (dw_or (dt_cmp1 (c_ne hr) (d_callTy ((call_boolOs (bs := bs) (k := 1) hbs p0 (hr.mono (by decide))).or call_bool1) (ca_boolO (E := DL.E0)) b.t_bool bt_bool (da_cons (d_var 15) da_nil)) (d_cmp1 (c_eq hr) (d_item (d_var 16) d_int) (d_item (d_var 16) d_int))) (dw_or1 (dt_cmp1 c_lt (d_item (d_call h_count_good hr p0 (as_cons (d_var 12) (as_cons (d_var 14) as_nil))) d_int) (d_item (d_var 16) d_int))))).pt (s_one (s_ret d_bl))
  s_nil)
  (s_cons (s_set 17 hN (d_call h_with_days hr p0 (as_cons (d_var 12) (as_cons (d_lc [("day", 24)] rfl hN (blkOk_by (N := ["script", "draw", "turn", "boxes", "looked", "allowed", "most", "bad", "odds", "few", "enough", "told", "letter", "times", "wider", "found", "good", "longer", "days", "spare", "last", "ready", "low", "high", "day", "one"]) (sc := defScope (top 62)) (by decide +kernel)) (by decide) (i_seq (d_sub_ hr (d_var 11) d_str)) (fun _ _ _ _ _ => (g_name 24 hN)) (fun _ _ _ _ _ => ts_nil) (fun _ _ _ _ _ => (d_add (d_var 24) (d_call h_law_take hr p0 (as_slot 1 (as_cons d_int as_nil)))))) as_nil))))
  (s_cons (s_if (dw_or (dw_and (dt_truO bs hbs p0 hr (d_var 15)) (dw_and1 (dt_not (dt_truO bs hbs p0 hr (d_call h_judge_days hr p0 (as_cons (d_var 17) (as_cons (d_var 13) as_nil))))))).pt (dw_or1 (dt_cmp1 c_lt (d_item (d_call h_count_good hr p0 (as_cons (d_var 17) (as_cons (d_var 13) as_nil))) d_int) (d_item (d_var 16) d_int)))).pt (s_one (s_ret d_bl))
  s_nil)
  (s_cons (s_set 18 hN (d_tuple (da_cons (d_add d_int (d_call h_law_take hr p0 (as_slot 1 (as_cons d_int as_nil)))) (da_cons (d_add d_int (d_call h_law_take hr p0 (as_slot 1 (as_cons d_int as_nil)))) (da_cons (d_add d_int (d_call h_law_take hr p0 (as_slot 1 (as_cons d_int as_nil)))) da_nil)))))
  (s_cons (s_set 19 hN (d_call h_spare_days hr p0 (as_cons (d_var 12) (as_cons (d_var 18) as_nil))))
  (s_cons (s_set 20 hN (d_call h_last_day hr p0 (as_cons (d_var 12) (as_cons (d_item (d_var 18) d_int) as_nil))))
  (s_cons (s_if (dw_or (dt_cmp1 (c_ne hr) (d_cmp1 (c_eq hr) (d_call h_fault_of hr p0 (as_cons (d_var 12) (as_cons (d_var 18) as_nil))) d_str) (d_callB (cr_all rfl) ca_all b.all bt_all (da_cons (d_lc [("one", 25)] rfl hN (blkOk_by (N := ["script", "draw", "turn", "boxes", "looked", "allowed", "most", "bad", "odds", "few", "enough", "told", "letter", "times", "wider", "found", "good", "longer", "days", "spare", "last", "ready", "low", "high", "day", "one"]) (sc := defScope (top 62)) (by decide +kernel)) (by decide) (i_seq (d_var 19)) (fun _ _ _ _ _ => (g_name 25 hN)) (fun _ _ _ _ _ => ts_nil) (fun _ _ _ _ _ => (d_cmp1 c_ge (d_var 25) d_int))) da_nil))) (dw_or1 (dt_cmp1 (c_ne hr) (d_cmp1 (c_eq hr) (d_call h_fault_of hr p0 (as_cons (d_var 12) (as_cons (d_var 18) as_nil))) d_str) (d_and (d_cmp1 c_isnot (d_var 20) d_non) (d_one (d_cmp1 c_le (d_item (d_var 18) d_int) (d_var 20))))))).pt (s_one (s_ret d_bl))
  s_nil)
  (s_cons (s_set 21 hN (d_call h_latest_ready hr p0 (as_cons (d_var 12) (as_cons (d_var 13) as_nil))))
  (s_one (s_if (dw_or (dw_and (dt_cmp1 c_isnot (d_var 21) d_non) (dw_and1 (dt_not (dt_truO bs hbs p0 hr (d_call h_judge_days hr p0 (as_cons (d_var 12) (as_cons (d_add (d_list (da_cons (d_tuple (da_cons (d_var 21) (da_cons (d_var 21) da_nil))) da_nil)) (d_slice (d_var 13) (do_some d_int) do_none)) as_nil))))))).pt (dw_or1 (dw_and (dt_cmp1 c_is (d_var 21) d_non) (dw_and1 (dt_truO bs hbs p0 hr (d_var 15)))).pt)).pt (s_one (s_ret d_bl))
  s_nil)))))))))))))))))))))))))))
  (s_one (s_ret d_bl))))
theorem n_law {f : Addr} {fd : FuncData} (F : FunD K "law" "law" (defArgs (top 62)) (defBody (top 62)) (defScope (top 62)) [] [] f fd) : L2.Binds K fd ["script"] [] :=
  F.bindsN fun _ _ _ _ _ _ us hl => match us, hl with | [_], _ => rfl
end
end T38
set_option Elab.async false
set_option linter.all false
set_option maxRecDepth 100000
set_option maxHeartbeats 0
namespace T38
open PySem PySem.Spec PyProof.Rows L2 DL
theorem line2 : (2 : Nat) ≤ sizeLine := by decide
theorem ne00 : dNe (.rol []) (.lst []) = some (.bl false) := rfl
theorem ints_map_isE (ns : List Int) : eqB (.rol (ns.map D.int)) (.lst []) = some ns.isEmpty := by
  cases ns with
  | nil => rfl
  | cons n ns =>
    have h1 : ∀ ns : List Int, toPys (ns.map D.int) = some (ns.map PyData.int) := by
      intro ns
      induction ns with
      | nil => rfl
      | cons a r ih => simp [toPys, toPy, ih]
    have h2 : ∀ ns : List Int, PyData.canLayAll0 (ns.map PyData.int) = true := by
      intro ns
      induction ns with
      | nil => rfl
      | cons a r ih => simp [PyData.canLayAll0, PyData.canLay0, ih]
    have h3 : ∀ ns : List Int, PyData.depthAll (ns.map PyData.int) = 0 := by
      intro ns
      induction ns with
      | nil => rfl
      | cons a r ih => simp [PyData.depthAll, PyData.depth, ih]
    have e1 : toPy (.rol ((n :: ns).map D.int)) = some (.list ((n :: ns).map PyData.int)) := by
      simp only [toPy, h1, Option.map_some]
    have e2 : toPy (.lst []) = some (.list []) := rfl
    unfold eqB
    simp only [D.sc]
    unfold eqDeep
    rw [e1, e2]
    simp only
    have s1 : SeqAt.shaped (.list ((n :: ns).map PyData.int)) = true := by
      simp only [SeqAt.shaped, PyData.canLay0, PyData.depth, h2, h3]
      decide
    have s2 : SeqAt.shaped (.list []) = true := by decide
    rw [s1, s2]
    rfl
theorem atI_some {α : Type} (ns : List α) (i : Int) (h0 : 0 ≤ i) (h1 : i < ns.length) : ∃ c, L2.atI ns i = some c := by
  unfold L2.atI ixN
  rw [if_pos h0, if_pos h1]
  have h2 : i.toNat < ns.length := by omega
  exact ⟨ns[i.toNat], by simp [h2]⟩
theorem mul_blend (x : Int) : dMul (.int (x % 2147483647)) (.int (x % 2147483647)) = some (.int (x % 2147483647 * (x % 2147483647))) := by
  have h0 := Int.emod_nonneg x (show (2147483647 : Int) ≠ 0 by decide)
  have h1 := Int.emod_lt_of_pos x (show (0 : Int) < 2147483647 by decide)
  have h : lim64 (x % 2147483647) = true := by
    unfold lim64
    exact decide_eq_true (by omega)
  simp [dMul, h]
theorem mul_r (i : Int) {j : Int} (h : lim64 j = true) : dMul (.int i) (.int j) = some (.int (i * j)) := by simp [dMul, h]
theorem mul_l {i : Int} (j : Int) (h : lim64 i = true) : dMul (.int i) (.int j) = some (.int (i * j)) := by simp [dMul, h]
theorem m977 (i : Int) : dMul (.int 977) (.int i) = some (.int (977 * i)) := mul_l i (by decide)
theorem m40503 (i : Int) : dMul (.int 40503) (.int i) = some (.int (40503 * i)) := mul_l i (by decide)
theorem m31 (i : Int) : dMul (.int 31) (.int i) = some (.int (31 * i)) := mul_l i (by decide)
theorem m48271 (i : Int) : dMul (.int i) (.int 48271) = some (.int (i * 48271)) := mul_r i (by decide)
theorem m69621 (i : Int) : dMul (.int i) (.int 69621) = some (.int (i * 69621)) := mul_r i (by decide)
theorem lnloop {a b c d f : Option W} : ∀ (ds : List D) (r : Int) (e : Option W), ∃ (r' : Int) (e' : Option W), forGo (mTN 5) b_law_number_1 ds [a, b, c, d, some (.val (.int r)), e, f] = .ok .nx [a, b, c, d, some (.val (.int r')), e', f]
  | [], r, e => ⟨r, e, rfl⟩
  | x :: ds, r, e => by
    obtain ⟨r', e', h⟩ := lnloop (a := a) (b := b) (c := c) (d := d) (f := f) ds (r / 1009) (some (.val x))
    exact ⟨r', e', by simp [forGo, b_law_number_1, dFdiv, h]⟩
theorem lawnum (ns : List Int) (hl : ns.length ≤ 63) (i : Int) : ∃ v, F_law_number [.val (.rol (ns.map D.int)), .val (.int i)] = .ok (.int v) [] := by
  by_cases hns : ns = []
  · subst hns
    simp [F_law_number, m_law_number, ev_runF, startE, ne00, line2, dAdd, dSub, dFdiv, dMod, dPow, dLt, dGt, fInt, fLen, finE, outsE, mFor, lim62, rngD, forGo, mul_blend, m977, m40503, m31, m48271, m69621]
  · have hp : 0 < ns.length := List.length_pos_iff.mpr hns
    have hp' : (0 : Int) < (ns.length : Int) := by omega
    have hp2 : (ns.length : Int) < 1073741824 := by omega
    obtain ⟨c, hc⟩ := atI_some ns (i % (ns.length : Int)) (Int.emod_nonneg i (by omega)) (Int.emod_lt_of_pos i hp')
    have hne : dNe (.rol (ns.map D.int)) (.lst []) = some (.bl true) := by
      unfold dNe
      rw [ints_map_isE]
      cases ns with
      | nil => exact absurd rfl hns
      | cons _ _ => rfl
    have hm := Int.emod_nonneg (i / (ns.length : Int)) (show (60 : Int) ≠ 0 by decide)
    have hm2 := Int.emod_lt_of_pos (i / (ns.length : Int)) (show (0 : Int) < 60 by decide)
    have hlim : lim62 (i / (ns.length : Int) % 60) = true := by
      unfold lim62
      exact decide_eq_true (by omega)
    have hix : dIx (.rol (ns.map D.int)) (.int (i % (ns.length : Int))) = some (.int c) := by
      show (L2.atI (ns.map D.int) (i % (ns.length : Int))) = _
      rw [atI_map, hc]
      rfl
    by_cases ht : i / (ns.length : Int) < 60
    · obtain ⟨r', e', hloop⟩ := lnloop (a := some (.val (.rol (ns.map D.int)))) (b := some (.val (.int i))) (c := some (.val (.int c))) (d := some (.val (.int (i / (ns.length : Int))))) (f := none) (rngD 0 (i / (ns.length : Int) % 60).toNat) (c - 10 ^ 18) none
      have hloop' : forGo (mTN 5) b_law_number_1 (rngD 0 (i / (ns.length : Int) % 60).toNat) [some (.val (.rol (ns.map D.int))), some (.val (.int i)), some (.val (.int c)), some (.val (.int (i / (ns.length : Int)))), some (.val (.int (c - 1000000000000000000))), none, none] = _ := hloop
      by_cases hr : 0 < r'
      · simp [F_law_number, m_law_number, ev_runF, startE, hne, line2, dAdd, dSub, dFdiv, dMod, dPow, dLt, dGt, fInt, fLen, finE, outsE, mFor, hlim, hix, ht, hp, hp', hp2, hloop', hr]
      · simp [F_law_number, m_law_number, ev_runF, startE, hne, line2, dAdd, dSub, dFdiv, dMod, dPow, dLt, dGt, fInt, fLen, finE, outsE, mFor, hlim, hix, ht, hp, hp', hp2, hloop', hr, mul_blend, m977, m40503, m31, m48271, m69621]
    · obtain ⟨r', e', hloop⟩ := lnloop (a := some (.val (.rol (ns.map D.int)))) (b := some (.val (.int i))) (c := some (.val (.int c))) (d := some (.val (.int (i / (ns.length : Int))))) (f := none) (rngD 0 (i / (ns.length : Int) % 60).toNat) 0 none
      by_cases hr : 0 < r'
      · simp [F_law_number, m_law_number, ev_runF, startE, hne, line2, dAdd, dSub, dFdiv, dMod, dPow, dLt, dGt, fInt, fLen, finE, outsE, mFor, hlim, hix, ht, hp, hp', hp2, hloop, hr]
      · simp [F_law_number, m_law_number, ev_runF, startE, hne, line2, dAdd, dSub, dFdiv, dMod, dPow, dLt, dGt, fInt, fLen, finE, outsE, mFor, hlim, hix, ht, hp, hp', hp2, hloop, hr, mul_blend, m977, m40503, m31, m48271, m69621]
theorem lawtake (ns : List Int) (hl : ns.length ≤ 63) (n many : Int) (hm : 0 < many) : ∃ r, F_law_take [.inn (.lst [.rol (ns.map D.int), .int n]), .val (.int many)] = .ok (.int r) [.lst [.rol (ns.map D.int), .int (n + 1)]] ∧ 0 ≤ r ∧ r < many := by
  obtain ⟨v, hv⟩ := lawnum ns hl (n + 1)
  refine ⟨v % many, ?_, Int.emod_nonneg _ (by omega), Int.emod_lt_of_pos _ hm⟩
  simp [F_law_take, m_law_take, ev_runF, startE, holds, L2.atI, L2.ixN, dAddI, cSetAt, W.put, fInt, toWs, hv, dMod, hm, finE, outsE]
theorem lawpick {α : Type} (ns : List Int) (hl : ns.length ≤ 63) (n : Int) (e : α → D) (l : List α) (h0 : l ≠ []) (h1 : l.length ≤ 1000) : ∃ x ∈ l, F_law_pick [.inn (.lst [.rol (ns.map D.int), .int n]), .val (.lst (l.map e))] = .ok (e x) [.lst [.rol (ns.map D.int), .int (n + 1)]] := by
  have hp : 0 < l.length := List.length_pos_iff.mpr h0
  obtain ⟨r, hr, r0, r1⟩ := lawtake ns hl n (l.length : Int) (by omega)
  have hlt : r.toNat < l.length := by omega
  refine ⟨l[r.toNat], List.getElem_mem hlt, ?_⟩
  have hix : dIx (.lst (l.map e)) (.int r) = some (e l[r.toNat]) := by
    show L2.atI (l.map e) r = _
    rw [atI_map]
    unfold L2.atI ixN
    rw [if_pos r0, if_pos r1]
    simp [hlt]
  simp [F_law_pick, m_law_pick, ev_runF, startE, holds, fLen, toWs, hr, W.put, hix, finE, outsE]
end T38
set_option Elab.async false
set_option linter.all false
set_option maxRecDepth 100000
set_option maxHeartbeats 1000000
namespace T38
open PySem PySem.Spec PyProof.Rows L2 DL
theorem isnum (x lo hi : Int) : F_is_number [.val (.int x), .val (.int lo), .val (.int hi)] = .ok (.bl (decide (lo ≤ x) && decide (x ≤ hi))) [] := by
  by_cases h : lo ≤ x <;> by_cases h2 : x ≤ hi <;> simp [F_is_number, m_is_number, F_is_integer, m_is_integer, ev_runF, startE, toWs, dTru, finE, outsE, isTy, D.ty, Ty.sub, dLe, h, h2]
theorem cknum (p : D) (x lo hi : Int) (h1 : lo ≤ x) (h2 : x ≤ hi) : F_check_number [.val p, .val (.int x), .val (.int lo), .val (.int hi)] = .ok .non [] := by
  simp [F_check_number, m_check_number, isnum, ev_runF, startE, toWs, dTru, finE, outsE, h1, h2]
theorem ne_int (a b : Int) : dNe (.int a) (.int b) = some (.bl (!decide (a = b))) := by simp [dNe, eqB, D.sc, scal]
theorem ne_bl (a b : Bool) : dNe (.bl a) (.bl b) = some (.bl (!decide (a = b))) := by cases a <;> cases b <;> rfl
/-- numbers of a check -/
structure Lk (B L A M : Int) : Prop where
  b1 : 1 ≤ B
  b2 : B ≤ 60
  l1 : 0 ≤ L
  l2 : L ≤ B
  a1 : 0 ≤ A
  a2 : A ≤ L
  m1 : 0 ≤ M
  m2 : M ≤ B
theorem cklook {B L A M : Int} (h : Lk B L A M) : F_check_looked [.val (.int B), .val (.int L), .val (.int A), .val (.int M)] = .ok .non [] := by
  have h1 := cknum (.str "boxes") B 1 60 h.b1 h.b2
  have h2 := cknum (.str "looked") L 0 B h.l1 h.l2
  have h3 := cknum (.str "allowed") A 0 L h.a1 h.a2
  have h4 := cknum (.str "most") M 0 B h.m1 h.m2
  simp [F_check_looked, m_check_looked, ev_runF, startE, toWs, c_MOST_BOXES, h1, h2, h3, h4, finE, outsE]
/-- whether the look tells -/
def jch (B L A M : Int) : Bool := !(decide ((if M + 1 - (B - L) > 0 then M + 1 - (B - L) else 0) ≤ A) && decide (M < B))
def jchD (B L A M : Int) : D := if jch B L A M = true then .ob 0 [] else .ob 1 [.int (M + 1), .int (if M + 1 - (B - L) > 0 then M + 1 - (B - L) else 0)]
theorem newhid (a b : Int) : F_Hides_init [.inn (.ob 1 []), .val (.int a), .val (.int b)] = .ok .non [.ob 1 [.int a, .int b]] := by
  simp [F_Hides_init, m_Hides_init, ev_runF, startE, cFld, holds, W.put, finE, outsE]
theorem judge {B L A M : Int} (h : Lk B L A M) : F_judge_check [.val (.int B), .val (.int L), .val (.int A), .val (.int M)] = .ok (jchD B L A M) [] := by
  have h1 := cklook h
  unfold jchD jch
  generalize hS : (if M + 1 - (B - L) > 0 then M + 1 - (B - L) else 0) = S
  have hm : fMax [.int 0, .int (M + 1 - (B - L))] = some (.int S) := by rw [← hS]; rfl
  by_cases q1 : S ≤ A <;> by_cases q2 : M < B <;> simp [F_judge_check, m_judge_check, ev_runF, startE, toWs, h1, dAdd, dSub, hm, dLe, dLt, q1, q2, newhid, finE, outsE, holds, W.put]
theorem bs0 : bs.lookup 0 = some F_Tells_bool := rfl
theorem bs1 : bs.lookup 1 = some F_Hides_bool := rfl
theorem jtru (B L A M : Int) : obTru bs (jchD B L A M) = some (jch B L A M) := by
  unfold jchD
  cases h : jch B L A M
  · simp [obTru, bs1, F_Hides_bool, m_Hides_bool, ev_runF, startE, finE, outsE]
  · simp [obTru, bs0, F_Tells_bool, m_Tells_bool, ev_runF, startE, finE, outsE]
theorem jbool (B L A M : Int) : fBoolO bs [jchD B L A M] = some (.bl (jch B L A M)) := by
  have h := jtru B L A M
  unfold jchD at h ⊢
  cases h2 : jch B L A M
  · rw [h2] at h; simp only [Bool.false_eq_true, if_false] at h ⊢; unfold fBoolO; simp only [h]; rfl
  · rw [h2] at h; simp only [if_true] at h ⊢; unfold fBoolO; simp only [h]; rfl
theorem hidden {B L A : Int} (h : Lk B L A 0) : F_greatest_hidden [.val (.int B), .val (.int L), .val (.int A)] = .ok (.int (A + B - L)) [] := by
  have h1 := cklook h
  simp [F_greatest_hidden, m_greatest_hidden, ev_runF, startE, toWs, h1, dAdd, dSub, finE, outsE]
theorem jch_less {B L A M : Int} (h : Lk B L A M) (q : jch B L A M = true) : jch B (L + 1) A M = true := by
  unfold jch at *
  simp only [Bool.not_eq_true', Bool.and_eq_false_iff, decide_eq_false_iff_not] at *
  split at q <;> split <;> omega
theorem jch_all {B L A M : Int} (h : Lk B L A M) (h0 : 0 < A) (q : jch B L A M = true) : jch B L (A - 1) M = true := by
  unfold jch at *
  simp only [Bool.not_eq_true', Bool.and_eq_false_iff, decide_eq_false_iff_not] at *
  split at q <;> omega
theorem jch_hid {B L A M : Int} (h : Lk B L A M) (hl : L < B) : jch B L A M = decide (A + B - L ≤ M) := by
  have := h.a1; have := h.a2; have := h.m2
  unfold jch
  by_cases q : A + B - L ≤ M
  · rw [decide_eq_true q]
    simp only [Bool.not_eq_true', Bool.and_eq_false_iff, decide_eq_false_iff_not]
    split <;> omega
  · rw [decide_eq_false q]
    simp only [Bool.not_eq_false', Bool.and_eq_true, decide_eq_true_eq]
    split <;> omega
/-- the counts from A to B that tell -/
def rg (A B : Int) : List Int := (List.range (B + 1 - A).toNat).map fun i : Nat => A + (i : Int)
def tells (B A M : Int) : List Int := (rg A B).filter fun L => jch B L A M
theorem rg_mem {A B x : Int} : x ∈ rg A B ↔ A ≤ x ∧ x ≤ B := by
  unfold rg
  rw [List.mem_map]
  constructor
  · rintro ⟨i, hi, rfl⟩
    have := List.mem_range.mp hi
    omega
  · rintro ⟨h1, h2⟩
    exact ⟨(x - A).toNat, List.mem_range.mpr (by omega), by omega⟩
theorem rg_rngD (A B : Int) : rngD A (B + 1 - A).toNat = (rg A B).map D.int := by
  unfold rngD rg
  rw [List.map_map]
  rfl
theorem ints_isE (ns : List Int) : dNe (.lst (ns.map D.int)) (.lst []) = some (.bl (!ns.isEmpty)) := by
  have h := eq_lst eInt (l := ns) (r := []) (fun _ _ => trivial) (fun _ _ => trivial) (by decide)
  unfold dNe
  rw [show eqB (.lst (ns.map D.int)) (.lst []) = _ from h]
  cases ns <;> rfl
theorem least {B A M : Int} (b1 : 1 ≤ B) (b2 : B ≤ 60) (a1 : 0 ≤ A) (a2 : A ≤ B) (m1 : 0 ≤ M) (m2 : M ≤ B) : F_least_looked [.val (.int B), .val (.int A), .val (.int M)] = .ok (match (tells B A M).head? with | some x => .int x | none => .non) [] := by
  have h1 := cknum (.str "boxes") B 1 60 b1 b2
  have h2 := cknum (.str "allowed") A 0 B a1 a2
  have h3 := cknum (.str "most") M 0 B m1 m2
  have hc := lcs_filter (f := lcIt [4] (mTN 4) t_least_looked_1 (mVar 4)) (ρ := [some (.val (.int B)), some (.val (.int A)), some (.val (.int M)), none, none]) D.int D.int (fun L => jch B L A M) id (rg A B) (fun L hL => by
    obtain ⟨q1, q2⟩ := rg_mem.mp hL
    have j := judge (B := B) (L := L) (A := A) (M := M) ⟨b1, b2, by omega, q2, a1, q1, m1, m2⟩
    have t := jtru B L A M
    generalize jchD B L A M = J at j t
    cases hb : jch B L A M <;> rw [hb] at t <;> simp [lcIt, t_least_looked_1, wipeE, restore, toWs, j, t])
  rw [List.map_id, ← rg_rngD] at hc
  change lcs (lcIt [4] (mTN 4) t_least_looked_1 (mVar 4)) _ _ = .ok ((tells B A M).map D.int) _ at hc
  have l1 : lim62 A = true := by unfold lim62; exact decide_eq_true (by omega)
  have l2 : lim62 (B + 1) = true := by unfold lim62; exact decide_eq_true (by omega)
  have rl : (rngD A (B + 1 - A).toNat).length ≤ sizeLine := sizeL (by simp [rngD]; omega)
  have ne := ints_isE (tells B A M)
  generalize hR : rngD A (B + 1 - A).toNat = R at hc rl
  generalize tells B A M = T at hc ne ⊢
  cases T with
  | nil =>
    simp at hc ne
    simp [F_least_looked, m_least_looked, ev_runF, startE, toWs, c_MOST_BOXES, h1, h2, h3, dAdd, l1, l2, hR, notOwn_eq, rl, hc, ne, finE, outsE]
  | cons x T =>
    have z : (0 : Int) < (T.length : Int) + 1 := by omega
    simp only [List.map_cons] at hc ne
    simp at ne
    simp [F_least_looked, m_least_looked, ev_runF, startE, toWs, c_MOST_BOXES, h1, h2, h3, dAdd, l1, l2, hR, notOwn_eq, rl, hc, ne, dIx, D.seq, L2.atI, L2.ixN, z, finE, outsE]
theorem range_head (p : Nat → Bool) : ∀ (n s : Nat) (x : Nat) (l : List Nat), (List.range' s n).filter p = x :: l → s ≤ x ∧ x < s + n ∧ p x = true ∧ ∀ y, s ≤ y → y < x → p y = false
  | 0, s, x, l, h => by simp at h
  | n + 1, s, x, l, h => by
    rw [List.range'_succ, List.filter_cons] at h
    split at h
    · rename_i hp
      cases h
      exact ⟨by omega, by omega, hp, fun y h1 h2 => by omega⟩
    · rename_i hp
      obtain ⟨q1, q2, q3, q4⟩ := range_head p n (s + 1) x l h
      refine ⟨by omega, by omega, q3, fun y h1 h2 => ?_⟩
      by_cases e : y = s
      · subst e; simpa using hp
      · exact q4 y (by omega) h2
theorem tells_head {B A M x : Int} {l : List Int} (h : tells B A M = x :: l) : A ≤ x ∧ x ≤ B ∧ jch B x A M = true ∧ ∀ y, A ≤ y → y < x → jch B y A M = false := by
  unfold tells rg at h
  rw [List.filter_map] at h
  obtain ⟨i, l', e, rfl, _⟩ : ∃ (i : Nat) (l' : List Nat), (List.range (B + 1 - A).toNat).filter ((fun L => jch B L A M) ∘ fun i : Nat => A + (i : Int)) = i :: l' ∧ A + (i : Int) = x ∧ l'.map (fun i : Nat => A + (i : Int)) = l := by
    cases hf : (List.range (B + 1 - A).toNat).filter ((fun L => jch B L A M) ∘ fun i : Nat => A + (i : Int)) with
    | nil => rw [hf] at h; cases h
    | cons i l' =>
      rw [hf, List.map_cons] at h
      cases h
      exact ⟨i, l', rfl, rfl, rfl⟩
  rw [List.range_eq_range'] at e
  obtain ⟨q1, q2, q3, q4⟩ := range_head _ _ _ _ _ e
  refine ⟨by omega, by omega, q3, fun y h1 h2 => ?_⟩
  have := q4 (y - A).toNat (by omega) (by omega)
  have e2 : A + (((y - A).toNat : Nat) : Int) = y := by omega
  simpa only [Function.comp, e2] using this
theorem tells_nil {B A M : Int} (h : tells B A M = []) (a2 : A ≤ B) : jch B B A M = false := by
  unfold tells at h
  have := List.filter_eq_nil_iff.mp h B (rg_mem.mpr ⟨a2, Int.le_refl _⟩)
  simpa using this
end T38
set_option Elab.async false
set_option linter.all false
set_option maxRecDepth 100000
set_option maxHeartbeats 1000000
namespace T38
open PySem PySem.Spec PyProof.Rows L2 DL
/-- ways to pick k of n -/
def tbl : List (List Nat) := [
  [1, 0, 0, 0, 0, 0, 0, 0, 0, 0, 0, 0, 0, 0],
  [1, 1, 0, 0, 0, 0, 0, 0, 0, 0, 0, 0, 0, 0],
  [1, 2, 1, 0, 0, 0, 0, 0, 0, 0, 0, 0, 0, 0],
  [1, 3, 3, 1, 0, 0, 0, 0, 0, 0, 0, 0, 0, 0],
  [1, 4, 6, 4, 1, 0, 0, 0, 0, 0, 0, 0, 0, 0],
  [1, 5, 10, 10, 5, 1, 0, 0, 0, 0, 0, 0, 0, 0],
  [1, 6, 15, 20, 15, 6, 1, 0, 0, 0, 0, 0, 0, 0],
  [1, 7, 21, 35, 35, 21, 7, 1, 0, 0, 0, 0, 0, 0],
  [1, 8, 28, 56, 70, 56, 28, 8, 1, 0, 0, 0, 0, 0],
  [1, 9, 36, 84, 126, 126, 84, 36, 9, 1, 0, 0, 0, 0],
  [1, 10, 45, 120, 210, 252, 210, 120, 45, 10, 1, 0, 0, 0],
  [1, 11, 55, 165, 330, 462, 462, 330, 165, 55, 11, 1, 0, 0],
  [1, 12, 66, 220, 495, 792, 924, 792, 495, 220, 66, 12, 1, 0],
  [1, 13, 78, 286, 715, 1287, 1716, 1716, 1287, 715, 286, 78, 13, 1]]
def ch (n k : Nat) : Nat := (tbl.getD n []).getD k 0
def getI : FR → Option Int
  | .ok (.int i) [] => some i
  | _ => none
theorem getI_ok {r : FR} {i : Int} (h : getI r = some i) : r = .ok (.int i) [] := by
  unfold getI at h
  split at h
  · cases h; rfl
  · cases h
theorem ways_tab : ∀ n ∈ List.range 14, ∀ k ∈ List.range 14, getI (F_ways_to_pick [.val (.int (n : Nat)), .val (.int (k : Nat))]) = some ((ch n k : Nat) : Int) := by decide +kernel
theorem ways {n k : Nat} (h1 : n < 14) (h2 : k < 14) : F_ways_to_pick [.val (.int (n : Nat)), .val (.int (k : Nat))] = .ok (.int (ch n k : Nat)) [] := getI_ok (ways_tab n (List.mem_range.mpr h1) k (List.mem_range.mpr h2))
theorem gstep {X Y : Option W} (n a b : Nat) (hb : 0 < b) : whileGo w_lowest_1 b_lowest_1 (n + 1) [X, Y, some (.val (.int (a : Nat))), some (.val (.int (b : Nat)))] = whileGo w_lowest_1 b_lowest_1 n [X, Y, some (.val (.int (b : Nat))), some (.val (.int ((a % b : Nat) : Nat)))] := by
  have h : (0 : Int) < (b : Int) := by omega
  have e : (a : Int) % (b : Int) = ((a % b : Nat) : Int) := rfl
  have hw : w_lowest_1 [X, Y, some (.val (.int (a : Nat))), some (.val (.int (b : Nat)))] = .ok true [X, Y, some (.val (.int (a : Nat))), some (.val (.int (b : Nat)))] := by simp [w_lowest_1, dGt, hb]
  have hd : b_lowest_1 [X, Y, some (.val (.int (a : Nat))), some (.val (.int (b : Nat)))] = .ok .nx [X, Y, some (.val (.int (b : Nat))), some (.val (.int ((a % b : Nat) : Nat)))] := by simp [b_lowest_1, dMod, hb]
  conv => lhs; unfold whileGo
  rw [hw]
  simp only [bindR_ok, if_true, hd]
theorem gstop {X Y : Option W} (n a : Nat) : whileGo w_lowest_1 b_lowest_1 (n + 1) [X, Y, some (.val (.int (a : Nat))), some (.val (.int ((0 : Nat) : Int)))] = .ok .nx [X, Y, some (.val (.int (a : Nat))), some (.val (.int ((0 : Nat) : Int)))] := by
  conv => lhs; unfold whileGo
  simp [w_lowest_1, dGt]
theorem gloop {X Y : Option W} : ∀ (k n a b : Nat), b < 2 ^ k → 2 * k < n → whileGo w_lowest_1 b_lowest_1 n [X, Y, some (.val (.int (a : Nat))), some (.val (.int (b : Nat)))] = .ok .nx [X, Y, some (.val (.int (Nat.gcd a b : Nat))), some (.val (.int ((0 : Nat) : Int)))]
  | 0, n, a, b, h, hn => by
    have e : b = 0 := by simpa using h
    subst e
    obtain ⟨n, rfl⟩ : ∃ m, n = m + 1 := ⟨n - 1, by omega⟩
    rw [gstop, Nat.gcd_zero_right]
  | k + 1, n, a, b, h, hn => by
    obtain ⟨n, rfl⟩ : ∃ m, n = m + 1 := ⟨n - 1, by omega⟩
    by_cases e : b = 0
    · subst e
      rw [gstop, Nat.gcd_zero_right]
    · have hb : 0 < b := by omega
      rw [gstep n a b hb]
      obtain ⟨n, rfl⟩ : ∃ m, n = m + 1 := ⟨n - 1, by omega⟩
      have hr : a % b < b := Nat.mod_lt _ hb
      have g1 : Nat.gcd b (a % b) = Nat.gcd a b := by rw [Nat.gcd_comm b, ← Nat.gcd_rec, Nat.gcd_comm]
      by_cases e2 : a % b = 0
      · rw [e2, gstop, ← g1, e2, Nat.gcd_zero_right]
      · have hr0 : 0 < a % b := by omega
        rw [gstep n b (a % b) hr0]
        have h2 : b % (a % b) < 2 ^ k := by
          have q1 : b % (a % b) < a % b := Nat.mod_lt _ hr0
          have q2 : b % (a % b) ≤ b - a % b := by
            rw [Nat.mod_eq_sub_mod (Nat.le_of_lt hr)]
            exact Nat.mod_le _ _
          have q3 : 2 ^ (k + 1) = 2 * 2 ^ k := by rw [Nat.pow_succ]; omega
          omega
        rw [gloop k n (a % b) (b % (a % b)) h2 (by omega)]
        have g2 : Nat.gcd (a % b) (b % (a % b)) = Nat.gcd a b := by
          rw [Nat.gcd_comm (a % b), ← Nat.gcd_rec]
          exact (Nat.gcd_comm _ _).trans g1
        rw [g2]
abbrev odD (q : Nat × Nat) : D := .tup [.int (q.1 : Nat), .int (q.2 : Nat)]
theorem lowest (a b : Nat) (h1 : 0 < b) (h2 : b < 1073741824) : F_lowest [.val (.int (a : Nat)), .val (.int (b : Nat))] = .ok (odD (a / Nat.gcd a b, b / Nat.gcd a b)) [] := by
  have hl := gloop (X := some (.val (.int (a : Nat)))) (Y := some (.val (.int (b : Nat)))) 30 64 a b h2 (by decide)
  have g0 : 0 < Nat.gcd a b := Nat.gcd_pos_of_pos_right _ h1
  have g1 : Nat.gcd a b ≤ b := Nat.gcd_le_right _ h1
  generalize Nat.gcd a b = g at hl g0 g1 ⊢
  have g2 : (0 : Int) < (g : Int) := by omega
  have g3 : (g : Int) < 1073741824 := by omega
  have t2 : (2 : Nat) ≤ sizeLine := by decide
  have e1 : (a : Int) / (g : Int) = ((a / g : Nat) : Int) := rfl
  have e2 : (b : Int) / (g : Int) = ((b / g : Nat) : Int) := rfl
  have g4 : g < 1073741824 := by omega
  simp [F_lowest, m_lowest, ev_runF, startE, hl, dFdiv, g0, g3, t2, finE, outsE]
/-- ways that show at most A bad ones -/
def sm (B L A b : Nat) : Nat := ((List.range (A + 1)).map fun s => ch b s * ch (B - b) (L - s)).sum
def od (B L A b : Nat) : Nat × Nat := (sm B L A b / Nat.gcd (sm B L A b) (ch B L), ch B L / Nat.gcd (sm B L A b) (ch B L))
def okOd (B L A b : Nat) : Bool := decide (0 < ch B L) && (decide (ch B L ≤ 1716) && (decide (sm B L A b ≤ 1716) && (decide ((od B L A b).1 ≤ (od B L A b).2) && (decide (1 ≤ (od B L A b).2) && decide ((od B L A b).2 ≤ 1716)))))
theorem od_tab : ∀ B ∈ List.range 14, ∀ L ∈ List.range (B + 1), ∀ A ∈ List.range (L + 1), ∀ b ∈ List.range (B + 1), okOd B L A b = true := by decide +kernel
def notLess (p q : Nat × Nat) : Bool := decide (¬ p.1 * q.2 < q.1 * p.2)
def lawOd (B L A b : Nat) : Bool := notLess (od B L A b) (od B (L + 1) A b) && (notLess (od B L A b) (od B L A (b + 1)) && (decide (od B L A 0 = (1, 1)) && decide (od B L L b = (1, 1))))
theorem law_tab : ∀ B ∈ List.range 14, ∀ L ∈ List.range B, ∀ A ∈ List.range (L + 1), ∀ b ∈ List.range B, lawOd B L A b = true := by decide +kernel
end T38
set_option Elab.async false
set_option linter.all false
set_option maxRecDepth 100000
set_option maxHeartbeats 1000000
namespace T38
open PySem PySem.Spec PyProof.Rows L2 DL
theorem okd {B L A b : Nat} (h1 : B < 14) (h2 : L ≤ B) (h3 : A ≤ L) (h4 : b ≤ B) : okOd B L A b = true := od_tab B (List.mem_range.mpr h1) L (List.mem_range.mpr (by omega)) A (List.mem_range.mpr (by omega)) b (List.mem_range.mpr (by omega))
theorem ch_le {n k : Nat} (h1 : n < 14) (h2 : k < 14) : ch n k ≤ 1716 := by
  have t : ∀ n ∈ List.range 14, ∀ k ∈ List.range 14, ch n k ≤ 1716 := by decide +kernel
  exact t n (List.mem_range.mpr h1) k (List.mem_range.mpr h2)
theorem sum_cast : ∀ l : List Nat, (l.map fun n : Nat => (n : Int)).sum = ((l.sum : Nat) : Int)
  | [] => rfl
  | a :: l => by rw [List.map_cons, List.sum_cons, List.sum_cons, sum_cast l]; simp
theorem lkn {B L A : Nat} (h1 : B < 14) (h2 : L ≤ B) (h3 : A ≤ L) (hb : 1 ≤ B) : Lk B L A 0 := ⟨by omega, by omega, by omega, by omega, by omega, by omega, by omega, by omega⟩
theorem mulN {a b : Nat} (h : a ≤ 1716) : dMul (.int (a : Nat)) (.int (b : Nat)) = some (.int ((a * b : Nat) : Int)) := by
  have : lim64 (a : Int) = true := by unfold lim64; exact decide_eq_true (by omega)
  simp [dMul, this]
theorem odds_one (B L b s : Int) (u v : Nat) (A W : D) (q1 : F_ways_to_pick [.val (.int b), .val (.int s)] = .ok (.int (u : Nat)) []) (q2 : F_ways_to_pick [.val (.int (B - b)), .val (.int (L - s))] = .ok (.int (v : Nat)) []) (hm : dMul (.int (u : Nat)) (.int (v : Nat)) = some (.int ((u * v : Nat) : Int))) :
    lcIt [6] (mTN 6) mTrue e_odds_to_pass_1 (.int s) [some (.val (.int B)), some (.val (.int L)), some (.val A), some (.val (.int b)), some (.val W), none, none] = .ok (some (.int ((u * v : Nat) : Int))) [some (.val (.int B)), some (.val (.int L)), some (.val A), some (.val (.int b)), some (.val W), none, none] := by
  generalize u * v = uv at hm ⊢
  simp [lcIt, e_odds_to_pass_1, wipeE, restore, toWs, dSub, q1, q2, hm]
theorem odds_run (B L A b B' : Int) (W : Int) (R PD : List D) (q : D) (S : Int) (h1 : F_check_looked [.val (.int B), .val (.int L), .val (.int A), .val (.int 0)] = .ok .non []) (h2 : F_check_number [.val (.str "bad"), .val (.int b), .val (.int 0), .val (.int B)] = .ok .non []) (h3 : F_ways_to_pick [.val (.int B), .val (.int L)] = .ok (.int W) [])
    (l : lim62 (A + 1) = true) (hR : rngD 0 (A + 1).toNat = R) (rl : R.length ≤ sizeLine)
    (hc : lcs (lcIt [6] (mTN 6) mTrue e_odds_to_pass_1) R [some (.val (.int B)), some (.val (.int L)), some (.val (.int A)), some (.val (.int b)), some (.val (.int W)), none, none] = .ok PD [some (.val (.int B)), some (.val (.int L)), some (.val (.int A)), some (.val (.int b)), some (.val (.int W)), none, none])
    (hs : fSum [.lst PD] = some (.int S)) (hl : F_lowest [.val (.int S), .val (.int W)] = .ok q []) : F_odds_to_pass [.val (.int B), .val (.int L), .val (.int A), .val (.int b)] = .ok q [] := by
  simp [F_odds_to_pass, m_odds_to_pass, ev_runF, startE, toWs, h1, h2, h3, dAdd, l, hR, notOwn_eq, rl, hc, hs, hl, finE, outsE]
theorem odds {B L A b : Nat} (hb : 1 ≤ B) (h1 : B < 14) (h2 : L ≤ B) (h3 : A ≤ L) (h4 : b ≤ B) : F_odds_to_pass [.val (.int (B : Nat)), .val (.int (L : Nat)), .val (.int (A : Nat)), .val (.int (b : Nat))] = .ok (odD (od B L A b)) [] := by
  have ok := okd h1 h2 h3 h4
  unfold okOd at ok
  simp only [Bool.and_eq_true, decide_eq_true_eq] at ok
  obtain ⟨k1, k2, k3, k4, k5, k6⟩ := ok
  have hsm : sm B L A b = ((List.range (A + 1)).map fun s => ch b s * ch (B - b) (L - s)).sum := rfl
  have hod : od B L A b = (sm B L A b / Nat.gcd (sm B L A b) (ch B L), ch B L / Nat.gcd (sm B L A b) (ch B L)) := rfl
  have hc := lcs_map (f := lcIt [6] (mTN 6) mTrue e_odds_to_pass_1) (ρ := [some (.val (.int (B : Nat))), some (.val (.int (L : Nat))), some (.val (.int (A : Nat))), some (.val (.int (b : Nat))), some (.val (.int (ch B L : Nat))), none, none]) (fun s : Nat => D.int (s : Nat)) (fun n : Nat => D.int (n : Nat)) (fun s => ch b s * ch (B - b) (L - s)) (List.range (A + 1)) (fun s hs => by
    have hs := List.mem_range.mp hs
    have q1 := ways (n := b) (k := s) (by omega) (by omega)
    have q2 := ways (n := B - b) (k := L - s) (by omega) (by omega)
    have e1 : (B : Int) - (b : Int) = ((B - b : Nat) : Int) := by omega
    have e2 : (L : Int) - (s : Int) = ((L - s : Nat) : Int) := by omega
    rw [← e1, ← e2] at q2
    exact odds_one _ _ _ _ _ _ _ _ q1 q2 (mulN (ch_le (n := b) (k := s) (by omega) (by omega))))
  have hr : rngD 0 (((A : Nat) : Int) + 1).toNat = (List.range (A + 1)).map fun s : Nat => D.int (s : Nat) := by
    have e : (((A : Nat) : Int) + 1).toNat = A + 1 := by omega
    rw [e]
    unfold rngD
    simp
  have hs : fSum [.lst (((List.range (A + 1)).map fun s => ch b s * ch (B - b) (L - s)).map fun n : Nat => D.int (n : Nat))] = some (.int (sm B L A b : Nat)) := by
    have e : (((List.range (A + 1)).map fun s => ch b s * ch (B - b) (L - s)).map fun n : Nat => D.int (n : Nat)) = ((((List.range (A + 1)).map fun s => ch b s * ch (B - b) (L - s)).map fun n : Nat => (n : Int)).map D.int) := by simp only [List.map_map]; rfl
    rw [e]
    simp only [fSum, D.lis, Option.bind_some, dInts_map, Option.map_some]
    rw [sum_cast, hsm]
  rw [hod]
  exact odds_run _ _ _ _ (B : Nat) _ _ _ _ _ (cklook (lkn h1 h2 h3 hb)) (cknum _ _ _ _ (by omega) (by omega)) (ways (by omega) (by omega)) (by unfold lim62; exact decide_eq_true (by omega)) hr (sizeL (by simp; omega)) hc hs (lowest _ _ k1 (by omega))
theorem od_le {B L A b : Nat} (h1 : B < 14) (h2 : L ≤ B) (h3 : A ≤ L) (h4 : b ≤ B) : (od B L A b).1 ≤ (od B L A b).2 ∧ 1 ≤ (od B L A b).2 ∧ (od B L A b).2 ≤ 1716 := by
  have ok := okd h1 h2 h3 h4
  unfold okOd at ok
  simp only [Bool.and_eq_true, decide_eq_true_eq] at ok
  obtain ⟨k1, k2, k3, k4, k5, k6⟩ := ok
  exact ⟨k4, k5, k6⟩
theorem less (p q : Nat × Nat) (h1 : p.1 ≤ 1716) (h2 : q.1 ≤ 1716) : F_law_is_less [.val (odD p), .val (odD q)] = .ok (.bl (!notLess p q)) [] := by
  have m1 := mulN (b := q.2) h1
  have m2 := mulN (b := p.2) h2
  have e : (!notLess p q) = decide (p.1 * q.2 < q.1 * p.2) := by
    unfold notLess
    by_cases h : p.1 * q.2 < q.1 * p.2 <;> simp [h]
  rw [e]
  have d : dLt (.int ((p.1 * q.2 : Nat) : Int)) (.int ((q.1 * p.2 : Nat) : Int)) = some (.bl (decide (p.1 * q.2 < q.1 * p.2))) := by
    unfold dLt
    simp only [Int.ofNat_lt]
  generalize p.1 * q.2 = u at *
  generalize q.1 * p.2 = v at *
  simp [F_law_is_less, m_law_is_less, ev_runF, startE, dIx, D.seq, L2.atI, L2.ixN, m1, m2, d, finE, outsE]
theorem ckfrac (q : Nat × Nat) (h1 : q.1 ≤ q.2) (h2 : 1 ≤ q.2) : F_check_fraction [.val (odD q)] = .ok .non [] := by
  have t2 : (2 : Nat) ≤ sizeLine := by decide
  have h3 : ¬ (q.2 : Int) < 1 := by omega
  have h4 : ¬ (q.2 : Int) < (q.1 : Int) := by omega
  have h5 : ¬ (q.1 : Int) < 0 := by omega
  have h6 : ¬ q.2 = 0 := by omega
  simp [F_check_fraction, m_check_fraction, ev_runF, startE, isTy, D.ty, Ty.sub, dTru, fLen, ne_int, D.seq, notOwn_eq, t2, lcs, lcIt, wipeE, restore, e_check_fraction_1, toWs, F_is_integer, m_is_integer, finE, outsE, fAll, D.lis, dBls, dIx, L2.atI, L2.ixN, dLt, dGt, h3, h4, h5, h6]
end T38
set_option Elab.async false
set_option linter.all false
set_option maxRecDepth 100000
set_option maxHeartbeats 1000000
namespace T38
open PySem PySem.Spec PyProof.Rows L2 DL
theorem find_first (p : Nat → Bool) (L : Nat) (hp : p L = true) : ∀ (n s : Nat), s ≤ L → L < s + n → ∃ x, (List.range' s n).find? p = some x ∧ s ≤ x ∧ x ≤ L ∧ p x = true
  | 0, s, h1, h2 => by omega
  | n + 1, s, h1, h2 => by
    rw [List.range'_succ]
    by_cases h : p s = true
    · exact ⟨s, by rw [List.find?_cons_of_pos h], Nat.le_refl _, h1, h⟩
    · have hne : s ≠ L := fun e => h (by rw [e]; exact hp)
      obtain ⟨x, q1, q2, q3, q4⟩ := find_first p L hp n (s + 1) (by omega) (by omega)
      exact ⟨x, by rw [List.find?_cons_of_neg h, q1], by omega, q3, q4⟩
theorem rngD_nat (A n : Nat) : rngD (A : Int) n = (List.range' A n).map fun k : Nat => D.int (k : Nat) := by
  unfold rngD
  rw [List.range'_eq_map_range, List.map_map]
  apply List.map_congr_left
  intro i _
  simp
theorem for_one (B A b F : D) (L : Nat) (q f : Nat × Nat) (k : Bool) (h : F_odds_to_pass [.val B, .val (.int (L : Nat)), .val A, .val b] = .ok (odD q) []) (m1 : dMul (.int (q.1 : Nat)) (.int (f.2 : Nat)) = some (.int ((q.1 * f.2 : Nat) : Int))) (m2' : dMul (.int (f.1 : Nat)) (.int (q.2 : Nat)) = some (.int ((f.1 * q.2 : Nat) : Int)))
    (d : dLe (.int ((q.1 * f.2 : Nat) : Int)) (.int ((f.1 * q.2 : Nat) : Int)) = some (.bl k)) (x y : Option W) :
    b_least_for_1 [some (.val B), some (.val A), some (.val b), some (.val (odD f)), some (.val (.int (L : Nat))), x, y] = .ok (if k = true then .rt (.int (L : Nat)) else .nx) [some (.val B), some (.val A), some (.val b), some (.val (odD f)), some (.val (.int (L : Nat))), some (.val (.int (q.1 : Nat))), some (.val (.int (q.2 : Nat)))] := by
  generalize q.1 * f.2 = u at *
  generalize f.1 * q.2 = v at *
  cases k <;> simp [b_least_for_1, toWs, h, dIx, D.seq, L2.atI, L2.ixN, m1, m2', d]
theorem leastfor {B L A b : Nat} (hb : 1 ≤ B) (h1 : B < 14) (h2 : L ≤ B) (h3 : A ≤ L) (h4 : b ≤ B) : ∃ x : Nat, A ≤ x ∧ x ≤ L ∧ notLess (od B L A b) (od B x A b) = true ∧ F_least_for [.val (.int (B : Nat)), .val (.int (A : Nat)), .val (.int (b : Nat)), .val (odD (od B L A b))] = .ok (.int (x : Nat)) [] := by
  obtain ⟨w1, w2, w3⟩ := od_le h1 h2 h3 h4
  generalize hq : od B L A b = f at *
  let p : Nat → Bool := fun K => decide ((od B K A b).1 * f.2 ≤ f.1 * (od B K A b).2)
  have hpL : p L = true := by
    show decide ((od B L A b).1 * f.2 ≤ f.1 * (od B L A b).2) = true
    rw [hq]
    exact decide_eq_true (Nat.le_refl _)
  obtain ⟨x, f1, f2, f3, f4⟩ := find_first p L hpL (B + 1 - A) A h3 (by omega)
  refine ⟨x, f2, f3, ?_, ?_⟩
  · have := of_decide_eq_true f4
    unfold notLess
    exact decide_eq_true (by omega)
  · have c0 := ckfrac f w1 w2
    have c1 := cknum (.str "boxes") (B : Nat) 1 60 (by omega) (by omega)
    have c2 := cknum (.str "allowed") (A : Nat) 0 (B : Nat) (by omega) (by omega)
    have c3 := cknum (.str "bad") (b : Nat) 0 (B : Nat) (by omega) (by omega)
    have l1 : lim62 (A : Int) = true := by unfold lim62; exact decide_eq_true (by omega)
    have l2 : lim62 ((B : Int) + 1) = true := by unfold lim62; exact decide_eq_true (by omega)
    have e : ((B : Int) + 1 - (A : Int)).toNat = B + 1 - A := by omega
    have hR := rngD_nat A (B + 1 - A)
    have hf := for_find (g := mTN 4) (b := b_least_for_1) (fun ρ => ∃ x y z : Option W, ρ = [some (.val (.int (B : Nat))), some (.val (.int (A : Nat))), some (.val (.int (b : Nat))), some (.val (odD f)), x, y, z]) p (fun k : Nat => D.int (k : Nat)) (fun k : Nat => D.int (k : Nat)) (List.range' A (B + 1 - A)) (fun K hK ρ ⟨x, y, z, e⟩ => by
      subst e
      have hK := List.mem_range'_1.mp hK
      obtain ⟨v1, v2, v3⟩ := od_le (B := B) (L := K) (A := A) (b := b) h1 (by omega) (by omega) h4
      have ho := odds (B := B) (L := K) (A := A) (b := b) hb h1 (by omega) (by omega) h4
      have hp : p K = decide ((od B K A b).1 * f.2 ≤ f.1 * (od B K A b).2) := rfl
      rw [hp]
      generalize od B K A b = q at *
      have hd : dLe (.int ((q.1 * f.2 : Nat) : Int)) (.int ((f.1 * q.2 : Nat) : Int)) = some (.bl (decide (q.1 * f.2 ≤ f.1 * q.2))) := by
        unfold dLe
        simp only [Int.ofNat_le]
      have one := for_one _ _ _ (odD f) K q f (decide (q.1 * f.2 ≤ f.1 * q.2)) ho (mulN (by omega)) (mulN (by omega)) hd y z
      refine ⟨[some (.val (.int (B : Nat))), some (.val (.int (A : Nat))), some (.val (.int (b : Nat))), some (.val (odD f)), some (.val (.int (K : Nat))), y, z], [some (.val (.int (B : Nat))), some (.val (.int (A : Nat))), some (.val (.int (b : Nat))), some (.val (odD f)), some (.val (.int (K : Nat))), some (.val (.int (q.1 : Nat))), some (.val (.int (q.2 : Nat)))], rfl, ?_⟩
      cases hk : decide (q.1 * f.2 ≤ f.1 * q.2) with
      | true => rw [hk] at one; exact .inr ⟨rfl, one⟩
      | false => rw [hk] at one; exact .inl ⟨rfl, one, _, _, _, rfl⟩) [some (.val (.int (B : Nat))), some (.val (.int (A : Nat))), some (.val (.int (b : Nat))), some (.val (odD f)), none, none, none] ⟨_, _, _, rfl⟩
    rw [f1] at hf
    rcases hf with ⟨_, z, _⟩ | ⟨a, ρ', z, hf⟩
    · cases z
    · cases z
      rw [← hR] at hf
      generalize hRR : rngD (A : Int) (B + 1 - A) = RR at hf
      simp [F_least_for, m_least_for, ev_runF, startE, toWs, c_MOST_BOXES, c0, c1, c2, c3, dAdd, l1, l2, e, hRR, hf, finE, outsE]
end T38
set_option Elab.async false
set_option linter.all false
set_option maxRecDepth 100000
set_option maxHeartbeats 1000000
namespace T38
open PySem PySem.Spec PyProof.Rows L2 DL
abbrev drw (ns : List Int) (n : Int) : Ct := .lst [.rol (ns.map D.int), .int n]
abbrev EV (ns : List Int) (n : Int) (l : DL.Env) : DL.Env := some (.val (.rol (ns.map D.int))) :: some (.own (drw ns n)) :: l
theorem taken (ns : List Int) (hl : ns.length ≤ 63) (n : Int) (many : Nat) (hm : 0 < many) : ∃ r : Nat, r < many ∧ F_law_take [.inn (.lst [.rol (ns.map D.int), .int n]), .val (.int (many : Nat))] = .ok (.int (r : Nat)) [.lst [.rol (ns.map D.int), .int (n + 1)]] := by
  obtain ⟨r, hr, r0, r1⟩ := lawtake ns hl n many (by omega)
  exact ⟨r.toNat, by omega, by rw [hr, Int.toNat_of_nonneg r0]⟩
theorem s1 (ns : List Int) (hl : ns.length ≤ 63) (n : Int) {o2 o3 o4 o5 o6 o7 o8 o9 o10 o11 o12 o13 o14 o15 o16 o17 o18 o19 o20 o21 : Option D} : ∃ B : Nat, 2 ≤ B ∧ B < 14 ∧ s_law_1 (EV ns n [o2.map .val, o3.map .val, o4.map .val, o5.map .val, o6.map .val, o7.map .val, o8.map .val, o9.map .val, o10.map .val, o11.map .val, o12.map .val, o13.map .val, o14.map .val, o15.map .val, o16.map .val, o17.map .val, o18.map .val, o19.map .val, o20.map .val, o21.map .val, none, none, none, none]) = .ok .nx (EV ns (n + 1) [o2.map .val, some (.val (.int (B : Nat))), o4.map .val, o5.map .val, o6.map .val, o7.map .val, o8.map .val, o9.map .val, o10.map .val, o11.map .val, o12.map .val, o13.map .val, o14.map .val, o15.map .val, o16.map .val, o17.map .val, o18.map .val, o19.map .val, o20.map .val, o21.map .val, none, none, none, none]) := by
  obtain ⟨r, r1, hr⟩ := taken ns hl n 12 (by decide)
  refine ⟨2 + r, by omega, by omega, ?_⟩
  have hr : F_law_take [.inn (.lst [.rol (ns.map D.int), .int n]), .val (.int 12)] = .ok (.int (r : Nat)) [.lst [.rol (ns.map D.int), .int (n + 1)]] := hr
  have e : ((2 + r : Nat) : Int) = 2 + (r : Int) := by omega
  rw [e]
  simp [s_law_1, holds, toWs, hr, W.put, dAdd]
theorem s2 (ns : List Int) (hl : ns.length ≤ 63) (n : Int) (B : Nat) (b1 : 2 ≤ B) {o2 o3 o4 o5 o6 o7 o8 o9 o10 o11 o12 o13 o14 o15 o16 o17 o18 o19 o20 o21 : Option D} : ∃ L : Nat, L < B ∧ s_law_2 (EV ns n [o2.map .val, some (.val (.int (B : Nat))), o4.map .val, o5.map .val, o6.map .val, o7.map .val, o8.map .val, o9.map .val, o10.map .val, o11.map .val, o12.map .val, o13.map .val, o14.map .val, o15.map .val, o16.map .val, o17.map .val, o18.map .val, o19.map .val, o20.map .val, o21.map .val, none, none, none, none]) = .ok .nx (EV ns (n + 1) [o2.map .val, some (.val (.int (B : Nat))), some (.val (.int (L : Nat))), o5.map .val, o6.map .val, o7.map .val, o8.map .val, o9.map .val, o10.map .val, o11.map .val, o12.map .val, o13.map .val, o14.map .val, o15.map .val, o16.map .val, o17.map .val, o18.map .val, o19.map .val, o20.map .val, o21.map .val, none, none, none, none]) := by
  obtain ⟨r, r1, hr⟩ := taken ns hl n B (by omega)
  exact ⟨r, r1, by simp [s_law_2, holds, toWs, hr, W.put]⟩
theorem s3 (ns : List Int) (hl : ns.length ≤ 63) (n : Int) (B L : Nat) (b1 : 2 ≤ B) {o2 o3 o4 o5 o6 o7 o8 o9 o10 o11 o12 o13 o14 o15 o16 o17 o18 o19 o20 o21 : Option D} : ∃ A M b : Nat, A ≤ L ∧ M ≤ B ∧ b < B ∧ s_law_3 (EV ns n [o2.map .val, some (.val (.int (B : Nat))), some (.val (.int (L : Nat))), o5.map .val, o6.map .val, o7.map .val, o8.map .val, o9.map .val, o10.map .val, o11.map .val, o12.map .val, o13.map .val, o14.map .val, o15.map .val, o16.map .val, o17.map .val, o18.map .val, o19.map .val, o20.map .val, o21.map .val, none, none, none, none]) = .ok .nx (EV ns (n + 1 + 1 + 1) [o2.map .val, some (.val (.int (B : Nat))), some (.val (.int (L : Nat))), some (.val (.int (A : Nat))), some (.val (.int (M : Nat))), some (.val (.int (b : Nat))), o8.map .val, o9.map .val, o10.map .val, o11.map .val, o12.map .val, o13.map .val, o14.map .val, o15.map .val, o16.map .val, o17.map .val, o18.map .val, o19.map .val, o20.map .val, o21.map .val, none, none, none, none]) := by
  obtain ⟨r, r1, hr⟩ := taken ns hl n (L + 1) (by omega)
  obtain ⟨t, t1, ht⟩ := taken ns hl (n + 1) (B + 1) (by omega)
  obtain ⟨u, u1, hu⟩ := taken ns hl (n + 1 + 1) B (by omega)
  have e1 : ((L + 1 : Nat) : Int) = (L : Int) + 1 := by omega
  have e2 : ((B + 1 : Nat) : Int) = (B : Int) + 1 := by omega
  rw [e1] at hr
  rw [e2] at ht
  exact ⟨r, t, u, by omega, by omega, u1, by simp [s_law_3, holds, toWs, hr, ht, hu, W.put, dAdd]⟩
/-- what one turn draws for its check -/
structure Dr (B L A M b : Nat) : Prop where
  b1 : 2 ≤ B
  b2 : B < 14
  l : L < B
  a : A ≤ L
  m : M ≤ B
  b : b < B
theorem Dr.lk {B L A M b : Nat} (h : Dr B L A M b) : Lk B L A M := ⟨by have := h.b1; omega, by have := h.b2; omega, by omega, by have := h.l; omega, by omega, by have := h.a; omega, by omega, by have := h.m; omega⟩
theorem Dr.lk1 {B L A M b : Nat} (h : Dr B L A M b) : Lk B ((L : Int) + 1) A M := ⟨by have := h.b1; omega, by have := h.b2; omega, by omega, by have := h.l; omega, by omega, by have := h.a; omega, by omega, by have := h.m; omega⟩
theorem s4 (ns : List Int) (n : Int) (B L A M b : Nat) (h : Dr B L A M b) {o2 o3 o4 o5 o6 o7 o8 o9 o10 o11 o12 o13 o14 o15 o16 o17 o18 o19 o20 o21 : Option D} : s_law_4 (EV ns n [o2.map .val, some (.val (.int (B : Nat))), some (.val (.int (L : Nat))), some (.val (.int (A : Nat))), some (.val (.int (M : Nat))), o7.map .val, o8.map .val, o9.map .val, o10.map .val, o11.map .val, o12.map .val, o13.map .val, o14.map .val, o15.map .val, o16.map .val, o17.map .val, o18.map .val, o19.map .val, o20.map .val, o21.map .val, none, none, none, none]) = .ok .nx (EV ns n [o2.map .val, some (.val (.int (B : Nat))), some (.val (.int (L : Nat))), some (.val (.int (A : Nat))), some (.val (.int (M : Nat))), o7.map .val, o8.map .val, o9.map .val, o10.map .val, o11.map .val, o12.map .val, o13.map .val, o14.map .val, o15.map .val, o16.map .val, o17.map .val, o18.map .val, o19.map .val, o20.map .val, o21.map .val, none, none, none, none]) := by
  have j0 := judge h.lk
  have t0 := jtru B L A M
  have j1 := judge h.lk1
  have t1 := jtru B ((L : Int) + 1) A M
  have k1 := jch_less h.lk
  generalize jchD B L A M = J0 at *
  generalize jchD B ((L : Int) + 1) A M = J1 at *
  cases q : jch B L A M with
  | false =>
    rw [q] at t0
    by_cases z : (0 : Int) < (A : Int)
    · have z' : 0 < A := by omega
      simp [s_law_4, toWs, j0, t0, dGt, z']
    · have z' : ¬ 0 < A := by omega
      simp [s_law_4, toWs, j0, t0, dGt, z']
  | true =>
    rw [q] at t0
    rw [k1 q] at t1
    by_cases z : (0 : Int) < (A : Int)
    · have j2 := judge (B := B) (L := L) (A := (A : Int) - 1) (M := M) ⟨h.lk.b1, h.lk.b2, h.lk.l1, h.lk.l2, by omega, by have := h.a; omega, h.lk.m1, h.lk.m2⟩
      have t2 := jtru B L ((A : Int) - 1) M
      rw [jch_all h.lk z q] at t2
      generalize jchD B L ((A : Int) - 1) M = J2 at *
      have z' : 0 < A := by omega
      simp [s_law_4, toWs, j0, t0, dAdd, j1, t1, dGt, z', dSub, j2, t2]
    · have z' : ¬ 0 < A := by omega
      simp [s_law_4, toWs, j0, t0, dAdd, j1, t1, dGt, z']
theorem s5_run (ρ : DL.Env) (B L A M : Int) (J : D) (k : Bool) (h3 : ρ[3]? = some (some (.val (.int B)))) (h4 : ρ[4]? = some (some (.val (.int L)))) (h5 : ρ[5]? = some (some (.val (.int A)))) (h6 : ρ[6]? = some (some (.val (.int M)))) (X Y : Int) (j : F_judge_check [.val (.int B), .val (.int L), .val (.int A), .val (.int M)] = .ok J []) (u : fBoolO bs [J] = some (.bl k))
    (x : F_greatest_hidden [.val (.int B), .val (.int L), .val (.int A)] = .ok (.int X) []) (y : F_greatest_hidden [.val (.int B), .val (.int (L + 1)), .val (.int A)] = .ok (.int Y) []) (e : dNe (.bl k) (.bl (decide (X ≤ M))) = some (.bl false)) (e2 : dNe (.int Y) (.int (X - 1)) = some (.bl false)) : s_law_5 ρ = .ok .nx ρ := by
  simp [s_law_5, toWs, h3, h4, h5, h6, j, u, x, dLe, e, dAdd, y, dSub, e2]
theorem s5 (ns : List Int) (n : Int) (B L A M b : Nat) (h : Dr B L A M b) {o2 o3 o4 o5 o6 o7 o8 o9 o10 o11 o12 o13 o14 o15 o16 o17 o18 o19 o20 o21 : Option D} : s_law_5 (EV ns n [o2.map .val, some (.val (.int (B : Nat))), some (.val (.int (L : Nat))), some (.val (.int (A : Nat))), some (.val (.int (M : Nat))), o7.map .val, o8.map .val, o9.map .val, o10.map .val, o11.map .val, o12.map .val, o13.map .val, o14.map .val, o15.map .val, o16.map .val, o17.map .val, o18.map .val, o19.map .val, o20.map .val, o21.map .val, none, none, none, none]) = .ok .nx (EV ns n [o2.map .val, some (.val (.int (B : Nat))), some (.val (.int (L : Nat))), some (.val (.int (A : Nat))), some (.val (.int (M : Nat))), o7.map .val, o8.map .val, o9.map .val, o10.map .val, o11.map .val, o12.map .val, o13.map .val, o14.map .val, o15.map .val, o16.map .val, o17.map .val, o18.map .val, o19.map .val, o20.map .val, o21.map .val, none, none, none, none]) := by
  have x := hidden (B := B) (L := L) (A := A) ⟨h.lk.b1, h.lk.b2, h.lk.l1, h.lk.l2, h.lk.a1, h.lk.a2, by omega, by omega⟩
  have y := hidden (B := B) (L := (L : Int) + 1) (A := A) ⟨h.lk1.b1, h.lk1.b2, h.lk1.l1, h.lk1.l2, h.lk1.a1, h.lk1.a2, by omega, by omega⟩
  have e := jch_hid h.lk (by have := h.l; omega)
  refine s5_run _ _ _ _ _ _ _ rfl rfl rfl rfl _ _ (judge h.lk) (jbool _ _ _ _) x y ?_ ?_
  · rw [e, ne_bl]; simp
  · rw [ne_int]
    have : (A : Int) + B - (L + 1) = A + B - L - 1 := by omega
    rw [this]
    simp
theorem s6 (ns : List Int) (n : Int) (B L A M b : Nat) (h : Dr B L A M b) {o2 o3 o4 o5 o6 o7 o8 o9 o10 o11 o12 o13 o14 o15 o16 o17 o18 o19 o20 o21 : Option D} : s_law_6 (EV ns n [o2.map .val, some (.val (.int (B : Nat))), some (.val (.int (L : Nat))), some (.val (.int (A : Nat))), o6.map .val, some (.val (.int (b : Nat))), o8.map .val, o9.map .val, o10.map .val, o11.map .val, o12.map .val, o13.map .val, o14.map .val, o15.map .val, o16.map .val, o17.map .val, o18.map .val, o19.map .val, o20.map .val, o21.map .val, none, none, none, none]) = .ok .nx (EV ns n [o2.map .val, some (.val (.int (B : Nat))), some (.val (.int (L : Nat))), some (.val (.int (A : Nat))), o6.map .val, some (.val (.int (b : Nat))), some (.val (odD (od B L A b))), o9.map .val, o10.map .val, o11.map .val, o12.map .val, o13.map .val, o14.map .val, o15.map .val, o16.map .val, o17.map .val, o18.map .val, o19.map .val, o20.map .val, o21.map .val, none, none, none, none]) := by
  have q := odds (B := B) (L := L) (A := A) (b := b) (by have := h.b1; omega) h.b2 (by have := h.l; omega) h.a (by have := h.b; omega)
  generalize odD (od B L A b) = OD at *
  simp [s_law_6, toWs, q]
theorem pair_ne : dNe (odD (1, 1)) (.tup [.int 1, .int 1]) = some (.bl false) := by
  have h := eq_tup eInt (l := [1, 1]) (r := [1, 1]) (fun _ _ => trivial) (fun _ _ => trivial) (by decide)
  unfold dNe
  rw [show eqB (odD (1, 1)) (.tup [.int 1, .int 1]) = _ from h]
  rfl
theorem ftup_od (q : Nat × Nat) : fTup [odD q] = some (odD q) := rfl
theorem s7_run (ρ : DL.Env) (B L A b : Int) (D0 D1 D2 D3 D4 : D) (h3 : ρ[3]? = some (some (.val (.int B)))) (h4 : ρ[4]? = some (some (.val (.int L)))) (h5 : ρ[5]? = some (some (.val (.int A)))) (h7 : ρ[7]? = some (some (.val (.int b)))) (h8 : ρ[8]? = some (some (.val D0)))
    (o1 : F_odds_to_pass [.val (.int B), .val (.int (L + 1)), .val (.int A), .val (.int b)] = .ok D1 []) (o2 : F_odds_to_pass [.val (.int B), .val (.int L), .val (.int A), .val (.int (b + 1))] = .ok D2 []) (o3 : F_odds_to_pass [.val (.int B), .val (.int L), .val (.int A), .val (.int 0)] = .ok D3 []) (o4 : F_odds_to_pass [.val (.int B), .val (.int L), .val (.int L), .val (.int b)] = .ok D4 [])
    (l1 : F_law_is_less [.val D0, .val D1] = .ok (.bl false) []) (l2 : F_law_is_less [.val D0, .val D2] = .ok (.bl false) []) (t3 : fTup [D3] = some D3) (t4 : fTup [D4] = some D4) (n3 : dNe D3 (.tup [.int 1, .int 1]) = some (.bl false)) (n4 : dNe D4 (.tup [.int 1, .int 1]) = some (.bl false)) : s_law_7 ρ = .ok .nx ρ := by
  have t2 : (2 : Nat) ≤ sizeLine := by decide
  simp [s_law_7, toWs, h3, h4, h5, h7, h8, dAdd, o1, l1, dTru, o2, l2, o3, t3, t2, n3, o4, t4, n4]
theorem s7 (ns : List Int) (n : Int) (B L A M b : Nat) (h : Dr B L A M b) {o2 o3 o4 o5 o6 o7 o8 o9 o10 o11 o12 o13 o14 o15 o16 o17 o18 o19 o20 o21 : Option D} : s_law_7 (EV ns n [o2.map .val, some (.val (.int (B : Nat))), some (.val (.int (L : Nat))), some (.val (.int (A : Nat))), o6.map .val, some (.val (.int (b : Nat))), some (.val (odD (od B L A b))), o9.map .val, o10.map .val, o11.map .val, o12.map .val, o13.map .val, o14.map .val, o15.map .val, o16.map .val, o17.map .val, o18.map .val, o19.map .val, o20.map .val, o21.map .val, none, none, none, none]) = .ok .nx (EV ns n [o2.map .val, some (.val (.int (B : Nat))), some (.val (.int (L : Nat))), some (.val (.int (A : Nat))), o6.map .val, some (.val (.int (b : Nat))), some (.val (odD (od B L A b))), o9.map .val, o10.map .val, o11.map .val, o12.map .val, o13.map .val, o14.map .val, o15.map .val, o16.map .val, o17.map .val, o18.map .val, o19.map .val, o20.map .val, o21.map .val, none, none, none, none]) := by
  have hb1 := h.b1
  have hb2 := h.b2
  have hl := h.l
  have ha := h.a
  have hb := h.b
  have o1 := odds (B := B) (L := L + 1) (A := A) (b := b) (by omega) hb2 (by omega) (by omega) (by omega)
  have o2 := odds (B := B) (L := L) (A := A) (b := b + 1) (by omega) hb2 (by omega) (by omega) (by omega)
  have o3 := odds (B := B) (L := L) (A := A) (b := 0) (by omega) hb2 (by omega) (by omega) (by omega)
  have o4 := odds (B := B) (L := L) (A := L) (b := b) (by omega) hb2 (by omega) (by omega) (by omega)
  have w0 := od_le (B := B) (L := L) (A := A) (b := b) hb2 (by omega) ha (by omega)
  have w1 := od_le (B := B) (L := L + 1) (A := A) (b := b) hb2 (by omega) (by omega) (by omega)
  have w2 := od_le (B := B) (L := L) (A := A) (b := b + 1) hb2 (by omega) ha (by omega)
  have t := law_tab B (List.mem_range.mpr hb2) L (List.mem_range.mpr hl) A (List.mem_range.mpr (by omega)) b (List.mem_range.mpr hb)
  unfold lawOd at t
  simp only [Bool.and_eq_true, decide_eq_true_eq] at t
  obtain ⟨t1, t2, t3, t4⟩ := t
  rw [t3] at o3
  rw [t4] at o4
  have l1 := less (od B L A b) (od B (L + 1) A b) (by omega) (by omega)
  have l2 := less (od B L A b) (od B L A (b + 1)) (by omega) (by omega)
  rw [t1] at l1
  rw [t2] at l2
  exact s7_run _ _ _ _ _ _ _ _ _ _ rfl rfl rfl rfl rfl o1 o2 o3 o4 l1 l2 (ftup_od _) (ftup_od _) pair_ne pair_ne
def headD (l : List Int) : D := match l.head? with
  | some x => .int x
  | none => .non
theorem s8 (ns : List Int) (n : Int) (B L A M b : Nat) (h : Dr B L A M b) {o2 o3 o4 o5 o6 o7 o8 o9 o10 o11 o12 o13 o14 o15 o16 o17 o18 o19 o20 o21 : Option D} : s_law_8 (EV ns n [o2.map .val, some (.val (.int (B : Nat))), o4.map .val, some (.val (.int (A : Nat))), some (.val (.int (M : Nat))), o7.map .val, o8.map .val, o9.map .val, o10.map .val, o11.map .val, o12.map .val, o13.map .val, o14.map .val, o15.map .val, o16.map .val, o17.map .val, o18.map .val, o19.map .val, o20.map .val, o21.map .val, none, none, none, none]) = .ok .nx (EV ns n [o2.map .val, some (.val (.int (B : Nat))), o4.map .val, some (.val (.int (A : Nat))), some (.val (.int (M : Nat))), o7.map .val, o8.map .val, some (.val (headD (tells B A M))), o10.map .val, o11.map .val, o12.map .val, o13.map .val, o14.map .val, o15.map .val, o16.map .val, o17.map .val, o18.map .val, o19.map .val, o20.map .val, o21.map .val, none, none, none, none]) := by
  have q := least (B := B) (A := A) (M := M) h.lk.b1 h.lk.b2 h.lk.a1 (by have := h.lk.a2; have := h.lk.l2; omega) h.lk.m1 h.lk.m2
  change _ = FR.ok (headD (tells B A M)) [] at q
  generalize headD (tells B A M) = HD at *
  simp [s_law_8, toWs, q]
theorem s9 (ns : List Int) (n : Int) (B L A M b : Nat) (h : Dr B L A M b) {o2 o3 o4 o5 o6 o7 o8 o9 o10 o11 o12 o13 o14 o15 o16 o17 o18 o19 o20 o21 : Option D} : s_law_9 (EV ns n [o2.map .val, some (.val (.int (B : Nat))), o4.map .val, some (.val (.int (A : Nat))), some (.val (.int (M : Nat))), o7.map .val, o8.map .val, some (.val (headD (tells B A M))), o10.map .val, o11.map .val, o12.map .val, o13.map .val, o14.map .val, o15.map .val, o16.map .val, o17.map .val, o18.map .val, o19.map .val, o20.map .val, o21.map .val, none, none, none, none]) = .ok .nx (EV ns n [o2.map .val, some (.val (.int (B : Nat))), o4.map .val, some (.val (.int (A : Nat))), some (.val (.int (M : Nat))), o7.map .val, o8.map .val, some (.val (headD (tells B A M))), o10.map .val, o11.map .val, o12.map .val, o13.map .val, o14.map .val, o15.map .val, o16.map .val, o17.map .val, o18.map .val, o19.map .val, o20.map .val, o21.map .val, none, none, none, none]) := by
  have ab : (A : Int) ≤ B := by have := h.lk.a2; have := h.lk.l2; omega
  cases q : tells B A M with
  | nil =>
    have k := tells_nil q ab
    have j := judge (B := B) (L := B) (A := A) (M := M) ⟨h.lk.b1, h.lk.b2, by omega, by omega, h.lk.a1, ab, h.lk.m1, h.lk.m2⟩
    have t := jtru B B A M
    rw [k] at t
    generalize jchD B B A M = J at *
    simp [s_law_9, headD, dNotN, dIsN, toWs, j, t]
  | cons x l =>
    obtain ⟨x1, x2, x3, x4⟩ := tells_head q
    have j := judge (B := B) (L := x) (A := A) (M := M) ⟨h.lk.b1, h.lk.b2, by have := h.lk.a1; omega, x2, h.lk.a1, x1, h.lk.m1, h.lk.m2⟩
    have t := jtru B x A M
    rw [x3] at t
    generalize jchD B x A M = J at *
    by_cases z : (A : Int) < x
    · have j' := judge (B := B) (L := x - 1) (A := A) (M := M) ⟨h.lk.b1, h.lk.b2, by have := h.lk.a1; omega, by omega, h.lk.a1, by omega, h.lk.m1, h.lk.m2⟩
      have t' := jtru B (x - 1) A M
      rw [x4 (x - 1) (by omega) (by omega)] at t'
      generalize jchD B (x - 1) A M = J' at *
      simp [s_law_9, headD, dNotN, dIsN, toWs, j, t, dGt, z, dSub, j', t']
    · simp [s_law_9, headD, dNotN, dIsN, toWs, j, t, dGt, z]
theorem s10 (ns : List Int) (n : Int) (B L A M b : Nat) (h : Dr B L A M b) {o2 o3 o4 o5 o6 o7 o8 o9 o10 o11 o12 o13 o14 o15 o16 o17 o18 o19 o20 o21 : Option D} : ∃ x : Nat, A ≤ x ∧ x ≤ L ∧ notLess (od B L A b) (od B x A b) = true ∧ s_law_10 (EV ns n [o2.map .val, some (.val (.int (B : Nat))), o4.map .val, some (.val (.int (A : Nat))), o6.map .val, some (.val (.int (b : Nat))), some (.val (odD (od B L A b))), o9.map .val, o10.map .val, o11.map .val, o12.map .val, o13.map .val, o14.map .val, o15.map .val, o16.map .val, o17.map .val, o18.map .val, o19.map .val, o20.map .val, o21.map .val, none, none, none, none]) = .ok .nx (EV ns n [o2.map .val, some (.val (.int (B : Nat))), o4.map .val, some (.val (.int (A : Nat))), o6.map .val, some (.val (.int (b : Nat))), some (.val (odD (od B L A b))), o9.map .val, some (.val (.int (x : Nat))), o11.map .val, o12.map .val, o13.map .val, o14.map .val, o15.map .val, o16.map .val, o17.map .val, o18.map .val, o19.map .val, o20.map .val, o21.map .val, none, none, none, none]) := by
  obtain ⟨x, x1, x2, x3, q⟩ := leastfor (B := B) (L := L) (A := A) (b := b) (by have := h.b1; omega) h.b2 (by have := h.l; omega) h.a (by have := h.b; omega)
  refine ⟨x, x1, x2, x3, ?_⟩
  have t := ftup_od (od B L A b)
  generalize odD (od B L A b) = OD at *
  simp [s_law_10, toWs, t, q]
theorem s11_run (ρ : DL.Env) (B L A b x : Int) (D0 D1 : D) (h3 : ρ[3]? = some (some (.val (.int B)))) (h4 : ρ[4]? = some (some (.val (.int L)))) (h5 : ρ[5]? = some (some (.val (.int A)))) (h7 : ρ[7]? = some (some (.val (.int b)))) (h8 : ρ[8]? = some (some (.val D0))) (h10 : ρ[10]? = some (some (.val (.int x))))
    (le : ¬ L < x) (o1 : F_odds_to_pass [.val (.int B), .val (.int x), .val (.int A), .val (.int b)] = .ok D1 []) (l1 : F_law_is_less [.val D0, .val D1] = .ok (.bl false) []) : s_law_11 ρ = .ok .nx ρ := by
  simp [s_law_11, toWs, h3, h4, h5, h7, h8, h10, dIsN, dGt, le, o1, l1, dTru]
theorem s11 (ns : List Int) (n : Int) (B L A M b x : Nat) (h : Dr B L A M b) (x1 : A ≤ x) (x2 : x ≤ L) (x3 : notLess (od B L A b) (od B x A b) = true) {o2 o3 o4 o5 o6 o7 o8 o9 o10 o11 o12 o13 o14 o15 o16 o17 o18 o19 o20 o21 : Option D} : s_law_11 (EV ns n [o2.map .val, some (.val (.int (B : Nat))), some (.val (.int (L : Nat))), some (.val (.int (A : Nat))), o6.map .val, some (.val (.int (b : Nat))), some (.val (odD (od B L A b))), o9.map .val, some (.val (.int (x : Nat))), o11.map .val, o12.map .val, o13.map .val, o14.map .val, o15.map .val, o16.map .val, o17.map .val, o18.map .val, o19.map .val, o20.map .val, o21.map .val, none, none, none, none]) = .ok .nx (EV ns n [o2.map .val, some (.val (.int (B : Nat))), some (.val (.int (L : Nat))), some (.val (.int (A : Nat))), o6.map .val, some (.val (.int (b : Nat))), some (.val (odD (od B L A b))), o9.map .val, some (.val (.int (x : Nat))), o11.map .val, o12.map .val, o13.map .val, o14.map .val, o15.map .val, o16.map .val, o17.map .val, o18.map .val, o19.map .val, o20.map .val, o21.map .val, none, none, none, none]) := by
  have hb1 := h.b1
  have hb2 := h.b2
  have hl := h.l
  have ha := h.a
  have hb := h.b
  have o1 := odds (B := B) (L := x) (A := A) (b := b) (by omega) hb2 (by omega) x1 (by omega)
  have w0 := od_le (B := B) (L := L) (A := A) (b := b) hb2 (by omega) ha (by omega)
  have w1 := od_le (B := B) (L := x) (A := A) (b := b) hb2 (by omega) x1 (by omega)
  have l1 := less (od B L A b) (od B x A b) (by omega) (by omega)
  rw [x3] at l1
  exact s11_run _ _ _ _ _ _ _ _ rfl rfl rfl rfl rfl rfl (by omega) o1 l1
end T38
set_option Elab.async false
set_option linter.all false
set_option maxRecDepth 100000
set_option maxHeartbeats 1000000
namespace T38
open PySem PySem.Spec PyProof.Rows L2 DL
/-! ### letters -/
def H1 : List Str := ["ann", "bob", "cy", "dan"]
def H2 : List Str := ["b2", "zed", "ann", "x"]
def KN : List Str := ["bill", "bought", "check", "cover", "draft"]
def RN : List Str := ["clean", "full", "asked", "part", "about"]
abbrev strD (l : List Str) : List D := l.map D.str
theorem isrowL (l : List D) : F_is_row [.val (.lst l)] = .ok (.bl true) [] := by
  simp [F_is_row, m_is_row, ev_runF, startE, finE, outsE, isTys, D.ty, Ty.sub]
theorem isrowT (l : List D) : F_is_row [.val (.tup l)] = .ok (.bl true) [] := by
  simp [F_is_row, m_is_row, ev_runF, startE, finE, outsE, isTys, D.ty, Ty.sub]
def NM : List Str := ["ann", "bob", "cy", "dan", "b2", "zed", "x", "tea", "salt"]
theorem isnm : ∀ x ∈ NM, F_is_name [.val (.str x)] = .ok (.bl true) [] := by
  intro x hx
  simp only [NM, List.mem_cons, List.not_mem_nil, or_false] at hx
  rcases hx with rfl | rfl | rfl | rfl | rfl | rfl | rfl | rfl | rfl <;> rfl
theorem ckname (p : D) (x : Str) (hx : x ∈ NM) : F_check_name [.val p, .val (.str x)] = .ok .non [] := by
  simp [F_check_name, m_check_name, ev_runF, startE, toWs, isnm x hx, dTru, finE, outsE]
theorem sIx0 (n : Nat) : HT.sIx n 0 none = 0 := rfl
theorem cutTo {α : Type} (e : α → D) (l : List α) (k : Nat) : DL.cutD (l.map e) none (some (k : Int)) = (l.take k).map e := by
  rw [cutD_map, HT.sIx_nat]
  simp [sIx0, List.take_eq_take_iff]
/-- the walk of known_row over names all different and known -/
theorem krloop (p : D) (T : D) (known things : List Str) (nd : things.Nodup) (hk : ∀ x ∈ things, x ∈ known) (hT : fLst [T] = some (.lst (strD things))) : ∀ (suf pre : List Str), things = pre ++ suf → ∀ a b : Option D, ∃ a' b' : Option D, forGo (mTT (mTCons (mTN 3) (mTCons (mTN 4) mTNil))) b_known_row_1 ((suf.zipIdx pre.length).map fun q => .tup [.int (q.2 : Nat), D.str q.1]) [some (.val p), some (.val T), some (.val (.tup (strD known))), a.map .val, b.map .val] = .ok .nx [some (.val p), some (.val T), some (.val (.tup (strD known))), a'.map .val, b'.map .val]
  | [], pre, e, a, b => ⟨a, b, rfl⟩
  | x :: suf, pre, e, a, b => by
    obtain ⟨a', b', ih⟩ := krloop p T known things nd hk hT suf (pre ++ [x]) (by simp [e]) (some (.int (pre.length : Nat))) (some (.str x))
    have hx : x ∈ known := hk x (by simp [e])
    have h3 : x ∉ pre := by
      rw [e] at nd
      exact fun z => (List.nodup_append.mp nd).2.2 x z x (by simp) rfl
    have h4 : things.take pre.length = pre := by simp [e]
    have h5 := cutTo D.str things pre.length
    rw [h4] at h5
    have h6 := nin_strsT x known
    have h7 := in_strs x pre
    refine ⟨a', b', ?_⟩
    rw [show (pre ++ [x]).length = pre.length + 1 by simp] at ih
    simp only [Option.map_some] at ih
    unfold strD at *
    generalize known.map D.str = KD at *
    generalize things.map D.str = TD at *
    generalize pre.map D.str = PD at *
    simp [forGo, b_known_row_1, isTy, D.ty, Ty.sub, dTru, h6, hx, hT, dCut, h5, h7, h3, ih]
/-- a row told as a list or as a tuple -/
structure Row (T : D) (l : List Str) : Prop where
  row : F_is_row [.val T] = .ok (.bl true) []
  seq : T.seq = some (strD l)
  lst : fLst [T] = some (.lst (strD l))
  tup : fTup [T] = some (.tup (strD l))
  isin : ∀ x, dIn (.str x) T = some (.bl (decide (x ∈ l)))
  len : fLen [T] = some (.int (l.length : Nat))
theorem Row.l (l : List Str) : Row (.lst (strD l)) l := ⟨isrowL _, rfl, rfl, rfl, fun x => in_strs x l, by simp [fLen, strD]⟩
theorem Row.t (l : List Str) : Row (.tup (strD l)) l := ⟨isrowT _, rfl, rfl, rfl, fun x => in_strsT x l, by simp [fLen, strD]⟩
theorem knownrow (p : D) {T : D} {known things : List Str} (R : Row T things) (nd : things.Nodup) (hk : ∀ x ∈ things, x ∈ known) (h5 : things.length ≤ 9) (h6 : known.length ≤ 9) : F_known_row [.val p, .val T, .val (.tup (strD known))] = .ok (.tup (strD (known.filter fun x => decide (x ∈ things)))) [] := by
  obtain ⟨a', b', h⟩ := krloop p T known things nd hk R.lst things [] rfl none none
  simp only [List.length_nil, Option.map_none] at h
  have e1 := enumD_map D.str things 0
  rw [← e1] at h
  have h2 := lcs_filter (f := lcIt [4] (mTN 4) t_known_row_1 (mVar 4)) (ρ := [some (.val p), some (.val T), some (.val (.tup (strD known))), a'.map .val, b'.map .val]) D.str D.str (fun x => decide (x ∈ things)) id known (fun x hx => by
    have := R.isin x
    by_cases hx : x ∈ things <;> simp [lcIt, t_known_row_1, wipeE, restore, this, hx])
  rw [List.map_id] at h2
  have k1 : (known.map D.str).length ≤ sizeLine := sizeL (by simp; omega)
  have k2 : (things.map D.str).length ≤ sizeLine := sizeL (by simp; omega)
  have r1 := R.row
  have r2 := R.seq
  unfold strD at *
  generalize (known.filter fun x => decide (x ∈ things)).map D.str = FD at *
  generalize known.map D.str = KD at *
  generalize things.map D.str = TD at *
  have sk : (D.tup KD).seq = some KD := rfl
  simp [F_known_row, m_known_row, ev_runF, startE, toWs, r1, dTru, r2, h, sk, notOwn_eq, k1, h2, fTup, finE, outsE]
theorem hloop (a0 : Option W) (T : D) (hs : List Str) (nd : hs.Nodup) (hk : ∀ x ∈ hs, x ∈ NM) (hT : fLst [T] = some (.lst (strD hs))) (c d e f g h : D) : ∀ (suf pre : List Str), hs = pre ++ suf → ∀ a b : Option D, ∃ a' b' : Option D, forGo (mTT (mTCons (mTN 8) (mTCons (mTN 9) mTNil))) b_Letter_init_1 ((suf.zipIdx pre.length).map fun q => .tup [.int (q.2 : Nat), D.str q.1]) [a0, some (.val T), some (.val c), some (.val d), some (.val e), some (.val f), some (.val g), some (.val h), a.map .val, b.map .val] = .ok .nx [a0, some (.val T), some (.val c), some (.val d), some (.val e), some (.val f), some (.val g), some (.val h), a'.map .val, b'.map .val]
  | [], pre, _, a, b => ⟨a, b, rfl⟩
  | x :: suf, pre, eq, a, b => by
    obtain ⟨a', b', ih⟩ := hloop a0 T hs nd hk hT c d e f g h suf (pre ++ [x]) (by simp [eq]) (some (.int (pre.length : Nat))) (some (.str x))
    have hx : x ∈ NM := hk x (by simp [eq])
    have h3 : x ∉ pre := by
      rw [eq] at nd
      exact fun z => (List.nodup_append.mp nd).2.2 x z x (by simp) rfl
    have h4 : hs.take pre.length = pre := by simp [eq]
    have h5 := cutTo D.str hs pre.length
    rw [h4] at h5
    have h7 := in_strs x pre
    have h8 := ckname (.str "hands") x hx
    refine ⟨a', b', ?_⟩
    rw [show (pre ++ [x]).length = pre.length + 1 by simp] at ih
    simp only [Option.map_some] at ih
    unfold strD at *
    generalize hs.map D.str = TD at *
    generalize pre.map D.str = PD at *
    simp [forGo, b_Letter_init_1, hT, dCut, h5, h7, h3, toWs, h8, ih]
theorem ckdays (x y z : Int) (hx : 0 ≤ x) (hy : 0 ≤ y) (hz : 0 ≤ z) (hx2 : x ≤ 999) (hy2 : y ≤ 999) (hz2 : z ≤ 999) : F_check_days_letters [.val (.lst [.int x, .int y, .int z])] = .ok .non [] := by
  have h1 := cknum (.str "days") x 0 999 hx hx2
  have h2 := cknum (.str "days") y 0 999 hy hy2
  have h3 := cknum (.str "days") z 0 999 hz hz2
  simp [F_check_days_letters, m_check_days_letters, ev_runF, startE, toWs, isrowL, dTru, fLen, ne_int, D.seq, D.lis, enumD, forGo, b_check_days_letters_1, h1, h2, h3, finE, outsE]
structure Lt where
  h1 : Str
  h2 : Str
  h3 : Str
  h4 : Str
  g : Str
  a : Int
  m : Int
  x : Int
  y : Int
  z : Int
  w : List Str
  r : List Str
def Lt.hs (l : Lt) : List Str := [l.h1, l.h2, l.h3, l.h4]
abbrev letD (l : Lt) : D := .ob 2 [.tup (strD l.hs), .str l.h1, .str l.h2, .str l.h3, .str l.h4, .str l.g, .int l.a, .int l.m, .tup [.int l.x, .int l.y, .int l.z], .int l.x, .int l.y, .int l.z, .tup (strD l.w), .tup (strD l.r)]
structure LtOk (l : Lt) : Prop where
  nd : l.hs.Nodup
  nm : ∀ x ∈ l.hs, x ∈ NM
  g : l.g ∈ NM
  a1 : 1 ≤ l.a
  a2 : l.a ≤ 900
  m1 : 1 ≤ l.m
  m2 : l.m ≤ 9000
  x1 : 0 ≤ l.x
  x2 : l.x ≤ 999
  y1 : 0 ≤ l.y
  y2 : l.y ≤ 999
  z1 : 0 ≤ l.z
  z2 : l.z ≤ 999
  w : l.w ∈ subs KN
  r : l.r ∈ subs RN
theorem w_tab : ∀ w ∈ subs KN, w.Nodup ∧ w.reverse.Nodup ∧ (∀ x ∈ w, x ∈ KN) ∧ (∀ x ∈ w.reverse, x ∈ KN) ∧ w.length ≤ 5 ∧ (KN.filter fun x => decide (x ∈ w)) = w ∧ (KN.filter fun x => decide (x ∈ w.reverse)) = w := by decide +kernel
theorem r_tab : ∀ w ∈ subs RN, w.Nodup ∧ w.reverse.Nodup ∧ (∀ x ∈ w, x ∈ RN) ∧ (∀ x ∈ w.reverse, x ∈ RN) ∧ w.length ≤ 5 ∧ (RN.filter fun x => decide (x ∈ w)) = w ∧ (RN.filter fun x => decide (x ∈ w.reverse)) = w := by decide +kernel
theorem newlet_run (H WT RT : D) (l : Lt) (ok : LtOk l) (RH : Row H l.hs) (kw : F_known_row [.val (.str "wants"), .val WT, .val c_KINDS] = .ok (.tup (strD l.w)) []) (kr : F_known_row [.val (.str "rules"), .val RT, .val c_RULES] = .ok (.tup (strD l.r)) []) :
    F_Letter_init [.inn (.ob 2 []), .val H, .val (.str l.g), .val (.int l.a), .val (.int l.m), .val (.lst [.int l.x, .int l.y, .int l.z]), .val WT, .val RT] = .ok .non [.ob 2 [.tup (strD l.hs), .str l.h1, .str l.h2, .str l.h3, .str l.h4, .str l.g, .int l.a, .int l.m, .tup [.int l.x, .int l.y, .int l.z], .int l.x, .int l.y, .int l.z, .tup (strD l.w), .tup (strD l.r)]] := by
  obtain ⟨a', b', h⟩ := hloop (some (.inn (.ob 2 []))) H l.hs ok.nd ok.nm RH.lst (.str l.g) (.int l.a) (.int l.m) (.lst [.int l.x, .int l.y, .int l.z]) WT RT l.hs [] rfl none none
  simp only [List.length_nil, Option.map_none] at h
  have e1 := enumD_map D.str l.hs 0
  rw [← e1] at h
  have r1 := RH.row
  have r2 := RH.seq
  have r3 := RH.tup
  have r4 := RH.len
  have c1 := ckname (.str "goods") l.g ok.g
  have c2 := cknum (.str "amount") l.a 1 900 ok.a1 ok.a2
  have c3 := cknum (.str "most") l.m 1 9000 ok.m1 ok.m2
  have c4 := ckdays l.x l.y l.z ok.x1 ok.y1 ok.z1 ok.x2 ok.y2 ok.z2
  have r4' : fLen [H] = some (.int 4) := r4
  have e4 : strD l.hs = [.str l.h1, .str l.h2, .str l.h3, .str l.h4] := rfl
  have ne4 := ne_int 4 4
  have ft : fTup [.lst [.int l.x, .int l.y, .int l.z]] = some (.tup [.int l.x, .int l.y, .int l.z]) := rfl
  unfold strD at *
  rw [e4] at h r2 r3 ⊢
  generalize l.w.map D.str = WD at *
  generalize l.r.map D.str = RD at *
  simp [F_Letter_init, m_Letter_init, ev_runF, startE, toWs, r1, dTru, r4', ne4, r2, h, c1, c2, c3, c4, r3, cFld, holds, W.put, List.lookup, kw, kr, ft, finE, outsE]
theorem withdays_run (l : Lt) (x y z : Int) (T : D) (h : F_Letter_init [.inn (.ob 2 []), .val (.tup (strD l.hs)), .val (.str l.g), .val (.int l.a), .val (.int l.m), .val (.lst [.int x, .int y, .int z]), .val (.tup (strD l.w)), .val (.tup (strD l.r))] = .ok .non [.ob 2 [.tup (strD l.hs), .str l.h1, .str l.h2, .str l.h3, .str l.h4, .str l.g, .int l.a, .int l.m, .tup [.int x, .int y, .int z], .int x, .int y, .int z, .tup (strD l.w), .tup (strD l.r)]]) :
    F_with_days [.val (letD l), .val (.lst [.int x, .int y, .int z])] = .ok (letD { l with x := x, y := y, z := z }) [] := by
  have e1 : ({ l with x := x, y := y, z := z } : Lt).hs = l.hs := rfl
  unfold letD
  rw [e1]
  unfold strD at *
  generalize l.hs.map D.str = HD at *
  generalize l.w.map D.str = WD at *
  generalize l.r.map D.str = RD at *
  simp [F_with_days, m_with_days, F_check_letter, m_check_letter, ev_runF, startE, toWs, isCl, dTru, dFld, List.lookup, h, holds, W.put, finE, outsE]
theorem withdays (l : Lt) (ok : LtOk l) (x y z : Int) (ok' : LtOk { l with x := x, y := y, z := z }) : F_with_days [.val (letD l), .val (.lst [.int x, .int y, .int z])] = .ok (letD { l with x := x, y := y, z := z }) [] := by
  obtain ⟨w1, w2, w3, w4, w5, w6, w7⟩ := w_tab l.w ok.w
  obtain ⟨r1, r2, r3, r4, r5, r6, r7⟩ := r_tab l.r ok.r
  have kw := knownrow (.str "wants") (Row.t l.w) (known := KN) w1 w3 (by omega) (by decide)
  have kr := knownrow (.str "rules") (Row.t l.r) (known := RN) r1 r3 (by omega) (by decide)
  rw [w6] at kw
  rw [r6] at kr
  exact withdays_run l x y z (.tup (strD l.w)) (newlet_run (.tup (strD l.hs)) (.tup (strD l.w)) (.tup (strD l.r)) { l with x := x, y := y, z := z } ok' (Row.t l.hs) kw kr)
abbrev toldD (l : Lt) : D := .dct [.inr "hands", .inr "goods", .inr "amount", .inr "most", .inr "days", .inr "wants", .inr "rules"] [.lst (strD l.hs), .str l.g, .int l.a, .int l.m, .lst [.int l.x, .int l.y, .int l.z], .lst (strD l.w), .lst (strD l.r)]
theorem t_hands (l : Lt) : dItem (toldD l) (.str "hands") = some (.lst (strD l.hs)) := rfl
theorem t_goods (l : Lt) : dItem (toldD l) (.str "goods") = some (.str l.g) := rfl
theorem t_amount (l : Lt) : dItem (toldD l) (.str "amount") = some (.int l.a) := rfl
theorem t_most (l : Lt) : dItem (toldD l) (.str "most") = some (.int l.m) := rfl
theorem t_days (l : Lt) : dItem (toldD l) (.str "days") = some (.lst [.int l.x, .int l.y, .int l.z]) := rfl
theorem t_wants (l : Lt) : dItem (toldD l) (.str "wants") = some (.lst (strD l.w)) := rfl
theorem t_rules (l : Lt) : dItem (toldD l) (.str "rules") = some (.lst (strD l.r)) := rfl
theorem built (l : Lt) (ok : LtOk l) : F_law_letter_built [.val (toldD l)] = .ok (letD l) [] := by
  obtain ⟨w1, w2, w3, w4, w5, w6, w7⟩ := w_tab l.w ok.w
  obtain ⟨r1, r2, r3, r4, r5, r6, r7⟩ := r_tab l.r ok.r
  have kw := knownrow (.str "wants") (Row.l l.w.reverse) (known := KN) w2 w4 (by simp; omega) (by decide)
  have kr := knownrow (.str "rules") (Row.l l.r.reverse) (known := RN) r2 r4 (by simp; omega) (by decide)
  rw [w7] at kw
  rw [r7] at kr
  have n := newlet_run (.lst (strD l.hs)) (.lst (strD l.w.reverse)) (.lst (strD l.r.reverse)) l ok (Row.l l.hs) kw kr
  have q1 := t_hands l
  have q2 := t_goods l
  have q3 := t_amount l
  have q4 := t_most l
  have q5 := t_days l
  have q6 := t_wants l
  have q7 := t_rules l
  have v1 : dRev (.lst (strD l.w)) = some (.lst (strD l.w.reverse)) := by simp [dRev, strD]
  have v2 : dRev (.lst (strD l.r)) = some (.lst (strD l.r.reverse)) := by simp [dRev, strD]
  unfold letD
  generalize toldD l = TD at *
  generalize strD l.hs = HD at *
  generalize strD l.w.reverse = W2 at *
  generalize strD l.r.reverse = R2 at *
  generalize strD l.w = WD at *
  generalize strD l.r = RD at *
  simp [F_law_letter_built, m_law_letter_built, ev_runF, startE, toWs, q1, q2, q3, q4, q5, q6, q7, v1, v2, n, holds, W.put, finE, outsE]
end T38
set_option Elab.async false
set_option linter.all false
set_option maxRecDepth 100000
set_option maxHeartbeats 1000000
namespace T38
open PySem PySem.Spec PyProof.Rows L2 DL
theorem some_kinds (ns : List Int) (hl : ns.length ≤ 63) (n : Int) (A : Option W) : ∃ w ∈ subs KN, ∃ n' : Int, lcs (lcIt [5] (mTN 5) t_law_letter_1 (mVar 5)) (strD KN) [some (.inn (drw ns n)), A, none, none, none, none, none] = .ok (strD w) [some (.inn (drw ns n')), A, none, none, none, none, none] := by
  obtain ⟨w, ρ', h1, h2, n', rfl⟩ := lcs_some (f := lcIt [5] (mTN 5) t_law_letter_1 (mVar 5)) (fun ρ => ∃ n : Int, ρ = [some (.inn (drw ns n)), A, none, none, none, none, none]) D.str id KN (fun x hx ρ ⟨n, hr⟩ => by
    subst hr
    obtain ⟨r, r1, hr⟩ := taken ns hl n 3 (by decide)
    have hr : F_law_take [.inn (.lst [.rol (ns.map D.int), .int n]), .val (.int 3)] = .ok (.int (r : Nat)) [.lst [.rol (ns.map D.int), .int (n + 1)]] := hr
    refine ⟨_, ?_, n + 1, rfl⟩
    by_cases h : 0 < r
    · right
      simp [lcIt, t_law_letter_1, wipeE, restore, holds, toWs, hr, W.put, dGt, h]
    · left
      simp [lcIt, t_law_letter_1, wipeE, restore, holds, toWs, hr, W.put, dGt, h]) _ ⟨n, rfl⟩
  exact ⟨w, mem_subs h2, n', h1⟩
theorem some_rules (ns : List Int) (hl : ns.length ≤ 63) (n : Int) (A B : Option W) : ∃ w ∈ subs RN, ∃ n' : Int, lcs (lcIt [6] (mTN 6) t_law_letter_2 (mVar 6)) (strD RN) [some (.inn (drw ns n)), A, B, none, none, none, none] = .ok (strD w) [some (.inn (drw ns n')), A, B, none, none, none, none] := by
  obtain ⟨w, ρ', h1, h2, n', rfl⟩ := lcs_some (f := lcIt [6] (mTN 6) t_law_letter_2 (mVar 6)) (fun ρ => ∃ n : Int, ρ = [some (.inn (drw ns n)), A, B, none, none, none, none]) D.str id RN (fun x hx ρ ⟨n, hr⟩ => by
    subst hr
    obtain ⟨r, r1, hr⟩ := taken ns hl n 3 (by decide)
    have hr : F_law_take [.inn (.lst [.rol (ns.map D.int), .int n]), .val (.int 3)] = .ok (.int (r : Nat)) [.lst [.rol (ns.map D.int), .int (n + 1)]] := hr
    refine ⟨_, ?_, n + 1, rfl⟩
    by_cases h : r = 0
    · right
      simp [lcIt, t_law_letter_2, wipeE, restore, holds, toWs, hr, W.put, dEq, h]
    · left
      simp [lcIt, t_law_letter_2, wipeE, restore, holds, toWs, hr, W.put, dEq, h]) _ ⟨n, rfl⟩
  exact ⟨w, mem_subs h2, n', h1⟩
/-- a letter as drawn -/
structure Drawn (l : Lt) : Prop where
  ok : LtOk l
  x : l.x ≤ 29
  y : l.y ≤ 39
  z : l.z ≤ 19
theorem told_merge (a b c d e f g : D) : mergeD [] [] [(.str "hands", a), (.str "goods", b), (.str "amount", c), (.str "most", d), (.str "days", e), (.str "wants", f), (.str "rules", g)] = some ([.inr "hands", .inr "goods", .inr "amount", .inr "most", .inr "days", .inr "wants", .inr "rules"], [a, b, c, d, e, f, g]) := rfl
theorem letter_run (ns : List Int) (n n1 n2 : Int) (HD : D) (g : Str) (KD RD WD SD : List D) (x y z a m : Int)
    (hk : strD KN = KD) (hr' : strD RN = RD)
    (p1 : F_law_pick [.inn (.lst [.rol (ns.map D.int), .int n]), .val (.lst [.lst [.str "ann", .str "bob", .str "cy", .str "dan"], .lst [.str "b2", .str "zed", .str "ann", .str "x"]])] = .ok HD [.lst [.rol (ns.map D.int), .int (n + 1)]])
    (c1 : lcs (lcIt [5] (mTN 5) t_law_letter_1 (mVar 5)) KD [some (.inn (drw ns (n + 1))), some (.val HD), none, none, none, none, none] = .ok WD [some (.inn (drw ns n1)), some (.val HD), none, none, none, none, none])
    (c2 : lcs (lcIt [6] (mTN 6) t_law_letter_2 (mVar 6)) RD [some (.inn (drw ns n1)), some (.val HD), some (.val (.lst WD)), none, none, none, none] = .ok SD [some (.inn (drw ns n2)), some (.val HD), some (.val (.lst WD)), none, none, none, none])
    (t1 : F_law_take [.inn (.lst [.rol (ns.map D.int), .int n2]), .val (.int 20)] = .ok (.int x) [.lst [.rol (ns.map D.int), .int (n2 + 1)]])
    (t2 : F_law_take [.inn (.lst [.rol (ns.map D.int), .int (n2 + 1)]), .val (.int 20)] = .ok (.int y) [.lst [.rol (ns.map D.int), .int (n2 + 1 + 1)]])
    (t3 : F_law_take [.inn (.lst [.rol (ns.map D.int), .int (n2 + 1 + 1)]), .val (.int 20)] = .ok (.int z) [.lst [.rol (ns.map D.int), .int (n2 + 1 + 1 + 1)]])
    (p2 : F_law_pick [.inn (.lst [.rol (ns.map D.int), .int (n2 + 1 + 1 + 1)]), .val (.lst [.str "tea", .str "salt"])] = .ok (.str g) [.lst [.rol (ns.map D.int), .int (n2 + 1 + 1 + 1 + 1)]])
    (t4 : F_law_take [.inn (.lst [.rol (ns.map D.int), .int (n2 + 1 + 1 + 1 + 1)]), .val (.int 40)] = .ok (.int a) [.lst [.rol (ns.map D.int), .int (n2 + 1 + 1 + 1 + 1 + 1)]])
    (t5 : F_law_take [.inn (.lst [.rol (ns.map D.int), .int (n2 + 1 + 1 + 1 + 1 + 1)]), .val (.int 500)] = .ok (.int m) [.lst [.rol (ns.map D.int), .int (n2 + 1 + 1 + 1 + 1 + 1 + 1)]]) :
    F_law_letter [.inn (drw ns n)] = .ok (.dct [.inr "hands", .inr "goods", .inr "amount", .inr "most", .inr "days", .inr "wants", .inr "rules"] [HD, .str g, .int (1 + a), .int (1 + m), .lst [.int (10 + x), .int (20 + y), .int z], .lst WD, .lst SD]) [drw ns (n2 + 1 + 1 + 1 + 1 + 1 + 1)] := by
  have k5 : (5 : Nat) ≤ sizeLine := by decide
  have k4 : (4 : Nat) ≤ sizeLine := by decide
  have k3 : (3 : Nat) ≤ sizeLine := by decide
  have k2 : (2 : Nat) ≤ sizeLine := by decide
  have kl : KD.length ≤ sizeLine := by rw [← hk]; decide
  have rl : RD.length ≤ sizeLine := by rw [← hr']; decide
  have e1 : [D.str "bill", D.str "bought", D.str "check", D.str "cover", D.str "draft"] = KD := hk
  have e2 : [D.str "clean", D.str "full", D.str "asked", D.str "part", D.str "about"] = RD := hr'
  have s1 : (D.tup KD).seq = some KD := rfl
  have s2 : (D.tup RD).seq = some RD := rfl
  simp [F_law_letter, m_law_letter, ev_runF, startE, holds, toWs, k5, k4, k3, k2, e1, e2, p1, W.put, s1, s2, notOwn_eq, kl, rl, c1, c2, t1, t2, t3, t4, t5, p2, dAdd, mPairs, told_merge, finE, outsE]
theorem hands_tab : ∀ hs ∈ [H1, H2], hs.Nodup ∧ ∀ x ∈ hs, x ∈ NM := by decide +kernel
theorem letter (ns : List Int) (hl : ns.length ≤ 63) (n : Int) : ∃ (l : Lt) (n' : Int), Drawn l ∧ F_law_letter [.inn (drw ns n)] = .ok (toldD l) [drw ns n'] := by
  obtain ⟨hs, hh, p1⟩ := lawpick ns hl n (fun h : List Str => D.lst (strD h)) [H1, H2] (by simp) (by simp)
  obtain ⟨w, hw, n1, c1⟩ := some_kinds ns hl (n + 1) (some (.val (.lst (strD hs))))
  obtain ⟨r, hr, n2, c2⟩ := some_rules ns hl n1 (some (.val (.lst (strD hs)))) (some (.val (.lst (strD w))))
  obtain ⟨x, x1, t1⟩ := taken ns hl n2 20 (by decide)
  obtain ⟨y, y1, t2⟩ := taken ns hl (n2 + 1) 20 (by decide)
  obtain ⟨z, z1, t3⟩ := taken ns hl (n2 + 1 + 1) 20 (by decide)
  obtain ⟨g, hg, p2⟩ := lawpick ns hl (n2 + 1 + 1 + 1) D.str ["tea", "salt"] (by simp) (by simp)
  obtain ⟨a, a1, t4⟩ := taken ns hl (n2 + 1 + 1 + 1 + 1) 40 (by decide)
  obtain ⟨m, m1, t5⟩ := taken ns hl (n2 + 1 + 1 + 1 + 1 + 1) 500 (by decide)
  have run := letter_run ns n n1 n2 (.lst (strD hs)) g _ _ (strD w) (strD r) x y z a m rfl rfl p1 c1 c2 t1 t2 t3 p2 t4 t5
  obtain ⟨nd, nm⟩ := hands_tab hs hh
  have h4 : ∃ h1 h2 h3 h4, hs = [h1, h2, h3, h4] := by
    simp only [List.mem_cons, List.not_mem_nil, or_false] at hh
    rcases hh with rfl | rfl
    · exact ⟨_, _, _, _, rfl⟩
    · exact ⟨_, _, _, _, rfl⟩
  obtain ⟨h1, h2, h3, h4, rfl⟩ := h4
  have hgn : g ∈ NM := by
    simp only [List.mem_cons, List.not_mem_nil, or_false] at hg
    rcases hg with rfl | rfl <;> decide
  exact ⟨⟨h1, h2, h3, h4, g, 1 + a, 1 + m, 10 + x, 20 + y, z, w, r⟩, _, ⟨⟨nd, nm, hgn, by show (1 : Int) ≤ 1 + a; omega, by show 1 + (a : Int) ≤ 900; omega, by show (1 : Int) ≤ 1 + m; omega, by show 1 + (m : Int) ≤ 9000; omega, by show (0 : Int) ≤ 10 + x; omega, by show 10 + (x : Int) ≤ 999; omega, by show (0 : Int) ≤ 20 + y; omega, by show 20 + (y : Int) ≤ 999; omega, by show (0 : Int) ≤ z; omega, by show (z : Int) ≤ 999; omega, hw, hr⟩, by show 10 + (x : Int) ≤ 29; omega, by show 20 + (y : Int) ≤ 39; omega, by show (z : Int) ≤ 19; omega⟩, run⟩
end T38
set_option Elab.async false
set_option linter.all false
set_option maxRecDepth 100000
set_option maxHeartbeats 1000000
namespace T38
open PySem PySem.Spec PyProof.Rows L2 DL
/-! ### days -/
structure Ti where
  l1 : Int
  h1 : Int
  l2 : Int
  h2 : Int
  l3 : Int
  h3 : Int
structure TiOk (t : Ti) : Prop where
  a1 : 0 ≤ t.l1
  a2 : t.l1 ≤ t.h1
  a3 : t.h1 ≤ 99
  b1 : 0 ≤ t.l2
  b2 : t.l2 ≤ t.h2
  b3 : t.h2 ≤ 99
  c1 : 0 ≤ t.l3
  c2 : t.l3 ≤ t.h3
  c3 : t.h3 ≤ 99
abbrev spD (t : Ti) : D := .lst [.tup [.int t.l1, .int t.h1], .tup [.int t.l2, .int t.h2], .tup [.int t.l3, .int t.h3]]
abbrev d3 (q : Int × Int × Int) : D := .tup [.int q.1, .int q.2.1, .int q.2.2]
theorem ckspans (t : Ti) (h : TiOk t) : F_check_spans [.val (spD t)] = .ok .non [] := by
  obtain ⟨a1, a2, a3, b1, b2, b3, c1, c2, c3⟩ := h
  have e1 : t.l1 ≤ 99 := by omega
  have e2 : t.l2 ≤ 99 := by omega
  have e3 : t.l3 ≤ 99 := by omega
  simp [F_check_spans, m_check_spans, ev_runF, startE, toWs, isrowL, dTru, fLen, ne_int, D.seq, enumD, forGo, b_check_spans_1, isTy, D.ty, Ty.sub, dIx, L2.atI, L2.ixN, isnum, a1, a2, a3, b1, b2, b3, c1, c2, c3, e1, e2, e3, finE, outsE]
def fst3 (t : Ti) : Int × Int × Int := (t.l1, t.l1 + t.l2, t.l1 + t.l2 + t.l3)
def lst3 (t : Ti) : Int × Int × Int := (t.h1, t.h1 + t.h2, t.h1 + t.h2 + t.h3)
theorem earliest (t : Ti) (h : TiOk t) : F_earliest [.val (spD t)] = .ok (d3 (fst3 t)) [] := by
  have c := ckspans t h
  have k3 : (3 : Nat) ≤ sizeLine := by decide
  simp [F_earliest, m_earliest, ev_runF, startE, toWs, c, dIx, D.seq, L2.atI, L2.ixN, dAdd, k3, fst3, finE, outsE]
theorem latest (t : Ti) (h : TiOk t) : F_latest [.val (spD t)] = .ok (d3 (lst3 t)) [] := by
  have c := ckspans t h
  have k3 : (3 : Nat) ≤ sizeLine := by decide
  simp [F_latest, m_latest, ev_runF, startE, toWs, c, dIx, D.seq, L2.atI, L2.ixN, dAdd, k3, lst3, finE, outsE]
/-- days that may be asked about -/
structure DOk (q : Int × Int × Int) : Prop where
  a1 : 0 ≤ q.1
  a2 : q.1 ≤ 999
  b1 : 0 ≤ q.2.1
  b2 : q.2.1 ≤ 999
  c1 : 0 ≤ q.2.2
  c2 : q.2.2 ≤ 999
theorem fAll3 : fAll [.lst [.bl true, .bl true, .bl true]] = some (.bl true) := rfl
theorem ckletter (l : Lt) : F_check_letter [.val (letD l)] = .ok .non [] := by
  unfold letD
  generalize strD l.hs = HD
  generalize strD l.w = WD
  generalize strD l.r = RD
  simp [F_check_letter, m_check_letter, ev_runF, startE, isCl, dTru, finE, outsE]
theorem ckdays2 (l : Lt) (q : Int × Int × Int) (h : DOk q) : F_check_days_days [.val (letD l), .val (d3 q)] = .ok .non [] := by
  obtain ⟨a1, a2, b1, b2, c1, c2⟩ := h
  have k := ckletter l
  have k3 : (3 : Nat) ≤ sizeLine := by decide
  generalize letD l = LD at *
  simp [F_check_days_days, m_check_days_days, ev_runF, startE, toWs, k, isrowT, dTru, fLen, ne_int, D.seq, notOwn_eq, k3, lcs, lcIt, wipeE, restore, e_check_days_days_1, isnum, a1, a2, b1, b2, c1, c2, fAll3, finE, outsE]
def flt (l : Lt) (q : Int × Int × Int) : Str := if q.2.1 > l.x then "ship" else if q.2.2 > l.y then "until" else if q.2.2 > q.2.1 + l.z then "stale" else ""
def good (l : Lt) (q : Int × Int × Int) : Bool := decide (q.2.1 ≤ l.x) && (decide (q.2.2 ≤ l.y) && decide (q.2.2 ≤ q.2.1 + l.z))
theorem flt_good (l : Lt) (q : Int × Int × Int) : decide (flt l q = "") = good l q := by
  have n1 : ¬ (("ship" : Str) = "") := by decide
  have n2 : ¬ (("until" : Str) = "") := by decide
  have n3 : ¬ (("stale" : Str) = "") := by decide
  unfold flt good
  by_cases h1 : q.2.1 > l.x
  · have : ¬ q.2.1 ≤ l.x := by omega
    simp [h1, this, n1]
  · have e1 : q.2.1 ≤ l.x := by omega
    by_cases h2 : q.2.2 > l.y
    · have : ¬ q.2.2 ≤ l.y := by omega
      simp [h1, h2, this, n2]
    · have e2 : q.2.2 ≤ l.y := by omega
      by_cases h3 : q.2.2 > q.2.1 + l.z
      · have : ¬ q.2.2 ≤ q.2.1 + l.z := by omega
        simp [h1, h2, h3, this, n3]
      · have e3 : q.2.2 ≤ q.2.1 + l.z := by omega
        simp [h1, h2, h3, e1, e2, e3]
theorem lx (l : Lt) : dFld [(2, 9)] (letD l) = some (.int l.x) := rfl
theorem ly (l : Lt) : dFld [(2, 10)] (letD l) = some (.int l.y) := rfl
theorem lz (l : Lt) : dFld [(2, 11)] (letD l) = some (.int l.z) := rfl
theorem fault (l : Lt) (q : Int × Int × Int) (h : DOk q) : F_fault_of [.val (letD l), .val (d3 q)] = .ok (.str (flt l q)) [] := by
  have c := ckdays2 l q h
  have f1 := lx l
  have f2 := ly l
  have f3 := lz l
  generalize letD l = LD at *
  unfold flt
  by_cases h1 : q.2.1 > l.x <;> by_cases h2 : q.2.2 > l.y <;> by_cases h3 : q.2.2 > q.2.1 + l.z <;> simp [F_fault_of, m_fault_of, ev_runF, startE, toWs, c, f1, f2, f3, dIx, D.seq, L2.atI, L2.ixN, dGt, dAdd, h1, h2, h3, finE, outsE]
theorem eq_empty (l : Lt) (q : Int × Int × Int) : dEq (.str (flt l q)) (.str "") = some (.bl (good l q)) := by
  rw [← flt_good]
  simp [dEq]
theorem ne_empty (l : Lt) (q : Int × Int × Int) : dNe (.str (flt l q)) (.str "") = some (.bl (!good l q)) := by
  rw [← flt_good]
  simp [dNe]
def jdD (l : Lt) (t : Ti) : D := if good l (fst3 t) = true then (if good l (lst3 t) = true then .ob 3 [.int (lst3 t).2.2] else .ob 4 [d3 (fst3 t), d3 (lst3 t)]) else .ob 5 [.str (flt l (fst3 t))]
theorem newnever (x : Str) : F_Never_init [.inn (.ob 5 []), .val (.str x)] = .ok .non [.ob 5 [.str x]] := by
  simp [F_Never_init, m_Never_init, ev_runF, startE, cFld, holds, W.put, finE, outsE]
theorem newsure (x : Int) : F_Sure_init [.inn (.ob 3 []), .val (.int x)] = .ok .non [.ob 3 [.int x]] := by
  simp [F_Sure_init, m_Sure_init, ev_runF, startE, cFld, holds, W.put, finE, outsE]
theorem newperhaps (a b : List D) : F_Perhaps_init [.inn (.ob 4 []), .val (.tup a), .val (.tup b)] = .ok .non [.ob 4 [.tup a, .tup b]] := by
  simp [F_Perhaps_init, m_Perhaps_init, ev_runF, startE, toWs, isrowT, dTru, fTup, cFld, holds, W.put, finE, outsE]
theorem cktimes (l : Lt) (t : Ti) (h : TiOk t) : F_check_times [.val (letD l), .val (spD t)] = .ok .non [] := by
  have c := ckspans t h
  have k := ckletter l
  generalize letD l = LD at *
  generalize spD t = SD at *
  simp [F_check_times, m_check_times, ev_runF, startE, toWs, k, c, finE, outsE]
theorem dok_fst {t : Ti} (h : TiOk t) : DOk (fst3 t) := by
  obtain ⟨a1, a2, a3, b1, b2, b3, c1, c2, c3⟩ := h
  unfold fst3
  exact ⟨by omega, by omega, by show 0 ≤ t.l1 + t.l2; omega, by show t.l1 + t.l2 ≤ 999; omega, by show 0 ≤ t.l1 + t.l2 + t.l3; omega, by show t.l1 + t.l2 + t.l3 ≤ 999; omega⟩
theorem dok_lst {t : Ti} (h : TiOk t) : DOk (lst3 t) := by
  obtain ⟨a1, a2, a3, b1, b2, b3, c1, c2, c3⟩ := h
  unfold lst3
  exact ⟨by show 0 ≤ t.h1; omega, by show t.h1 ≤ 999; omega, by show 0 ≤ t.h1 + t.h2; omega, by show t.h1 + t.h2 ≤ 999; omega, by show 0 ≤ t.h1 + t.h2 + t.h3; omega, by show t.h1 + t.h2 + t.h3 ≤ 999; omega⟩
theorem judged (l : Lt) (t : Ti) (h : TiOk t) : F_judge_days [.val (letD l), .val (spD t)] = .ok (jdD l t) [] := by
  have c := cktimes l t h
  have e1 := earliest t h
  have e2 := latest t h
  have f1 := fault l (fst3 t) (dok_fst h)
  have f2 := fault l (lst3 t) (dok_lst h)
  have g1 := ne_empty l (fst3 t)
  have g2 := eq_empty l (lst3 t)
  have n1 := newnever (flt l (fst3 t))
  have n2 := newsure (lst3 t).2.2
  have n3 := newperhaps [.int (fst3 t).1, .int (fst3 t).2.1, .int (fst3 t).2.2] [.int (lst3 t).1, .int (lst3 t).2.1, .int (lst3 t).2.2]
  have ix : dIx (d3 (lst3 t)) (.int 2) = some (.int (lst3 t).2.2) := rfl
  have k2 : (2 : Nat) ≤ sizeLine := by decide
  unfold jdD
  generalize letD l = LD at *
  generalize spD t = SD at *
  unfold d3 at *
  generalize (lst3 t).2.2 = last at *
  generalize flt l (fst3 t) = F1 at *
  generalize flt l (lst3 t) = F2 at *
  generalize hA : D.tup [.int (fst3 t).1, .int (fst3 t).2.1, .int (fst3 t).2.2] = A at *
  generalize D.tup [.int (lst3 t).1, .int (lst3 t).2.1, .int last] = B at *
  cases q1 : good l (fst3 t) <;> cases q2 : good l (lst3 t) <;> rw [q1] at g1 <;> rw [q2] at g2 <;> simp [F_judge_days, m_judge_days, ev_runF, startE, toWs, c, e1, e2, f1, f2, g1, g2, ix, n1, n2, n3, holds, W.put, finE, outsE]
end T38
set_option Elab.async false
set_option linter.all false
set_option maxRecDepth 100000
set_option maxHeartbeats 1000000
namespace T38
open PySem PySem.Spec PyProof.Rows L2 DL
theorem bs3 : bs.lookup 3 = some F_Sure_bool := rfl
theorem bs4 : bs.lookup 4 = some F_Perhaps_bool := rfl
theorem bs5 : bs.lookup 5 = some F_Never_bool := rfl
theorem good_first (l : Lt) (t : Ti) (h : TiOk t) (g : good l (lst3 t) = true) : good l (fst3 t) = true := by
  obtain ⟨a1, a2, a3, b1, b2, b3, c1, c2, c3⟩ := h
  unfold good at *
  simp only [Bool.and_eq_true, decide_eq_true_eq] at *
  unfold lst3 at g
  unfold fst3
  simp only at *
  omega
theorem jdtru (l : Lt) (t : Ti) (h : TiOk t) : obTru bs (jdD l t) = some (good l (lst3 t)) := by
  unfold jdD
  cases q2 : good l (lst3 t) with
  | true =>
    rw [good_first l t h q2]
    simp [obTru, bs3, F_Sure_bool, m_Sure_bool, ev_runF, startE, finE, outsE]
  | false =>
    cases q1 : good l (fst3 t)
    · simp [obTru, bs5, F_Never_bool, m_Never_bool, ev_runF, startE, finE, outsE]
    · simp [obTru, bs4, F_Perhaps_bool, m_Perhaps_bool, ev_runF, startE, finE, outsE]
theorem jdbool (l : Lt) (t : Ti) (h : TiOk t) : fBoolO bs [jdD l t] = some (.bl (good l (lst3 t))) := by
  have q := jdtru l t h
  have ob : ∃ c ds, jdD l t = .ob c ds := by
    unfold jdD
    split
    · split
      · exact ⟨_, _, rfl⟩
      · exact ⟨_, _, rfl⟩
    · exact ⟨_, _, rfl⟩
  obtain ⟨c, ds, e⟩ := ob
  rw [e] at q ⊢
  unfold fBoolO
  simp only [q]
  rfl
/-- all the days of times -/
def inner (a b : Int) (l3 h3 : Int) : List (Int × Int × Int) := (rg l3 h3).map fun c => (a, a + b, a + b + c)
def mid (a : Int) (t : Ti) : List (Int × Int × Int) := (rg t.l2 t.h2).flatMap fun b => inner a b t.l3 t.h3
def AD (t : Ti) : List (Int × Int × Int) := (rg t.l1 t.h1).flatMap fun a => mid a t
theorem ad_mem {t : Ti} {q : Int × Int × Int} : q ∈ AD t ↔ ∃ a b c, (t.l1 ≤ a ∧ a ≤ t.h1) ∧ (t.l2 ≤ b ∧ b ≤ t.h2) ∧ (t.l3 ≤ c ∧ c ≤ t.h3) ∧ q = (a, a + b, a + b + c) := by
  unfold AD mid inner
  simp only [List.mem_flatMap, List.mem_map, rg_mem]
  constructor
  · rintro ⟨a, ha, b, hb, c, hc, e⟩
    exact ⟨a, b, c, ha, hb, hc, e.symm⟩
  · rintro ⟨a, b, c, ha, hb, hc, e⟩
    exact ⟨a, ha, b, hb, c, hc, e.symm⟩
theorem flat_sub {α β : Type} {l r : List α} (h : l.Sublist r) (f g : α → List β) (k : ∀ a, (f a).Sublist (g a)) : (l.flatMap f).Sublist (r.flatMap g) := by
  induction h with
  | slnil => exact .slnil
  | cons a _ ih => exact ih.trans (List.sublist_append_right _ _)
  | cons_cons a _ ih => exact (k a).append ih
theorem rg_sub {a b c d : Int} (h1 : c ≤ a) (h2 : b ≤ d) (h3 : a ≤ b) : (rg a b).Sublist (rg c d) := by
  have e : rg c d = rg c (a - 1) ++ (rg a b ++ rg (b + 1) d) := by
    unfold rg
    have n1 : (d + 1 - c).toNat = (a - 1 + 1 - c).toNat + ((b + 1 - a).toNat + (d + 1 - (b + 1)).toNat) := by omega
    rw [n1, List.range_add, List.map_append, List.range_add, List.map_append, List.map_append, List.map_map, List.map_map, List.map_map]
    congr 1
    congr 1
    · apply List.map_congr_left
      intro i _
      simp only [Function.comp]
      omega
    · apply List.map_congr_left
      intro i _
      simp only [Function.comp]
      omega
  rw [e]
  exact ((List.sublist_append_left _ _)).trans (List.sublist_append_right _ _)
structure Wider (t u : Ti) : Prop where
  a : u.l1 ≤ t.l1
  b : t.h1 ≤ u.h1
  c : u.l2 ≤ t.l2
  d : t.h2 ≤ u.h2
  e : u.l3 ≤ t.l3
  f : t.h3 ≤ u.h3
theorem ad_sub {t u : Ti} (h : TiOk t) (w : Wider t u) : (AD t).Sublist (AD u) := by
  unfold AD mid inner
  refine flat_sub (rg_sub w.a w.b h.a2) _ _ fun a => ?_
  refine flat_sub (rg_sub w.c w.d h.b2) _ _ fun b => ?_
  exact (rg_sub w.e w.f h.c2).map _
def cnt (l : Lt) (t : Ti) : Nat := ((AD t).filter (good l)).length
theorem cnt_wider {l : Lt} {t u : Ti} (h : TiOk t) (w : Wider t u) : cnt l t ≤ cnt l u := ((ad_sub h w).filter _).length_le
theorem filter_mono {α : Type} {p q : α → Bool} (h : ∀ a, p a = true → q a = true) : ∀ l : List α, (l.filter p).length ≤ (l.filter q).length
  | [] => Nat.le_refl _
  | a :: l => by
    have ih := filter_mono h l
    rw [List.filter_cons, List.filter_cons]
    cases hp : p a with
    | true => rw [h a hp]; simpa using ih
    | false =>
      cases hq : q a
      · simpa using ih
      · simp; omega
structure Longer (l m : Lt) : Prop where
  x : l.x ≤ m.x
  y : l.y ≤ m.y
  z : l.z ≤ m.z
theorem good_longer {l m : Lt} (w : Longer l m) (q : Int × Int × Int) (g : good l q = true) : good m q = true := by
  obtain ⟨x, y, z⟩ := w
  unfold good at *
  simp only [Bool.and_eq_true, decide_eq_true_eq] at *
  omega
theorem cnt_longer {l m : Lt} (w : Longer l m) (t : Ti) : cnt l t ≤ cnt m t := filter_mono (good_longer w) _
theorem good_wider {l : Lt} {t u : Ti} (h : TiOk t) (w : Wider t u) (g : good l (lst3 u) = true) : good l (lst3 t) = true := by
  obtain ⟨a, b, c, d, e, f⟩ := w
  unfold good lst3 at *
  simp only [Bool.and_eq_true, decide_eq_true_eq] at *
  omega
/-- all good, or the last one is not -/
theorem all_good {l : Lt} {t : Ti} (h : TiOk t) : decide ((cnt l t : Int) = ((AD t).length : Nat)) = good l (lst3 t) := by
  have hm : lst3 t ∈ AD t := ad_mem.mpr ⟨t.h1, t.h2, t.h3, ⟨h.a2, Int.le_refl _⟩, ⟨h.b2, Int.le_refl _⟩, ⟨h.c2, Int.le_refl _⟩, rfl⟩
  cases g : good l (lst3 t) with
  | true =>
    refine decide_eq_true ?_
    have : (AD t).filter (good l) = AD t := List.filter_eq_self.mpr fun q hq => by
      obtain ⟨a, b, c, ha, hb, hc, rfl⟩ := ad_mem.mp hq
      unfold good lst3 at *
      simp only [Bool.and_eq_true, decide_eq_true_eq] at *
      omega
    unfold cnt
    rw [this]
  | false =>
    refine decide_eq_false fun z => ?_
    have z : ((AD t).filter (good l)).length = (AD t).length := by
      unfold cnt at z
      omega
    have := (List.length_filter_eq_length_iff.mp z) (lst3 t) hm
    rw [g] at this
    cases this
end T38
set_option Elab.async false
set_option linter.all false
set_option maxRecDepth 100000
set_option maxHeartbeats 1000000
namespace T38
open PySem PySem.Spec PyProof.Rows L2 DL
/-- times of few days -/
structure TiFew (t : Ti) : Prop where
  ok : TiOk t
  a : t.h1 - t.l1 ≤ 9
  b : t.h2 - t.l2 ≤ 9
  c : t.h3 - t.l3 ≤ 9
theorem rg_len (a b : Int) : (rg a b).length = (b + 1 - a).toNat := by simp [rg]
theorem inner_len (a b l3 h3 : Int) (h : h3 - l3 ≤ 9) : (inner a b l3 h3).length ≤ 10 := by
  unfold inner
  rw [List.length_map, rg_len]
  omega
theorem flat_len {α β : Type} (f : α → List β) (n : Nat) (h : ∀ a, (f a).length ≤ n) : ∀ l : List α, (l.flatMap f).length ≤ l.length * n
  | [] => by simp
  | a :: l => by
    rw [List.flatMap_cons, List.length_append, List.length_cons, Nat.succ_mul]
    have := h a
    have := flat_len f n h l
    omega
theorem mid_len (a : Int) (t : Ti) (h : TiFew t) : (mid a t).length ≤ 100 := by
  unfold mid
  have := flat_len (fun b => inner a b t.l3 t.h3) 10 (fun b => inner_len a b _ _ h.c) (rg t.l2 t.h2)
  rw [rg_len] at this
  have := h.b
  have : (t.h2 + 1 - t.l2).toNat ≤ 10 := by omega
  omega
theorem ad_len (t : Ti) (h : TiFew t) : (AD t).length ≤ 1000 := by
  unfold AD
  have := flat_len (fun a => mid a t) 100 (fun a => mid_len a t h) (rg t.l1 t.h1)
  rw [rg_len] at this
  have := h.a
  have : (t.h1 + 1 - t.l1).toNat ≤ 10 := by omega
  omega
theorem pre_len {α β : Type} {l pre suf : List α} {a : α} (e : l = pre ++ a :: suf) (f : α → List β) : (pre.flatMap f).length + (f a).length ≤ (l.flatMap f).length := by
  rw [e]
  simp [List.flatMap_append, List.flatMap_cons]
theorem l62 {x : Int} (h1 : 0 ≤ x) (h2 : x ≤ 1000) : lim62 x = true := by unfold lim62; exact decide_eq_true (by omega)
theorem ix0 (a b : Int) : dIx (.tup [.int a, .int b]) (.int 0) = some (.int a) := rfl
theorem ix1 (a b : Int) : dIx (.tup [.int a, .int b]) (.int 1) = some (.int b) := rfl
theorem ad_in (t : Ti) (h : TiFew t) (a b : Int) (found : List (Int × Int × Int)) (hf : found.length + 10 ≤ 2000) (o1 o2 o3 : Option D) : b_all_days_2 [some (.val (spD t)), o1.map .val, o2.map .val, o3.map .val, some (.own (.lst (found.map d3))), some (.val (.int a)), some (.val (.int b)), none] = .ok .nx [some (.val (spD t)), o1.map .val, o2.map .val, o3.map .val, some (.own (.lst ((found ++ inner a b t.l3 t.h3).map d3))), some (.val (.int a)), some (.val (.int b)), none] := by
  have k3 : (3 : Nat) ≤ sizeLine := by decide
  have hc := lcs_map (f := lcIt [7] (mTN 7) mTrue e_all_days_1) (ρ := [some (.val (spD t)), o1.map .val, o2.map .val, o3.map .val, some (.own (.lst (found.map d3))), some (.val (.int a)), some (.val (.int b)), none]) D.int d3 (fun c => (a, a + b, a + b + c)) (rg t.l3 t.h3) fun c _ => by
    simp [lcIt, e_all_days_1, wipeE, restore, dAdd, k3]
  rw [← rg_rngD] at hc
  have l1 := l62 (x := t.l3) h.ok.c1 (by have := h.ok.c2; have := h.ok.c3; omega)
  have l2 := l62 (x := t.h3 + 1) (by have := h.ok.c1; have := h.ok.c2; omega) (by have := h.ok.c3; omega)
  have rl : (rngD t.l3 (t.h3 + 1 - t.l3).toNat).length ≤ sizeLine := sizeL (by simp [rngD]; have := h.c; omega)
  have i1 : dIx (spD t) (.int 2) = some (.tup [.int t.l3, .int t.h3]) := rfl
  have il := inner_len a b t.l3 t.h3 h.c
  have sz : (found.map d3).length + (((rg t.l3 t.h3).map fun c => (a, a + b, a + b + c)).map d3).length ≤ sizeLine := by
    refine Nat.le_trans ?_ (show 2000 ≤ sizeLine by decide)
    have : ((rg t.l3 t.h3).map fun c => (a, a + b, a + b + c)).length ≤ 10 := il
    rw [List.length_map, List.length_map]
    omega
  have e : (found ++ inner a b t.l3 t.h3).map d3 = found.map d3 ++ ((rg t.l3 t.h3).map fun c => (a, a + b, a + b + c)).map d3 := by
    rw [List.map_append]
    rfl
  rw [e]
  generalize ((rg t.l3 t.h3).map fun c => (a, a + b, a + b + c)).map d3 = ID at *
  generalize found.map d3 = FD at *
  generalize spD t = SD at *
  generalize hR : rngD t.l3 (t.h3 + 1 - t.l3).toNat = RD at *
  simp [b_all_days_2, i1, ix0, ix1, dAdd, l1, l2, hR, notOwn_eq, rl, hc, cExt, sz, holds, W.put, D.lis]
theorem ad_mid (t : Ti) (h : TiFew t) (a : Int) (found : List (Int × Int × Int)) (hf : found.length + 100 ≤ 1500) (o1 o2 o3 o6 : Option D) : ∃ o6' : Option D, b_all_days_3 [some (.val (spD t)), o1.map .val, o2.map .val, o3.map .val, some (.own (.lst (found.map d3))), some (.val (.int a)), o6.map .val, none] = .ok .nx [some (.val (spD t)), o1.map .val, o2.map .val, o3.map .val, some (.own (.lst ((found ++ mid a t).map d3))), some (.val (.int a)), o6'.map .val, none] := by
  obtain ⟨ρ', h1, o6', rfl⟩ := for_pre (g := mTN 6) (b := b_all_days_2) (fun pre ρ => ∃ o6 : Option D, ρ = [some (.val (spD t)), o1.map .val, o2.map .val, o3.map .val, some (.own (.lst ((found ++ pre.flatMap fun b => inner a b t.l3 t.h3).map d3))), some (.val (.int a)), o6.map .val, none]) D.int (rg t.l2 t.h2) (fun pre b suf e ρ ⟨o6, hr⟩ => by
    subst hr
    have pl := pre_len e (fun b => inner a b t.l3 t.h3)
    have ml := mid_len a t h
    have pl : (pre.flatMap fun b => inner a b t.l3 t.h3).length + (inner a b t.l3 t.h3).length ≤ (mid a t).length := pl
    refine ⟨_, _, rfl, ad_in t h a b (found ++ pre.flatMap fun b => inner a b t.l3 t.h3) (by rw [List.length_append]; omega) o1 o2 o3, some (.int b), ?_⟩
    simp) _ ⟨o6, by simp; rfl⟩
  refine ⟨o6', ?_⟩
  have e : mid a t = (rg t.l2 t.h2).flatMap fun b => inner a b t.l3 t.h3 := rfl
  rw [e]
  have l1 := l62 (x := t.l2) h.ok.b1 (by have := h.ok.b2; have := h.ok.b3; omega)
  have l2 := l62 (x := t.h2 + 1) (by have := h.ok.b1; have := h.ok.b2; omega) (by have := h.ok.b3; omega)
  rw [← rg_rngD] at h1
  have i1 : dIx (spD t) (.int 1) = some (.tup [.int t.l2, .int t.h2]) := rfl
  generalize ((found ++ (rg t.l2 t.h2).flatMap fun b => inner a b t.l3 t.h3).map d3) = FD' at *
  generalize found.map d3 = FD at *
  generalize spD t = SD at *
  generalize hR : rngD t.l2 (t.h2 + 1 - t.l2).toNat = RD at *
  simp [b_all_days_3, i1, ix0, ix1, dAdd, l1, l2, hR, h1]
theorem mulL {i j : Int} (h1 : 0 ≤ j) (h2 : j ≤ 1000) : dMul (.int i) (.int j) = some (.int (i * j)) := by
  have : lim64 j = true := by unfold lim64; exact decide_eq_true (by omega)
  simp [dMul, this]
theorem prod_le {a b c : Int} (a0 : 0 ≤ a) (a1 : a ≤ 10) (b0 : 0 ≤ b) (b1 : b ≤ 10) (c0 : 0 ≤ c) (c1 : c ≤ 10) : ¬ 5000 < 1 * a * b * c := by
  have h1 : a * b ≤ 10 * 10 := Int.mul_le_mul a1 b1 b0 (by decide)
  have h2 : 0 ≤ a * b := Int.mul_nonneg a0 b0
  have h3 : a * b * c ≤ 100 * 10 := Int.mul_le_mul h1 c1 c0 (by decide)
  rw [Int.one_mul]
  omega
theorem ad_prod (t : Ti) (h : TiFew t) : ∃ (m : Int) (a b : Option D), ¬ 5000 < m ∧ forGo (mTT (mTCons (mTN 2) (mTCons (mTN 3) mTNil))) b_all_days_1 [.tup [.int t.l1, .int t.h1], .tup [.int t.l2, .int t.h2], .tup [.int t.l3, .int t.h3]] [some (.val (spD t)), some (.val (.int 1)), none, none, none, none, none, none] = .ok .nx [some (.val (spD t)), some (.val (.int m)), a.map .val, b.map .val, none, none, none, none] := by
  have a1 := h.ok.a2
  have b1 := h.ok.b2
  have c1 := h.ok.c2
  have a2 := h.a
  have b2 := h.b
  have c2 := h.c
  have m1 := fun i : Int => mulL (i := i) (j := t.h1 - t.l1 + 1) (by omega) (by omega)
  have m2' := fun i : Int => mulL (i := i) (j := t.h2 - t.l2 + 1) (by omega) (by omega)
  have m3 := fun i : Int => mulL (i := i) (j := t.h3 - t.l3 + 1) (by omega) (by omega)
  refine ⟨1 * (t.h1 - t.l1 + 1) * (t.h2 - t.l2 + 1) * (t.h3 - t.l3 + 1), some (.int t.l3), some (.int t.h3), prod_le (by omega) (by omega) (by omega) (by omega) (by omega) (by omega), ?_⟩
  generalize spD t = SD
  simp [forGo, b_all_days_1, dSub, dAdd, m1, m2', m3]
theorem alldays_run (SD : D) (its RD FD : List D) (lo hi m : Int) (o2 o3 o5 o6 : Option D) (c : F_check_spans [.val SD] = .ok .non []) (sq : SD.seq = some its) (f1 : forGo (mTT (mTCons (mTN 2) (mTCons (mTN 3) mTNil))) b_all_days_1 its [some (.val SD), some (.val (.int 1)), none, none, none, none, none, none] = .ok .nx [some (.val SD), some (.val (.int m)), o2.map .val, o3.map .val, none, none, none, none])
    (hm : ¬ 5000 < m) (i0 : dIx SD (.int 0) = some (.tup [.int lo, .int hi])) (l1 : lim62 lo = true) (l2 : lim62 (hi + 1) = true) (hR : rngD lo (hi + 1 - lo).toNat = RD)
    (f2 : forGo (mTN 5) b_all_days_3 RD [some (.val SD), some (.val (.int m)), o2.map .val, o3.map .val, some (.own (.lst [])), none, none, none] = .ok .nx [some (.val SD), some (.val (.int m)), o2.map .val, o3.map .val, some (.own (.lst FD)), o5.map .val, o6.map .val, none]) : F_all_days [.val SD] = .ok (.lst FD) [] := by
  have k0 : (0 : Nat) ≤ sizeLine := Nat.zero_le _
  simp [F_all_days, m_all_days, ev_runF, startE, toWs, c, sq, f1, dGt, c_MOST_DAYS, hm, i0, ix0, ix1, dAdd, l1, l2, hR, f2, k0, finE, outsE, Ct.toD]
theorem alldays (t : Ti) (h : TiFew t) : F_all_days [.val (spD t)] = .ok (.lst ((AD t).map d3)) [] := by
  obtain ⟨m, a, b, hm, f1⟩ := ad_prod t h
  obtain ⟨ρ', h1, o5, o6, rfl⟩ := for_pre (g := mTN 5) (b := b_all_days_3) (fun pre ρ => ∃ o5 o6 : Option D, ρ = [some (.val (spD t)), some (.val (.int m)), a.map .val, b.map .val, some (.own (.lst ((pre.flatMap fun a => mid a t).map d3))), o5.map .val, o6.map .val, none]) D.int (rg t.l1 t.h1) (fun pre x suf e ρ ⟨o5, o6, hr⟩ => by
    subst hr
    have pl := pre_len e (fun a => mid a t)
    have al := ad_len t h
    have pl : (pre.flatMap fun a => mid a t).length + (mid x t).length ≤ (AD t).length := pl
    obtain ⟨o6', q⟩ := ad_mid t h x (pre.flatMap fun a => mid a t) (by omega) (some (.int m)) a b o6
    refine ⟨_, _, rfl, q, some (.int x), o6', ?_⟩
    simp) [some (.val (spD t)), some (.val (.int m)), a.map .val, b.map .val, some (.own (.lst [])), none, none, none] ⟨none, none, rfl⟩
  rw [← rg_rngD] at h1
  have l1 := l62 (x := t.l1) h.ok.a1 (by have := h.ok.a2; have := h.ok.a3; omega)
  have l2 := l62 (x := t.h1 + 1) (by have := h.ok.a1; have := h.ok.a2; omega) (by have := h.ok.a3; omega)
  exact alldays_run _ _ _ _ _ _ m a b o5 o6 (ckspans t h.ok) rfl f1 hm rfl l1 l2 rfl h1
theorem dok_ad {t : Ti} (h : TiOk t) {q : Int × Int × Int} (hq : q ∈ AD t) : DOk q := by
  obtain ⟨a1, a2, a3, b1, b2, b3, c1, c2, c3⟩ := h
  obtain ⟨a, b, c, ha, hb, hc, rfl⟩ := ad_mem.mp hq
  exact ⟨by show 0 ≤ a; omega, by show a ≤ 999; omega, by show 0 ≤ a + b; omega, by show a + b ≤ 999; omega, by show 0 ≤ a + b + c; omega, by show a + b + c ≤ 999; omega⟩
theorem count (l : Lt) (t : Ti) (h : TiFew t) : F_count_good [.val (letD l), .val (spD t)] = .ok (.tup [.int (cnt l t : Nat), .int ((AD t).length : Nat)]) [] := by
  have c := cktimes l t h.ok
  have al := alldays t h
  have k2 : (2 : Nat) ≤ sizeLine := by decide
  have hc := lcs_filter (f := lcIt [3] (mTN 3) t_count_good_1 (mVar 3)) (ρ := [some (.val (letD l)), some (.val (spD t)), some (.val (.lst ((AD t).map d3))), none]) d3 d3 (good l) id (AD t) (fun q hq => by
    have f := fault l q (dok_ad h.ok hq)
    have e := eq_empty l q
    generalize flt l q = F at *
    generalize letD l = LD at *
    cases g : good l q <;> rw [g] at e <;> simp [lcIt, t_count_good_1, wipeE, restore, toWs, f, e])
  rw [List.map_id] at hc
  have n1 : fLen [.lst ((AD t).map d3)] = some (.int ((AD t).length : Nat)) := by simp [fLen]
  have n2 : fLen [.lst (((AD t).filter (good l)).map d3)] = some (.int (cnt l t : Nat)) := by simp [fLen, cnt]
  have sz : ((AD t).map d3).length ≤ sizeLine := sizeL (by have := ad_len t h; simp; omega)
  generalize ((AD t).filter (good l)).map d3 = GD at *
  generalize (AD t).map d3 = LL at *
  generalize letD l = LD at *
  generalize spD t = SD at *
  have sk : (D.lst LL).seq = some LL := rfl
  simp [F_count_good, m_count_good, ev_runF, startE, toWs, c, al, sk, notOwn_eq, sz, hc, n1, n2, k2, finE, outsE]
end T38
set_option Elab.async false
set_option linter.all false
set_option maxRecDepth 100000
set_option maxHeartbeats 1000000
namespace T38
open PySem PySem.Spec PyProof.Rows L2 DL
def at1 (t : Ti) (d : Int) : Ti := { t with l1 := d, h1 := d }
theorem at1_ok {t : Ti} (h : TiOk t) {d : Int} (d0 : 0 ≤ d) (d1 : d ≤ 99) : TiOk (at1 t d) := ⟨d0, Int.le_refl _, d1, h.b1, h.b2, h.b3, h.c1, h.c2, h.c3⟩
def rdy (l : Lt) (t : Ti) : List Int := (rg 0 99).filter fun d => good l (lst3 (at1 t d))
def lastD (l : List Int) : D := match l.getLast? with
  | some x => .int x
  | none => .non
theorem cut1 (t : Ti) : DL.cutD [.tup [.int t.l1, .int t.h1], .tup [.int t.l2, .int t.h2], .tup [.int t.l3, .int t.h3]] (some 1) none = [.tup [.int t.l2, .int t.h2], .tup [.int t.l3, .int t.h3]] := rfl
theorem ready_one (l : Lt) (t : Ti) (h : TiOk t) (d : Int) (hd : d ∈ rg 0 99) : lcIt [3] (mTN 3) t_latest_ready_1 (mVar 3) (.int d) [some (.val (letD l)), some (.val (spD t)), none, none] = .ok (if good l (lst3 (at1 t d)) = true then some (.int d) else none) [some (.val (letD l)), some (.val (spD t)), none, none] := by
  obtain ⟨d0, d1⟩ := rg_mem.mp hd
  have j := judged l (at1 t d) (at1_ok h d0 d1)
  have u := jdtru l (at1 t d) (at1_ok h d0 d1)
  have k2 : (2 : Nat) ≤ sizeLine := by decide
  have k3 : (3 : Nat) ≤ sizeLine := by decide
  have c := cut1 t
  have e : spD (at1 t d) = .lst [.tup [.int d, .int d], .tup [.int t.l2, .int t.h2], .tup [.int t.l3, .int t.h3]] := rfl
  rw [e] at j
  generalize good l (lst3 (at1 t d)) = g at *
  generalize jdD l (at1 t d) = J at *
  generalize letD l = LD at *
  cases g <;> simp [lcIt, t_latest_ready_1, wipeE, restore, dCut, c, toWs, k2, k3, D.seq, j, u]
theorem ready (l : Lt) (t : Ti) (h : TiOk t) : F_latest_ready [.val (letD l), .val (spD t)] = .ok (lastD (rdy l t)) [] := by
  have c := cktimes l t h
  have hc := lcs_filter (f := lcIt [3] (mTN 3) t_latest_ready_1 (mVar 3)) (ρ := [some (.val (letD l)), some (.val (spD t)), none, none]) D.int D.int (fun d => good l (lst3 (at1 t d))) id (rg 0 99) (fun d hd => ready_one l t h d hd)
  rw [List.map_id, ← rg_rngD] at hc
  change lcs _ _ _ = .ok ((rdy l t).map D.int) _ at hc
  have rl : (rngD 0 (99 + 1 - 0 : Int).toNat).length ≤ sizeLine := sizeL (by simp [rngD])
  have ne := ints_isE (rdy l t)
  have l1 : lim62 100 = true := by decide
  have e100 : (99 + 1 - 0 : Int).toNat = 100 := rfl
  have e101 : (100 : Int).toNat = 100 := rfl
  rw [e100] at hc rl
  unfold lastD
  generalize letD l = LD at *
  generalize spD t = SD at *
  generalize hR : rngD 0 100 = RD at *
  generalize rdy l t = L at *
  cases hL : L.getLast? with
  | none =>
    have e : L = [] := List.getLast?_eq_none_iff.mp hL
    subst e
    simp at hc ne
    simp [F_latest_ready, m_latest_ready, ev_runF, startE, toWs, c, l1, e101, hR, notOwn_eq, rl, hc, ne, finE, outsE]
  | some x =>
    have hne : L ≠ [] := fun z => by rw [z] at hL; cases hL
    have ie : L.isEmpty = false := by cases L with
      | nil => exact absurd rfl hne
      | cons _ _ => rfl
    rw [ie] at ne
    have e := L2.atI_last L.dropLast (L.getLast hne)
    rw [List.dropLast_concat_getLast hne] at e
    have e2 : L.getLast hne = x := by
      rw [List.getLast?_eq_some_getLast hne] at hL
      exact Option.some.inj hL
    rw [e2] at e
    have ix : dIx (.lst (L.map D.int)) (.int (-1)) = some (.int x) := by
      show L2.atI (L.map D.int) (-1) = _
      rw [atI_map, e]
      rfl
    generalize L.map D.int = LL at *
    have ne' : dNe (.lst LL) (.lst []) = some (.bl true) := ne
    simp [F_latest_ready, m_latest_ready, ev_runF, startE, toWs, c, l1, e101, hR, notOwn_eq, rl, hc, ne', dNeg, ix, finE, outsE]
theorem ready_some {l : Lt} {t : Ti} {x : Int} (h : (rdy l t).getLast? = some x) : (0 ≤ x ∧ x ≤ 99) ∧ good l (lst3 (at1 t x)) = true := by
  have hm : x ∈ rdy l t := List.mem_of_getLast? h
  obtain ⟨h1, h2⟩ := List.mem_filter.mp hm
  exact ⟨rg_mem.mp h1, h2⟩
theorem ready_none {l : Lt} {t : Ti} (ok : TiOk t) (h : (rdy l t).getLast? = none) : good l (lst3 t) = false := by
  have e := List.getLast?_eq_none_iff.mp h
  have := List.filter_eq_nil_iff.mp e t.h1 (rg_mem.mpr ⟨by have := ok.a1; have := ok.a2; omega, ok.a3⟩)
  have e2 : lst3 (at1 t t.h1) = lst3 t := rfl
  rw [e2] at this
  simpa using this
theorem spare (l : Lt) (q : Int × Int × Int) (h : DOk q) : F_spare_days [.val (letD l), .val (d3 q)] = .ok (.tup [.int (l.x - q.2.1), .int (l.y - q.2.2), .int (q.2.1 + l.z - q.2.2)]) [] := by
  have c := ckdays2 l q h
  have f1 := lx l
  have f2 := ly l
  have f3 := lz l
  have k3 : (3 : Nat) ≤ sizeLine := by decide
  generalize letD l = LD at *
  simp [F_spare_days, m_spare_days, ev_runF, startE, toWs, c, f1, f2, f3, dIx, D.seq, L2.atI, L2.ixN, dSub, dAdd, k3, finE, outsE]
def lastday (l : Lt) (s : Int) : D := if s ≤ l.x then .int (if s + l.z < l.y then s + l.z else l.y) else .non
theorem last_day (l : Lt) (s : Int) (h1 : 0 ≤ s) (h2 : s ≤ 999) : F_last_day [.val (letD l), .val (.int s)] = .ok (lastday l s) [] := by
  have c := ckletter l
  have k := cknum (.str "shipped") s 0 999 h1 h2
  have f1 := lx l
  have f2 := ly l
  have f3 := lz l
  generalize letD l = LD at *
  unfold lastday
  by_cases h : s ≤ l.x <;> simp [F_last_day, m_last_day, ev_runF, startE, toWs, c, k, f1, f2, f3, dLe, h, fMin, dAdd, finE, outsE]
end T38
set_option Elab.async false
set_option linter.all false
set_option maxRecDepth 100000
set_option maxHeartbeats 1000000
namespace T38
open PySem PySem.Spec PyProof.Rows L2 DL
theorem takenI (ns : List Int) (hl : ns.length ≤ 63) (n : Int) (many : Nat) (I : Int) (hI : I = (many : Int)) (hm : 0 < many) : ∃ r : Nat, r < many ∧ F_law_take [.inn (.lst [.rol (ns.map D.int), .int n]), .val (.int I)] = .ok (.int (r : Nat)) [.lst [.rol (ns.map D.int), .int (n + 1)]] := by
  subst hI
  exact taken ns hl n many hm
theorem s12 (ns : List Int) (hl : ns.length ≤ 63) (n : Int) {o2 o3 o4 o5 o6 o7 o8 o9 o10 o11 o12 o13 o14 o15 o16 o17 o18 o19 o20 o21 : Option D} : ∃ (l : Lt) (n' : Int), Drawn l ∧ s_law_12 (EV ns n [o2.map .val, o3.map .val, o4.map .val, o5.map .val, o6.map .val, o7.map .val, o8.map .val, o9.map .val, o10.map .val, o11.map .val, o12.map .val, o13.map .val, o14.map .val, o15.map .val, o16.map .val, o17.map .val, o18.map .val, o19.map .val, o20.map .val, o21.map .val, none, none, none, none]) = .ok .nx (EV ns n' [o2.map .val, o3.map .val, o4.map .val, o5.map .val, o6.map .val, o7.map .val, o8.map .val, o9.map .val, o10.map .val, some (.val (toldD l)), o12.map .val, o13.map .val, o14.map .val, o15.map .val, o16.map .val, o17.map .val, o18.map .val, o19.map .val, o20.map .val, o21.map .val, none, none, none, none]) := by
  obtain ⟨l, n', hd, q⟩ := letter ns hl n
  refine ⟨l, n', hd, ?_⟩
  generalize toldD l = TD at *
  simp [s_law_12, holds, toWs, q, W.put]
theorem s13 (ns : List Int) (n : Int) (l : Lt) (hd : Drawn l) {o2 o3 o4 o5 o6 o7 o8 o9 o10 o11 o12 o13 o14 o15 o16 o17 o18 o19 o20 o21 : Option D} : s_law_13 (EV ns n [o2.map .val, o3.map .val, o4.map .val, o5.map .val, o6.map .val, o7.map .val, o8.map .val, o9.map .val, o10.map .val, some (.val (toldD l)), o12.map .val, o13.map .val, o14.map .val, o15.map .val, o16.map .val, o17.map .val, o18.map .val, o19.map .val, o20.map .val, o21.map .val, none, none, none, none]) = .ok .nx (EV ns n [o2.map .val, o3.map .val, o4.map .val, o5.map .val, o6.map .val, o7.map .val, o8.map .val, o9.map .val, o10.map .val, some (.val (toldD l)), some (.val (letD l)), o13.map .val, o14.map .val, o15.map .val, o16.map .val, o17.map .val, o18.map .val, o19.map .val, o20.map .val, o21.map .val, none, none, none, none]) := by
  have q := built l hd.ok
  generalize toldD l = TD at *
  generalize letD l = LD at *
  simp [s_law_13, toWs, q]
theorem s14 (ns : List Int) (hl : ns.length ≤ 63) (n : Int) {o2 o3 o4 o5 o6 o7 o8 o9 o10 o11 o12 o13 o14 o15 o16 o17 o18 o19 o20 o21 : Option D} : ∃ (t : Ti) (n' : Int), (TiFew t ∧ t.h1 ≤ 60 ∧ t.h2 ≤ 60 ∧ t.h3 ≤ 60 ∧ t.h1 - t.l1 ≤ 4 ∧ t.h2 - t.l2 ≤ 4 ∧ t.h3 - t.l3 ≤ 4) ∧ s_law_14 (EV ns n [o2.map .val, o3.map .val, o4.map .val, o5.map .val, o6.map .val, o7.map .val, o8.map .val, o9.map .val, o10.map .val, o11.map .val, o12.map .val, o13.map .val, o14.map .val, o15.map .val, o16.map .val, o17.map .val, o18.map .val, o19.map .val, o20.map .val, o21.map .val, none, none, none, none]) = .ok .nx (EV ns n' [o2.map .val, o3.map .val, o4.map .val, o5.map .val, o6.map .val, o7.map .val, o8.map .val, o9.map .val, o10.map .val, o11.map .val, o12.map .val, some (.val (spD t)), o14.map .val, o15.map .val, o16.map .val, o17.map .val, o18.map .val, o19.map .val, o20.map .val, o21.map .val, none, none, none, none]) := by
  obtain ⟨a, a1, ha⟩ := takenI ns hl n 20 20 rfl (by decide)
  obtain ⟨b, b1, hb⟩ := takenI ns hl (n + 1) 6 6 rfl (by decide)
  obtain ⟨c, c1, hc⟩ := takenI ns hl (n + 1 + 1) 12 12 rfl (by decide)
  obtain ⟨x, x1, hx⟩ := takenI ns hl (n + 1 + 1 + 1) 5 5 rfl (by decide)
  obtain ⟨y, y1, hy⟩ := takenI ns hl (n + 1 + 1 + 1 + 1) 5 5 rfl (by decide)
  obtain ⟨z, z1, hz⟩ := takenI ns hl (n + 1 + 1 + 1 + 1 + 1) 5 5 rfl (by decide)
  refine ⟨⟨a, a + x, b, b + y, c, c + z⟩, n + 1 + 1 + 1 + 1 + 1 + 1, ⟨⟨⟨by show 0 ≤ (a : Int); omega, by show (a : Int) ≤ a + x; omega, by show (a : Int) + x ≤ 99; omega, by show 0 ≤ (b : Int); omega, by show (b : Int) ≤ b + y; omega, by show (b : Int) + y ≤ 99; omega, by show 0 ≤ (c : Int); omega, by show (c : Int) ≤ c + z; omega, by show (c : Int) + z ≤ 99; omega⟩, by show (a : Int) + x - a ≤ 9; omega, by show (b : Int) + y - b ≤ 9; omega, by show (c : Int) + z - c ≤ 9; omega⟩, by show (a : Int) + x ≤ 60; omega, by show (b : Int) + y ≤ 60; omega, by show (c : Int) + z ≤ 60; omega, by show (a : Int) + x - a ≤ 4; omega, by show (b : Int) + y - b ≤ 4; omega, by show (c : Int) + z - c ≤ 4; omega⟩, ?_⟩
  have k3 : (3 : Nat) ≤ sizeLine := by decide
  have k2 : (2 : Nat) ≤ sizeLine := by decide
  have sq : (D.tup [.int (a : Nat), .int (b : Nat), .int (c : Nat)]).seq = some [.int (a : Nat), .int (b : Nat), .int (c : Nat)] := rfl
  have one : ∀ (w d : Int) (n : Int), F_law_take [.inn (.lst [.rol (ns.map D.int), .int n]), .val (.int 5)] = .ok (.int d) [.lst [.rol (ns.map D.int), .int (n + 1)]] → lcIt [22] (mTN 22) mTrue e_law_1 (.int w) (EV ns n [o2.map .val, o3.map .val, o4.map .val, o5.map .val, o6.map .val, o7.map .val, o8.map .val, o9.map .val, o10.map .val, o11.map .val, o12.map .val, o13.map .val, o14.map .val, o15.map .val, o16.map .val, o17.map .val, o18.map .val, o19.map .val, o20.map .val, o21.map .val, none, none, none, none]) = .ok (some (.tup [.int w, .int (w + d)])) (EV ns (n + 1) [o2.map .val, o3.map .val, o4.map .val, o5.map .val, o6.map .val, o7.map .val, o8.map .val, o9.map .val, o10.map .val, o11.map .val, o12.map .val, o13.map .val, o14.map .val, o15.map .val, o16.map .val, o17.map .val, o18.map .val, o19.map .val, o20.map .val, o21.map .val, none, none, none, none]) := by
    intro w d n h
    simp [lcIt, e_law_1, wipeE, restore, holds, toWs, h, W.put, dAdd, k2]
  have w1 := one a x (n + 1 + 1 + 1) hx
  have w2 := one b y (n + 1 + 1 + 1 + 1) hy
  have w3 := one c z (n + 1 + 1 + 1 + 1 + 1) hz
  have lc : lcs (lcIt [22] (mTN 22) mTrue e_law_1) [.int (a : Nat), .int (b : Nat), .int (c : Nat)] (EV ns (n + 1 + 1 + 1) [o2.map .val, o3.map .val, o4.map .val, o5.map .val, o6.map .val, o7.map .val, o8.map .val, o9.map .val, o10.map .val, o11.map .val, o12.map .val, o13.map .val, o14.map .val, o15.map .val, o16.map .val, o17.map .val, o18.map .val, o19.map .val, o20.map .val, o21.map .val, none, none, none, none]) = .ok [.tup [.int (a : Nat), .int ((a : Int) + x)], .tup [.int (b : Nat), .int ((b : Int) + y)], .tup [.int (c : Nat), .int ((c : Int) + z)]] (EV ns (n + 1 + 1 + 1 + 1 + 1 + 1) [o2.map .val, o3.map .val, o4.map .val, o5.map .val, o6.map .val, o7.map .val, o8.map .val, o9.map .val, o10.map .val, o11.map .val, o12.map .val, o13.map .val, o14.map .val, o15.map .val, o16.map .val, o17.map .val, o18.map .val, o19.map .val, o20.map .val, o21.map .val, none, none, none, none]) := by
    simp only [lcs, w1, w2, w3]
  simp [s_law_14, holds, toWs, ha, hb, hc, W.put, k3, sq, notOwn_eq, lc]
theorem s16 (ns : List Int) (n : Int) (l : Lt) (t : Ti) (h : TiFew t) {o2 o3 o4 o5 o6 o7 o8 o9 o10 o11 o12 o13 o14 o15 o16 o17 o18 o19 o20 o21 : Option D} : s_law_16 (EV ns n [o2.map .val, o3.map .val, o4.map .val, o5.map .val, o6.map .val, o7.map .val, o8.map .val, o9.map .val, o10.map .val, o11.map .val, some (.val (letD l)), some (.val (spD t)), o14.map .val, o15.map .val, o16.map .val, o17.map .val, o18.map .val, o19.map .val, o20.map .val, o21.map .val, none, none, none, none]) = .ok .nx (EV ns n [o2.map .val, o3.map .val, o4.map .val, o5.map .val, o6.map .val, o7.map .val, o8.map .val, o9.map .val, o10.map .val, o11.map .val, some (.val (letD l)), some (.val (spD t)), o14.map .val, some (.val (jdD l t)), some (.val (.tup [.int (cnt l t : Nat), .int ((AD t).length : Nat)])), o17.map .val, o18.map .val, o19.map .val, o20.map .val, o21.map .val, none, none, none, none]) := by
  have j := judged l t h.ok
  have c := count l t h
  have k2 : (2 : Nat) ≤ sizeLine := by decide
  generalize letD l = LD at *
  generalize spD t = SD at *
  generalize jdD l t = J at *
  generalize D.tup [.int (cnt l t : Nat), .int ((AD t).length : Nat)] = G at *
  simp [s_law_16, toWs, j, c, k2]
theorem s15 (ns : List Int) (hl : ns.length ≤ 63) (n : Int) (t : Ti) (h : TiFew t) (g1 : t.h1 ≤ 60) (g2 : t.h2 ≤ 60) (g3 : t.h3 ≤ 60) (g4 : t.h1 - t.l1 ≤ 4) (g5 : t.h2 - t.l2 ≤ 4) (g6 : t.h3 - t.l3 ≤ 4) {o2 o3 o4 o5 o6 o7 o8 o9 o10 o11 o12 o13 o14 o15 o16 o17 o18 o19 o20 o21 : Option D} : ∃ (u : Ti) (n' : Int), Wider t u ∧ TiFew u ∧ s_law_15 (EV ns n [o2.map .val, o3.map .val, o4.map .val, o5.map .val, o6.map .val, o7.map .val, o8.map .val, o9.map .val, o10.map .val, o11.map .val, o12.map .val, some (.val (spD t)), o14.map .val, o15.map .val, o16.map .val, o17.map .val, o18.map .val, o19.map .val, o20.map .val, o21.map .val, none, none, none, none]) = .ok .nx (EV ns n' [o2.map .val, o3.map .val, o4.map .val, o5.map .val, o6.map .val, o7.map .val, o8.map .val, o9.map .val, o10.map .val, o11.map .val, o12.map .val, some (.val (spD t)), some (.val (spD u)), o15.map .val, o16.map .val, o17.map .val, o18.map .val, o19.map .val, o20.map .val, o21.map .val, none, none, none, none]) := by
  have one : ∀ (lo hi : Int) (n : Int), 0 ≤ lo → ∃ lo' hi' : Int, 0 ≤ lo' ∧ lo' ≤ lo ∧ lo ≤ lo' + 1 ∧ hi ≤ hi' ∧ hi' ≤ hi + 2 ∧ lcIt [22, 23] (mTT (mTCons (mTN 22) (mTCons (mTN 23) mTNil))) mTrue e_law_2 (.tup [.int lo, .int hi]) (EV ns n [o2.map .val, o3.map .val, o4.map .val, o5.map .val, o6.map .val, o7.map .val, o8.map .val, o9.map .val, o10.map .val, o11.map .val, o12.map .val, some (.val (spD t)), o14.map .val, o15.map .val, o16.map .val, o17.map .val, o18.map .val, o19.map .val, o20.map .val, o21.map .val, none, none, none, none]) = .ok (some (.tup [.int lo', .int hi'])) (EV ns (n + 1 + 1) [o2.map .val, o3.map .val, o4.map .val, o5.map .val, o6.map .val, o7.map .val, o8.map .val, o9.map .val, o10.map .val, o11.map .val, o12.map .val, some (.val (spD t)), o14.map .val, o15.map .val, o16.map .val, o17.map .val, o18.map .val, o19.map .val, o20.map .val, o21.map .val, none, none, none, none]) := by
    intro lo hi n h0
    obtain ⟨a, a1, ha⟩ := takenI ns hl n 2 2 rfl (by decide)
    obtain ⟨b, b1, hb⟩ := takenI ns hl (n + 1) 3 3 rfl (by decide)
    have k2 : (2 : Nat) ≤ sizeLine := by decide
    have mx : fMax [.int 0, .int (lo - a)] = some (.int (if lo - a > 0 then lo - a else 0)) := rfl
    refine ⟨if lo - a > 0 then lo - a else 0, hi + b, by split <;> omega, by split <;> omega, by split <;> omega, by omega, by omega, ?_⟩
    generalize (if lo - (a : Int) > 0 then lo - (a : Int) else 0) = M at *
    simp [lcIt, e_law_2, wipeE, restore, holds, toWs, ha, hb, W.put, dSub, mx, dAdd, k2]
  obtain ⟨a, a', p1, p2, p3, p4, p5, w1⟩ := one t.l1 t.h1 n h.ok.a1
  obtain ⟨b, b', q1, q2, q3, q4, q5, w2⟩ := one t.l2 t.h2 (n + 1 + 1) h.ok.b1
  obtain ⟨c, c', r1, r2, r3, r4, r5, w3⟩ := one t.l3 t.h3 (n + 1 + 1 + 1 + 1) h.ok.c1
  have v1 := h.ok.a2
  have v2 := h.ok.b2
  have v3 := h.ok.c2
  refine ⟨⟨a, a', b, b', c, c'⟩, n + 1 + 1 + 1 + 1 + 1 + 1, ⟨p2, p4, q2, q4, r2, r4⟩, ⟨⟨p1, by show a ≤ a'; omega, by show a' ≤ 99; omega, q1, by show b ≤ b'; omega, by show b' ≤ 99; omega, r1, by show c ≤ c'; omega, by show c' ≤ 99; omega⟩, by show a' - a ≤ 9; omega, by show b' - b ≤ 9; omega, by show c' - c ≤ 9; omega⟩, ?_⟩
  have k3 : (3 : Nat) ≤ sizeLine := by decide
  have sq : (spD t).seq = some [.tup [.int t.l1, .int t.h1], .tup [.int t.l2, .int t.h2], .tup [.int t.l3, .int t.h3]] := rfl
  have lc : lcs (lcIt [22, 23] (mTT (mTCons (mTN 22) (mTCons (mTN 23) mTNil))) mTrue e_law_2) [.tup [.int t.l1, .int t.h1], .tup [.int t.l2, .int t.h2], .tup [.int t.l3, .int t.h3]] (EV ns n [o2.map .val, o3.map .val, o4.map .val, o5.map .val, o6.map .val, o7.map .val, o8.map .val, o9.map .val, o10.map .val, o11.map .val, o12.map .val, some (.val (spD t)), o14.map .val, o15.map .val, o16.map .val, o17.map .val, o18.map .val, o19.map .val, o20.map .val, o21.map .val, none, none, none, none]) = .ok [.tup [.int a, .int a'], .tup [.int b, .int b'], .tup [.int c, .int c']] (EV ns (n + 1 + 1 + 1 + 1 + 1 + 1) [o2.map .val, o3.map .val, o4.map .val, o5.map .val, o6.map .val, o7.map .val, o8.map .val, o9.map .val, o10.map .val, o11.map .val, o12.map .val, some (.val (spD t)), o14.map .val, o15.map .val, o16.map .val, o17.map .val, o18.map .val, o19.map .val, o20.map .val, o21.map .val, none, none, none, none]) := by
    simp only [lcs, w1, w2, w3]
  generalize spD t = SD at *
  simp [s_law_15, sq, notOwn_eq, k3, lc]
theorem s17_run (ρ : DL.Env) (LD SU J JU : D) (gu gt : Bool) (cu ct len : Int) (h12 : ρ[12]? = some (some (.val LD))) (h14 : ρ[14]? = some (some (.val SU))) (h15 : ρ[15]? = some (some (.val J))) (h16 : ρ[16]? = some (some (.val (.tup [.int ct, .int len]))))
    (ju : F_judge_days [.val LD, .val SU] = .ok JU []) (tu : obTru bs JU = some gu) (tt : obTru bs J = some gt) (bt : fBoolO bs [J] = some (.bl gt)) (im : gu = true → gt = true) (ag : decide (ct = len) = gt) (cc : F_count_good [.val LD, .val SU] = .ok (.tup [.int cu, .int (cu + 0)]) [] ∨ ∃ x, F_count_good [.val LD, .val SU] = .ok (.tup [.int cu, x]) []) (le : ¬ cu < ct) : s_law_17 ρ = .ok .nx ρ := by
  obtain ⟨x, cc⟩ : ∃ x, F_count_good [.val LD, .val SU] = .ok (.tup [.int cu, x]) [] := cc.elim (fun z => ⟨_, z⟩) id
  have i0 : dIx (.tup [.int ct, .int len]) (.int 0) = some (.int ct) := rfl
  have i1 : dIx (.tup [.int ct, .int len]) (.int 1) = some (.int len) := rfl
  have i2 : dIx (.tup [.int cu, x]) (.int 0) = some (.int cu) := rfl
  have eq : dEq (.int ct) (.int len) = some (.bl gt) := by rw [← ag]; simp [dEq]
  have nb := ne_bl gt gt
  cases gu with
  | true =>
    have g := im rfl
    subst g
    simp [s_law_17, toWs, h12, h14, h15, h16, ju, tu, tt, bt, i0, i1, eq, nb, cc, i2, dLt, le]
  | false => simp [s_law_17, toWs, h12, h14, h15, h16, ju, tu, bt, i0, i1, eq, nb, cc, i2, dLt, le]
theorem s17 (ns : List Int) (n : Int) (l : Lt) (t u : Ti) (h : TiFew t) (hu : TiFew u) (w : Wider t u) {o2 o3 o4 o5 o6 o7 o8 o9 o10 o11 o12 o13 o14 o15 o16 o17 o18 o19 o20 o21 : Option D} : s_law_17 (EV ns n [o2.map .val, o3.map .val, o4.map .val, o5.map .val, o6.map .val, o7.map .val, o8.map .val, o9.map .val, o10.map .val, o11.map .val, some (.val (letD l)), o13.map .val, some (.val (spD u)), some (.val (jdD l t)), some (.val (.tup [.int (cnt l t : Nat), .int ((AD t).length : Nat)])), o17.map .val, o18.map .val, o19.map .val, o20.map .val, o21.map .val, none, none, none, none]) = .ok .nx (EV ns n [o2.map .val, o3.map .val, o4.map .val, o5.map .val, o6.map .val, o7.map .val, o8.map .val, o9.map .val, o10.map .val, o11.map .val, some (.val (letD l)), o13.map .val, some (.val (spD u)), some (.val (jdD l t)), some (.val (.tup [.int (cnt l t : Nat), .int ((AD t).length : Nat)])), o17.map .val, o18.map .val, o19.map .val, o20.map .val, o21.map .val, none, none, none, none]) :=
  s17_run _ _ _ _ _ _ _ _ _ _ rfl rfl rfl rfl (judged l u hu.ok) (jdtru l u hu.ok) (jdtru l t h.ok) (jdbool l t h.ok) (good_wider h.ok w) (all_good h.ok) (.inr ⟨_, count l u hu⟩) (by have := cnt_wider (l := l) h.ok w; omega)
theorem s18 (ns : List Int) (hl : ns.length ≤ 63) (n : Int) (l : Lt) (hd : Drawn l) {o2 o3 o4 o5 o6 o7 o8 o9 o10 o11 o12 o13 o14 o15 o16 o17 o18 o19 o20 o21 : Option D} : ∃ (m : Lt) (n' : Int), Longer l m ∧ s_law_18 (EV ns n [o2.map .val, o3.map .val, o4.map .val, o5.map .val, o6.map .val, o7.map .val, o8.map .val, o9.map .val, o10.map .val, some (.val (toldD l)), some (.val (letD l)), o13.map .val, o14.map .val, o15.map .val, o16.map .val, o17.map .val, o18.map .val, o19.map .val, o20.map .val, o21.map .val, none, none, none, none]) = .ok .nx (EV ns n' [o2.map .val, o3.map .val, o4.map .val, o5.map .val, o6.map .val, o7.map .val, o8.map .val, o9.map .val, o10.map .val, some (.val (toldD l)), some (.val (letD l)), o13.map .val, o14.map .val, o15.map .val, o16.map .val, some (.val (letD m)), o18.map .val, o19.map .val, o20.map .val, o21.map .val, none, none, none, none]) := by
  obtain ⟨a, a1, ha⟩ := takenI ns hl n 9 9 rfl (by decide)
  obtain ⟨b, b1, hb⟩ := takenI ns hl (n + 1) 9 9 rfl (by decide)
  obtain ⟨c, c1, hc⟩ := takenI ns hl (n + 1 + 1) 9 9 rfl (by decide)
  have ok := hd.ok
  have hx := hd.x
  have hy := hd.y
  have hz := hd.z
  have x1 := ok.x1
  have y1 := ok.y1
  have z1 := ok.z1
  have q := withdays l ok (l.x + a) (l.y + b) (l.z + c) ⟨ok.nd, ok.nm, ok.g, ok.a1, ok.a2, ok.m1, ok.m2, by show 0 ≤ l.x + a; omega, by show l.x + a ≤ 999; omega, by show 0 ≤ l.y + b; omega, by show l.y + b ≤ 999; omega, by show 0 ≤ l.z + c; omega, by show l.z + c ≤ 999; omega, ok.w, ok.r⟩
  refine ⟨{ l with x := l.x + a, y := l.y + b, z := l.z + c }, n + 1 + 1 + 1, ⟨by show l.x ≤ l.x + a; omega, by show l.y ≤ l.y + b; omega, by show l.z ≤ l.z + c; omega⟩, ?_⟩
  have one : ∀ (w d : Int) (n : Int), F_law_take [.inn (.lst [.rol (ns.map D.int), .int n]), .val (.int 9)] = .ok (.int d) [.lst [.rol (ns.map D.int), .int (n + 1)]] → lcIt [24] (mTN 24) mTrue e_law_3 (.int w) (EV ns n [o2.map .val, o3.map .val, o4.map .val, o5.map .val, o6.map .val, o7.map .val, o8.map .val, o9.map .val, o10.map .val, some (.val (toldD l)), some (.val (letD l)), o13.map .val, o14.map .val, o15.map .val, o16.map .val, o17.map .val, o18.map .val, o19.map .val, o20.map .val, o21.map .val, none, none, none, none]) = .ok (some (.int (w + d))) (EV ns (n + 1) [o2.map .val, o3.map .val, o4.map .val, o5.map .val, o6.map .val, o7.map .val, o8.map .val, o9.map .val, o10.map .val, some (.val (toldD l)), some (.val (letD l)), o13.map .val, o14.map .val, o15.map .val, o16.map .val, o17.map .val, o18.map .val, o19.map .val, o20.map .val, o21.map .val, none, none, none, none]) := by
    intro w d n h
    simp [lcIt, e_law_3, wipeE, restore, holds, toWs, h, W.put, dAdd]
  have w1 := one l.x a n ha
  have w2 := one l.y b (n + 1) hb
  have w3 := one l.z c (n + 1 + 1) hc
  have lc : lcs (lcIt [24] (mTN 24) mTrue e_law_3) [.int l.x, .int l.y, .int l.z] (EV ns n [o2.map .val, o3.map .val, o4.map .val, o5.map .val, o6.map .val, o7.map .val, o8.map .val, o9.map .val, o10.map .val, some (.val (toldD l)), some (.val (letD l)), o13.map .val, o14.map .val, o15.map .val, o16.map .val, o17.map .val, o18.map .val, o19.map .val, o20.map .val, o21.map .val, none, none, none, none]) = .ok [.int (l.x + a), .int (l.y + b), .int (l.z + c)] (EV ns (n + 1 + 1 + 1) [o2.map .val, o3.map .val, o4.map .val, o5.map .val, o6.map .val, o7.map .val, o8.map .val, o9.map .val, o10.map .val, some (.val (toldD l)), some (.val (letD l)), o13.map .val, o14.map .val, o15.map .val, o16.map .val, o17.map .val, o18.map .val, o19.map .val, o20.map .val, o21.map .val, none, none, none, none]) := by
    simp only [lcs, w1, w2, w3]
  have td := t_days l
  have k3 : (3 : Nat) ≤ sizeLine := by decide
  have sq : (D.lst [.int l.x, .int l.y, .int l.z]).seq = some [.int l.x, .int l.y, .int l.z] := rfl
  generalize letD { l with x := l.x + a, y := l.y + b, z := l.z + c } = LM at *
  generalize letD l = LD at *
  generalize toldD l = TD at *
  simp [s_law_18, td, sq, notOwn_eq, k3, lc, toWs, q]
theorem s19_run (ρ : DL.Env) (LM SD J JM x : D) (gm gt : Bool) (cm ct len : Int) (h17 : ρ[17]? = some (some (.val LM))) (h13 : ρ[13]? = some (some (.val SD))) (h15 : ρ[15]? = some (some (.val J))) (h16 : ρ[16]? = some (some (.val (.tup [.int ct, .int len]))))
    (jm : F_judge_days [.val LM, .val SD] = .ok JM []) (tm : obTru bs JM = some gm) (tt : obTru bs J = some gt) (im : gt = true → gm = true) (cc : F_count_good [.val LM, .val SD] = .ok (.tup [.int cm, x]) []) (le : ¬ cm < ct) : s_law_19 ρ = .ok .nx ρ := by
  have i0 : dIx (.tup [.int ct, .int len]) (.int 0) = some (.int ct) := rfl
  have i2 : dIx (.tup [.int cm, x]) (.int 0) = some (.int cm) := rfl
  cases gt with
  | true =>
    have g := im rfl
    subst g
    simp [s_law_19, toWs, h13, h15, h16, h17, jm, tm, tt, i0, cc, i2, dLt, le]
  | false => simp [s_law_19, toWs, h13, h15, h16, h17, tt, i0, cc, i2, dLt, le]
theorem s19 (ns : List Int) (n : Int) (l m : Lt) (t : Ti) (h : TiFew t) (w : Longer l m) {o2 o3 o4 o5 o6 o7 o8 o9 o10 o11 o12 o13 o14 o15 o16 o17 o18 o19 o20 o21 : Option D} : s_law_19 (EV ns n [o2.map .val, o3.map .val, o4.map .val, o5.map .val, o6.map .val, o7.map .val, o8.map .val, o9.map .val, o10.map .val, o11.map .val, o12.map .val, some (.val (spD t)), o14.map .val, some (.val (jdD l t)), some (.val (.tup [.int (cnt l t : Nat), .int ((AD t).length : Nat)])), some (.val (letD m)), o18.map .val, o19.map .val, o20.map .val, o21.map .val, none, none, none, none]) = .ok .nx (EV ns n [o2.map .val, o3.map .val, o4.map .val, o5.map .val, o6.map .val, o7.map .val, o8.map .val, o9.map .val, o10.map .val, o11.map .val, o12.map .val, some (.val (spD t)), o14.map .val, some (.val (jdD l t)), some (.val (.tup [.int (cnt l t : Nat), .int ((AD t).length : Nat)])), some (.val (letD m)), o18.map .val, o19.map .val, o20.map .val, o21.map .val, none, none, none, none]) :=
  s19_run _ _ _ _ _ _ _ _ _ _ _ rfl rfl rfl rfl (judged m t h.ok) (jdtru m t h.ok) (jdtru l t h.ok) (good_longer w _) (count m t h) (by have := cnt_longer w t; omega)
theorem s20 (ns : List Int) (hl : ns.length ≤ 63) (n : Int) {o2 o3 o4 o5 o6 o7 o8 o9 o10 o11 o12 o13 o14 o15 o16 o17 o18 o19 o20 o21 : Option D} : ∃ q : Int × Int × Int, DOk q ∧ s_law_20 (EV ns n [o2.map .val, o3.map .val, o4.map .val, o5.map .val, o6.map .val, o7.map .val, o8.map .val, o9.map .val, o10.map .val, o11.map .val, o12.map .val, o13.map .val, o14.map .val, o15.map .val, o16.map .val, o17.map .val, o18.map .val, o19.map .val, o20.map .val, o21.map .val, none, none, none, none]) = .ok .nx (EV ns (n + 1 + 1 + 1) [o2.map .val, o3.map .val, o4.map .val, o5.map .val, o6.map .val, o7.map .val, o8.map .val, o9.map .val, o10.map .val, o11.map .val, o12.map .val, o13.map .val, o14.map .val, o15.map .val, o16.map .val, o17.map .val, some (.val (d3 q)), o19.map .val, o20.map .val, o21.map .val, none, none, none, none]) := by
  obtain ⟨a, a1, ha⟩ := takenI ns hl n 10 10 rfl (by decide)
  obtain ⟨b, b1, hb⟩ := takenI ns hl (n + 1) 15 15 rfl (by decide)
  obtain ⟨c, c1, hc⟩ := takenI ns hl (n + 1 + 1) 15 15 rfl (by decide)
  have k3 : (3 : Nat) ≤ sizeLine := by decide
  refine ⟨(5 + a, 15 + b, 30 + c), ⟨by show 0 ≤ 5 + (a : Int); omega, by show 5 + (a : Int) ≤ 999; omega, by show 0 ≤ 15 + (b : Int); omega, by show 15 + (b : Int) ≤ 999; omega, by show 0 ≤ 30 + (c : Int); omega, by show 30 + (c : Int) ≤ 999; omega⟩, ?_⟩
  simp [s_law_20, holds, toWs, ha, hb, hc, W.put, dAdd, k3]
theorem s21 (ns : List Int) (n : Int) (l : Lt) (q : Int × Int × Int) (h : DOk q) {o2 o3 o4 o5 o6 o7 o8 o9 o10 o11 o12 o13 o14 o15 o16 o17 o18 o19 o20 o21 : Option D} : s_law_21 (EV ns n [o2.map .val, o3.map .val, o4.map .val, o5.map .val, o6.map .val, o7.map .val, o8.map .val, o9.map .val, o10.map .val, o11.map .val, some (.val (letD l)), o13.map .val, o14.map .val, o15.map .val, o16.map .val, o17.map .val, some (.val (d3 q)), o19.map .val, o20.map .val, o21.map .val, none, none, none, none]) = .ok .nx (EV ns n [o2.map .val, o3.map .val, o4.map .val, o5.map .val, o6.map .val, o7.map .val, o8.map .val, o9.map .val, o10.map .val, o11.map .val, some (.val (letD l)), o13.map .val, o14.map .val, o15.map .val, o16.map .val, o17.map .val, some (.val (d3 q)), some (.val (.tup [.int (l.x - q.2.1), .int (l.y - q.2.2), .int (q.2.1 + l.z - q.2.2)])), o20.map .val, o21.map .val, none, none, none, none]) := by
  have c := spare l q h
  generalize letD l = LD at *
  simp [s_law_21, toWs, c]
theorem s22 (ns : List Int) (n : Int) (l : Lt) (q : Int × Int × Int) (h : DOk q) {o2 o3 o4 o5 o6 o7 o8 o9 o10 o11 o12 o13 o14 o15 o16 o17 o18 o19 o20 o21 : Option D} : s_law_22 (EV ns n [o2.map .val, o3.map .val, o4.map .val, o5.map .val, o6.map .val, o7.map .val, o8.map .val, o9.map .val, o10.map .val, o11.map .val, some (.val (letD l)), o13.map .val, o14.map .val, o15.map .val, o16.map .val, o17.map .val, some (.val (d3 q)), o19.map .val, o20.map .val, o21.map .val, none, none, none, none]) = .ok .nx (EV ns n [o2.map .val, o3.map .val, o4.map .val, o5.map .val, o6.map .val, o7.map .val, o8.map .val, o9.map .val, o10.map .val, o11.map .val, some (.val (letD l)), o13.map .val, o14.map .val, o15.map .val, o16.map .val, o17.map .val, some (.val (d3 q)), o19.map .val, some (.val (lastday l q.2.1)), o21.map .val, none, none, none, none]) := by
  have c := last_day l q.2.1 h.b1 h.b2
  have i : dIx (d3 q) (.int 1) = some (.int q.2.1) := rfl
  generalize letD l = LD at *
  generalize lastday l q.2.1 = V at *
  simp [s_law_22, i, toWs, c]
theorem s23 (ns : List Int) (n : Int) (l : Lt) (q : Int × Int × Int) (h : DOk q) {o2 o3 o4 o5 o6 o7 o8 o9 o10 o11 o12 o13 o14 o15 o16 o17 o18 o19 o20 o21 : Option D} : s_law_23 (EV ns n [o2.map .val, o3.map .val, o4.map .val, o5.map .val, o6.map .val, o7.map .val, o8.map .val, o9.map .val, o10.map .val, o11.map .val, some (.val (letD l)), o13.map .val, o14.map .val, o15.map .val, o16.map .val, o17.map .val, some (.val (d3 q)), some (.val (.tup [.int (l.x - q.2.1), .int (l.y - q.2.2), .int (q.2.1 + l.z - q.2.2)])), some (.val (lastday l q.2.1)), o21.map .val, none, none, none, none]) = .ok .nx (EV ns n [o2.map .val, o3.map .val, o4.map .val, o5.map .val, o6.map .val, o7.map .val, o8.map .val, o9.map .val, o10.map .val, o11.map .val, some (.val (letD l)), o13.map .val, o14.map .val, o15.map .val, o16.map .val, o17.map .val, some (.val (d3 q)), some (.val (.tup [.int (l.x - q.2.1), .int (l.y - q.2.2), .int (q.2.1 + l.z - q.2.2)])), some (.val (lastday l q.2.1)), o21.map .val, none, none, none, none]) := by
  have f := fault l q h
  have e := eq_empty l q
  have hg : good l q = (decide (0 ≤ l.x - q.2.1) && (decide (0 ≤ l.y - q.2.2) && decide (0 ≤ q.2.1 + l.z - q.2.2))) := by
    unfold good
    congr 1
    · exact decide_eq_decide.mpr ⟨fun _ => by omega, fun _ => by omega⟩
    · congr 1
      · exact decide_eq_decide.mpr ⟨fun _ => by omega, fun _ => by omega⟩
      · exact decide_eq_decide.mpr ⟨fun _ => by omega, fun _ => by omega⟩
  have k3 : (3 : Nat) ≤ sizeLine := by decide
  have sq : (D.tup [.int (l.x - q.2.1), .int (l.y - q.2.2), .int (q.2.1 + l.z - q.2.2)]).seq = some ([l.x - q.2.1, l.y - q.2.2, q.2.1 + l.z - q.2.2].map D.int) := rfl
  have lc := lcs_map (f := lcIt [25] (mTN 25) mTrue e_law_4) (ρ := (EV ns n [o2.map .val, o3.map .val, o4.map .val, o5.map .val, o6.map .val, o7.map .val, o8.map .val, o9.map .val, o10.map .val, o11.map .val, some (.val (letD l)), o13.map .val, o14.map .val, o15.map .val, o16.map .val, o17.map .val, some (.val (d3 q)), some (.val (.tup [.int (l.x - q.2.1), .int (l.y - q.2.2), .int (q.2.1 + l.z - q.2.2)])), some (.val (lastday l q.2.1)), o21.map .val, none, none, none, none])) D.int D.bl (fun x => decide (0 ≤ x)) [l.x - q.2.1, l.y - q.2.2, q.2.1 + l.z - q.2.2] fun x _ => by
    simp [lcIt, e_law_4, wipeE, restore, dGe]
  have fa : fAll [.lst (([l.x - q.2.1, l.y - q.2.2, q.2.1 + l.z - q.2.2].map fun x => decide (0 ≤ x)).map D.bl)] = some (.bl (good l q)) := by
    rw [hg]
    simp [fAll, D.lis, dBls]
  have hlen : ([l.x - q.2.1, l.y - q.2.2, q.2.1 + l.z - q.2.2].map D.int).length ≤ sizeLine := k3
  have nb := ne_bl (good l q) (good l q)
  have lst : (q.2.1 ≤ l.x ∧ lastday l q.2.1 = .int (if q.2.1 + l.z < l.y then q.2.1 + l.z else l.y)) ∨ (¬ q.2.1 ≤ l.x ∧ lastday l q.2.1 = .non) := by
    unfold lastday
    by_cases z : q.2.1 ≤ l.x
    · exact .inl ⟨z, by rw [if_pos z]⟩
    · exact .inr ⟨z, by rw [if_neg z]⟩
  have i2 : dIx (d3 q) (.int 2) = some (.int q.2.2) := rfl
  generalize ([l.x - q.2.1, l.y - q.2.2, q.2.1 + l.z - q.2.2].map fun x => decide (0 ≤ x)).map D.bl = BD at *
  generalize [l.x - q.2.1, l.y - q.2.2, q.2.1 + l.z - q.2.2].map D.int = ID at *
  generalize D.tup [.int (l.x - q.2.1), .int (l.y - q.2.2), .int (q.2.1 + l.z - q.2.2)] = SP at *
  generalize letD l = LD at *
  generalize d3 q = QD at *
  generalize flt l q = F at *
  generalize hG : good l q = G at *
  rcases lst with ⟨z, e2⟩ | ⟨z, e2⟩
  · have g2 : decide (q.2.2 ≤ if q.2.1 + l.z < l.y then q.2.1 + l.z else l.y) = G := by
      rw [← hG]
      unfold good
      rw [decide_eq_true z, Bool.true_and]
      by_cases z2 : q.2.1 + l.z < l.y
      · rw [if_pos z2]
        by_cases z3 : q.2.2 ≤ q.2.1 + l.z
        · have : q.2.2 ≤ l.y := by omega
          simp [z3, this]
        · simp [z3]
      · rw [if_neg z2]
        by_cases z3 : q.2.2 ≤ l.y
        · have : q.2.2 ≤ q.2.1 + l.z := by omega
          simp [z3, this]
        · simp [z3]
    generalize lastday l q.2.1 = LV at *
    subst e2
    generalize (if q.2.1 + l.z < l.y then q.2.1 + l.z else l.y) = V at *
    simp [s_law_23, toWs, f, e, sq, notOwn_eq, hlen, lc, fa, nb, dNotN, dIsN, i2, dLe, g2, dTru]
  · have g2 : G = false := by
      rw [← hG]
      unfold good
      rw [decide_eq_false z, Bool.false_and]
    generalize lastday l q.2.1 = LV at *
    subst e2
    subst g2
    simp [s_law_23, toWs, f, e, sq, notOwn_eq, hlen, lc, fa, nb, dNotN, dIsN, dTru]
theorem s24 (ns : List Int) (n : Int) (l : Lt) (t : Ti) (h : TiOk t) {o2 o3 o4 o5 o6 o7 o8 o9 o10 o11 o12 o13 o14 o15 o16 o17 o18 o19 o20 o21 : Option D} : s_law_24 (EV ns n [o2.map .val, o3.map .val, o4.map .val, o5.map .val, o6.map .val, o7.map .val, o8.map .val, o9.map .val, o10.map .val, o11.map .val, some (.val (letD l)), some (.val (spD t)), o14.map .val, o15.map .val, o16.map .val, o17.map .val, o18.map .val, o19.map .val, o20.map .val, o21.map .val, none, none, none, none]) = .ok .nx (EV ns n [o2.map .val, o3.map .val, o4.map .val, o5.map .val, o6.map .val, o7.map .val, o8.map .val, o9.map .val, o10.map .val, o11.map .val, some (.val (letD l)), some (.val (spD t)), o14.map .val, o15.map .val, o16.map .val, o17.map .val, o18.map .val, o19.map .val, o20.map .val, some (.val (lastD (rdy l t))), none, none, none, none]) := by
  have c := ready l t h
  generalize letD l = LD at *
  generalize spD t = SD at *
  generalize lastD (rdy l t) = V at *
  simp [s_law_24, toWs, c]
theorem s25 (ns : List Int) (n : Int) (l : Lt) (t : Ti) (h : TiOk t) {o2 o3 o4 o5 o6 o7 o8 o9 o10 o11 o12 o13 o14 o15 o16 o17 o18 o19 o20 o21 : Option D} : s_law_25 (EV ns n [o2.map .val, o3.map .val, o4.map .val, o5.map .val, o6.map .val, o7.map .val, o8.map .val, o9.map .val, o10.map .val, o11.map .val, some (.val (letD l)), some (.val (spD t)), o14.map .val, some (.val (jdD l t)), o16.map .val, o17.map .val, o18.map .val, o19.map .val, o20.map .val, some (.val (lastD (rdy l t))), none, none, none, none]) = .ok .nx (EV ns n [o2.map .val, o3.map .val, o4.map .val, o5.map .val, o6.map .val, o7.map .val, o8.map .val, o9.map .val, o10.map .val, o11.map .val, some (.val (letD l)), some (.val (spD t)), o14.map .val, some (.val (jdD l t)), o16.map .val, o17.map .val, o18.map .val, o19.map .val, o20.map .val, some (.val (lastD (rdy l t))), none, none, none, none]) := by
  have tt := jdtru l t h
  have c := cut1 t
  have k1 : (1 : Nat) ≤ sizeLine := by decide
  have k2 : (2 : Nat) ≤ sizeLine := by decide
  have k3 : (1 : Nat) + 2 ≤ sizeLine := by decide
  unfold lastD
  cases r : (rdy l t).getLast? with
  | none =>
    rw [ready_none h r] at tt
    generalize letD l = LD at *
    generalize jdD l t = J at *
    simp [s_law_25, dNotN, dIsN, tt]
  | some x =>
    obtain ⟨⟨x0, x1⟩, g⟩ := ready_some r
    have j := judged l (at1 t x) (at1_ok h x0 x1)
    have u := jdtru l (at1 t x) (at1_ok h x0 x1)
    rw [g] at u
    have e : spD (at1 t x) = .lst [.tup [.int x, .int x], .tup [.int t.l2, .int t.h2], .tup [.int t.l3, .int t.h3]] := rfl
    rw [e] at j
    generalize jdD l (at1 t x) = JX at *
    generalize letD l = LD at *
    generalize jdD l t = J at *
    simp [s_law_25, dNotN, dIsN, k1, k2, dCut, c, dAdd, k3, toWs, j, u]
end T38
set_option Elab.async false
set_option linter.all false
set_option maxRecDepth 100000
set_option maxHeartbeats 1000000
namespace T38
open PySem PySem.Spec PyProof.Rows L2 DL
theorem turn (ns : List Int) (hl : ns.length ≤ 63) (n : Int) {o2 o3 o4 o5 o6 o7 o8 o9 o10 o11 o12 o13 o14 o15 o16 o17 o18 o19 o20 o21 : Option D} : ∃ (n' : Int) (q2 q3 q4 q5 q6 q7 q8 q9 q10 q11 q12 q13 q14 q15 q16 q17 q18 q19 q20 q21 : Option D), b_law_1 (EV ns n [o2.map .val, o3.map .val, o4.map .val, o5.map .val, o6.map .val, o7.map .val, o8.map .val, o9.map .val, o10.map .val, o11.map .val, o12.map .val, o13.map .val, o14.map .val, o15.map .val, o16.map .val, o17.map .val, o18.map .val, o19.map .val, o20.map .val, o21.map .val, none, none, none, none]) = .ok .nx (EV ns n' [q2.map .val, q3.map .val, q4.map .val, q5.map .val, q6.map .val, q7.map .val, q8.map .val, q9.map .val, q10.map .val, q11.map .val, q12.map .val, q13.map .val, q14.map .val, q15.map .val, q16.map .val, q17.map .val, q18.map .val, q19.map .val, q20.map .val, q21.map .val, none, none, none, none]) := by
  obtain ⟨B, b1, b2, h1⟩ := s1 ns hl n (o2 := o2) (o3 := o3) (o4 := o4) (o5 := o5) (o6 := o6) (o7 := o7) (o8 := o8) (o9 := o9) (o10 := o10) (o11 := o11) (o12 := o12) (o13 := o13) (o14 := o14) (o15 := o15) (o16 := o16) (o17 := o17) (o18 := o18) (o19 := o19) (o20 := o20) (o21 := o21)
  obtain ⟨L, lB, h2⟩ := s2 ns hl (n + 1) B b1 (o2 := o2) (o3 := none) (o4 := o4) (o5 := o5) (o6 := o6) (o7 := o7) (o8 := o8) (o9 := o9) (o10 := o10) (o11 := o11) (o12 := o12) (o13 := o13) (o14 := o14) (o15 := o15) (o16 := o16) (o17 := o17) (o18 := o18) (o19 := o19) (o20 := o20) (o21 := o21)
  obtain ⟨A, M, b, hA, hM, hb, h3⟩ := s3 ns hl (n + 1 + 1) B L b1 (o2 := o2) (o3 := none) (o4 := none) (o5 := o5) (o6 := o6) (o7 := o7) (o8 := o8) (o9 := o9) (o10 := o10) (o11 := o11) (o12 := o12) (o13 := o13) (o14 := o14) (o15 := o15) (o16 := o16) (o17 := o17) (o18 := o18) (o19 := o19) (o20 := o20) (o21 := o21)
  have D : Dr B L A M b := ⟨b1, b2, lB, hA, hM, hb⟩
  have h4 := s4 ns (n + 1 + 1 + 1 + 1 + 1) B L A M b D (o2 := o2) (o3 := none) (o4 := none) (o5 := none) (o6 := none) (o7 := some (.int (b : Nat))) (o8 := o8) (o9 := o9) (o10 := o10) (o11 := o11) (o12 := o12) (o13 := o13) (o14 := o14) (o15 := o15) (o16 := o16) (o17 := o17) (o18 := o18) (o19 := o19) (o20 := o20) (o21 := o21)
  have h5 := s5 ns (n + 1 + 1 + 1 + 1 + 1) B L A M b D (o2 := o2) (o3 := none) (o4 := none) (o5 := none) (o6 := none) (o7 := some (.int (b : Nat))) (o8 := o8) (o9 := o9) (o10 := o10) (o11 := o11) (o12 := o12) (o13 := o13) (o14 := o14) (o15 := o15) (o16 := o16) (o17 := o17) (o18 := o18) (o19 := o19) (o20 := o20) (o21 := o21)
  have h6 := s6 ns (n + 1 + 1 + 1 + 1 + 1) B L A M b D (o2 := o2) (o3 := none) (o4 := none) (o5 := none) (o6 := some (.int (M : Nat))) (o7 := none) (o8 := o8) (o9 := o9) (o10 := o10) (o11 := o11) (o12 := o12) (o13 := o13) (o14 := o14) (o15 := o15) (o16 := o16) (o17 := o17) (o18 := o18) (o19 := o19) (o20 := o20) (o21 := o21)
  have h7 := s7 ns (n + 1 + 1 + 1 + 1 + 1) B L A M b D (o2 := o2) (o3 := none) (o4 := none) (o5 := none) (o6 := some (.int (M : Nat))) (o7 := none) (o8 := none) (o9 := o9) (o10 := o10) (o11 := o11) (o12 := o12) (o13 := o13) (o14 := o14) (o15 := o15) (o16 := o16) (o17 := o17) (o18 := o18) (o19 := o19) (o20 := o20) (o21 := o21)
  have h8 := s8 ns (n + 1 + 1 + 1 + 1 + 1) B L A M b D (o2 := o2) (o3 := none) (o4 := some (.int (L : Nat))) (o5 := none) (o6 := none) (o7 := some (.int (b : Nat))) (o8 := some (odD (od B L A b))) (o9 := o9) (o10 := o10) (o11 := o11) (o12 := o12) (o13 := o13) (o14 := o14) (o15 := o15) (o16 := o16) (o17 := o17) (o18 := o18) (o19 := o19) (o20 := o20) (o21 := o21)
  have h9 := s9 ns (n + 1 + 1 + 1 + 1 + 1) B L A M b D (o2 := o2) (o3 := none) (o4 := some (.int (L : Nat))) (o5 := none) (o6 := none) (o7 := some (.int (b : Nat))) (o8 := some (odD (od B L A b))) (o9 := none) (o10 := o10) (o11 := o11) (o12 := o12) (o13 := o13) (o14 := o14) (o15 := o15) (o16 := o16) (o17 := o17) (o18 := o18) (o19 := o19) (o20 := o20) (o21 := o21)
  obtain ⟨x, x1, x2, x3, h10⟩ := s10 ns (n + 1 + 1 + 1 + 1 + 1) B L A M b D (o2 := o2) (o3 := none) (o4 := some (.int (L : Nat))) (o5 := none) (o6 := some (.int (M : Nat))) (o7 := none) (o8 := none) (o9 := some (headD (tells B A M))) (o10 := o10) (o11 := o11) (o12 := o12) (o13 := o13) (o14 := o14) (o15 := o15) (o16 := o16) (o17 := o17) (o18 := o18) (o19 := o19) (o20 := o20) (o21 := o21)
  have h11 := s11 ns (n + 1 + 1 + 1 + 1 + 1) B L A M b x D x1 x2 x3 (o2 := o2) (o3 := none) (o4 := none) (o5 := none) (o6 := some (.int (M : Nat))) (o7 := none) (o8 := none) (o9 := some (headD (tells B A M))) (o10 := none) (o11 := o11) (o12 := o12) (o13 := o13) (o14 := o14) (o15 := o15) (o16 := o16) (o17 := o17) (o18 := o18) (o19 := o19) (o20 := o20) (o21 := o21)
  obtain ⟨l, n2, hd, h12⟩ := s12 ns hl (n + 1 + 1 + 1 + 1 + 1) (o2 := o2) (o3 := some (.int (B : Nat))) (o4 := some (.int (L : Nat))) (o5 := some (.int (A : Nat))) (o6 := some (.int (M : Nat))) (o7 := some (.int (b : Nat))) (o8 := some (odD (od B L A b))) (o9 := some (headD (tells B A M))) (o10 := some (.int (x : Nat))) (o11 := o11) (o12 := o12) (o13 := o13) (o14 := o14) (o15 := o15) (o16 := o16) (o17 := o17) (o18 := o18) (o19 := o19) (o20 := o20) (o21 := o21)
  have h13 := s13 ns n2 l hd (o2 := o2) (o3 := some (.int (B : Nat))) (o4 := some (.int (L : Nat))) (o5 := some (.int (A : Nat))) (o6 := some (.int (M : Nat))) (o7 := some (.int (b : Nat))) (o8 := some (odD (od B L A b))) (o9 := some (headD (tells B A M))) (o10 := some (.int (x : Nat))) (o11 := none) (o12 := o12) (o13 := o13) (o14 := o14) (o15 := o15) (o16 := o16) (o17 := o17) (o18 := o18) (o19 := o19) (o20 := o20) (o21 := o21)
  obtain ⟨t, n3, ⟨ht, g1, g2, g3, g4, g5, g6⟩, h14⟩ := s14 ns hl n2 (o2 := o2) (o3 := some (.int (B : Nat))) (o4 := some (.int (L : Nat))) (o5 := some (.int (A : Nat))) (o6 := some (.int (M : Nat))) (o7 := some (.int (b : Nat))) (o8 := some (odD (od B L A b))) (o9 := some (headD (tells B A M))) (o10 := some (.int (x : Nat))) (o11 := some (toldD l)) (o12 := some (letD l)) (o13 := o13) (o14 := o14) (o15 := o15) (o16 := o16) (o17 := o17) (o18 := o18) (o19 := o19) (o20 := o20) (o21 := o21)
  obtain ⟨u, n4, hw, hu, h15⟩ := s15 ns hl n3 t ht g1 g2 g3 g4 g5 g6 (o2 := o2) (o3 := some (.int (B : Nat))) (o4 := some (.int (L : Nat))) (o5 := some (.int (A : Nat))) (o6 := some (.int (M : Nat))) (o7 := some (.int (b : Nat))) (o8 := some (odD (od B L A b))) (o9 := some (headD (tells B A M))) (o10 := some (.int (x : Nat))) (o11 := some (toldD l)) (o12 := some (letD l)) (o13 := none) (o14 := o14) (o15 := o15) (o16 := o16) (o17 := o17) (o18 := o18) (o19 := o19) (o20 := o20) (o21 := o21)
  have h16 := s16 ns n4 l t ht (o2 := o2) (o3 := some (.int (B : Nat))) (o4 := some (.int (L : Nat))) (o5 := some (.int (A : Nat))) (o6 := some (.int (M : Nat))) (o7 := some (.int (b : Nat))) (o8 := some (odD (od B L A b))) (o9 := some (headD (tells B A M))) (o10 := some (.int (x : Nat))) (o11 := some (toldD l)) (o12 := none) (o13 := none) (o14 := some (spD u)) (o15 := o15) (o16 := o16) (o17 := o17) (o18 := o18) (o19 := o19) (o20 := o20) (o21 := o21)
  have h17 := s17 ns n4 l t u ht hu hw (o2 := o2) (o3 := some (.int (B : Nat))) (o4 := some (.int (L : Nat))) (o5 := some (.int (A : Nat))) (o6 := some (.int (M : Nat))) (o7 := some (.int (b : Nat))) (o8 := some (odD (od B L A b))) (o9 := some (headD (tells B A M))) (o10 := some (.int (x : Nat))) (o11 := some (toldD l)) (o12 := none) (o13 := some (spD t)) (o14 := none) (o15 := none) (o16 := none) (o17 := o17) (o18 := o18) (o19 := o19) (o20 := o20) (o21 := o21)
  obtain ⟨m, n5, hm, h18⟩ := s18 ns hl n4 l hd (o2 := o2) (o3 := some (.int (B : Nat))) (o4 := some (.int (L : Nat))) (o5 := some (.int (A : Nat))) (o6 := some (.int (M : Nat))) (o7 := some (.int (b : Nat))) (o8 := some (odD (od B L A b))) (o9 := some (headD (tells B A M))) (o10 := some (.int (x : Nat))) (o11 := none) (o12 := none) (o13 := some (spD t)) (o14 := some (spD u)) (o15 := some (jdD l t)) (o16 := some (.tup [.int (cnt l t : Nat), .int ((AD t).length : Nat)])) (o17 := o17) (o18 := o18) (o19 := o19) (o20 := o20) (o21 := o21)
  have h19 := s19 ns n5 l m t ht hm (o2 := o2) (o3 := some (.int (B : Nat))) (o4 := some (.int (L : Nat))) (o5 := some (.int (A : Nat))) (o6 := some (.int (M : Nat))) (o7 := some (.int (b : Nat))) (o8 := some (odD (od B L A b))) (o9 := some (headD (tells B A M))) (o10 := some (.int (x : Nat))) (o11 := some (toldD l)) (o12 := some (letD l)) (o13 := none) (o14 := some (spD u)) (o15 := none) (o16 := none) (o17 := none) (o18 := o18) (o19 := o19) (o20 := o20) (o21 := o21)
  obtain ⟨q, hq, h20⟩ := s20 ns hl n5 (o2 := o2) (o3 := some (.int (B : Nat))) (o4 := some (.int (L : Nat))) (o5 := some (.int (A : Nat))) (o6 := some (.int (M : Nat))) (o7 := some (.int (b : Nat))) (o8 := some (odD (od B L A b))) (o9 := some (headD (tells B A M))) (o10 := some (.int (x : Nat))) (o11 := some (toldD l)) (o12 := some (letD l)) (o13 := some (spD t)) (o14 := some (spD u)) (o15 := some (jdD l t)) (o16 := some (.tup [.int (cnt l t : Nat), .int ((AD t).length : Nat)])) (o17 := some (letD m)) (o18 := o18) (o19 := o19) (o20 := o20) (o21 := o21)
  have h21 := s21 ns (n5 + 1 + 1 + 1) l q hq (o2 := o2) (o3 := some (.int (B : Nat))) (o4 := some (.int (L : Nat))) (o5 := some (.int (A : Nat))) (o6 := some (.int (M : Nat))) (o7 := some (.int (b : Nat))) (o8 := some (odD (od B L A b))) (o9 := some (headD (tells B A M))) (o10 := some (.int (x : Nat))) (o11 := some (toldD l)) (o12 := none) (o13 := some (spD t)) (o14 := some (spD u)) (o15 := some (jdD l t)) (o16 := some (.tup [.int (cnt l t : Nat), .int ((AD t).length : Nat)])) (o17 := some (letD m)) (o18 := none) (o19 := o19) (o20 := o20) (o21 := o21)
  have h22 := s22 ns (n5 + 1 + 1 + 1) l q hq (o2 := o2) (o3 := some (.int (B : Nat))) (o4 := some (.int (L : Nat))) (o5 := some (.int (A : Nat))) (o6 := some (.int (M : Nat))) (o7 := some (.int (b : Nat))) (o8 := some (odD (od B L A b))) (o9 := some (headD (tells B A M))) (o10 := some (.int (x : Nat))) (o11 := some (toldD l)) (o12 := none) (o13 := some (spD t)) (o14 := some (spD u)) (o15 := some (jdD l t)) (o16 := some (.tup [.int (cnt l t : Nat), .int ((AD t).length : Nat)])) (o17 := some (letD m)) (o18 := none) (o19 := some (.tup [.int (l.x - q.2.1), .int (l.y - q.2.2), .int (q.2.1 + l.z - q.2.2)])) (o20 := o20) (o21 := o21)
  have h23 := s23 ns (n5 + 1 + 1 + 1) l q hq (o2 := o2) (o3 := some (.int (B : Nat))) (o4 := some (.int (L : Nat))) (o5 := some (.int (A : Nat))) (o6 := some (.int (M : Nat))) (o7 := some (.int (b : Nat))) (o8 := some (odD (od B L A b))) (o9 := some (headD (tells B A M))) (o10 := some (.int (x : Nat))) (o11 := some (toldD l)) (o12 := none) (o13 := some (spD t)) (o14 := some (spD u)) (o15 := some (jdD l t)) (o16 := some (.tup [.int (cnt l t : Nat), .int ((AD t).length : Nat)])) (o17 := some (letD m)) (o18 := none) (o19 := none) (o20 := none) (o21 := o21)
  have h24 := s24 ns (n5 + 1 + 1 + 1) l t ht.ok (o2 := o2) (o3 := some (.int (B : Nat))) (o4 := some (.int (L : Nat))) (o5 := some (.int (A : Nat))) (o6 := some (.int (M : Nat))) (o7 := some (.int (b : Nat))) (o8 := some (odD (od B L A b))) (o9 := some (headD (tells B A M))) (o10 := some (.int (x : Nat))) (o11 := some (toldD l)) (o12 := none) (o13 := none) (o14 := some (spD u)) (o15 := some (jdD l t)) (o16 := some (.tup [.int (cnt l t : Nat), .int ((AD t).length : Nat)])) (o17 := some (letD m)) (o18 := some (d3 q)) (o19 := some (.tup [.int (l.x - q.2.1), .int (l.y - q.2.2), .int (q.2.1 + l.z - q.2.2)])) (o20 := some (lastday l q.2.1)) (o21 := o21)
  have h25 := s25 ns (n5 + 1 + 1 + 1) l t ht.ok (o2 := o2) (o3 := some (.int (B : Nat))) (o4 := some (.int (L : Nat))) (o5 := some (.int (A : Nat))) (o6 := some (.int (M : Nat))) (o7 := some (.int (b : Nat))) (o8 := some (odD (od B L A b))) (o9 := some (headD (tells B A M))) (o10 := some (.int (x : Nat))) (o11 := some (toldD l)) (o12 := none) (o13 := none) (o14 := some (spD u)) (o15 := none) (o16 := some (.tup [.int (cnt l t : Nat), .int ((AD t).length : Nat)])) (o17 := some (letD m)) (o18 := some (d3 q)) (o19 := some (.tup [.int (l.x - q.2.1), .int (l.y - q.2.2), .int (q.2.1 + l.z - q.2.2)])) (o20 := some (lastday l q.2.1)) (o21 := none)
  refine ⟨n5 + 1 + 1 + 1, o2, some (.int (B : Nat)), some (.int (L : Nat)), some (.int (A : Nat)), some (.int (M : Nat)), some (.int (b : Nat)), some (odD (od B L A b)), some (headD (tells B A M)), some (.int (x : Nat)), some (toldD l), some (letD l), some (spD t), some (spD u), some (jdD l t), some (.tup [.int (cnt l t : Nat), .int ((AD t).length : Nat)]), some (letD m), some (d3 q), some (.tup [.int (l.x - q.2.1), .int (l.y - q.2.2), .int (q.2.1 + l.z - q.2.2)]), some (lastday l q.2.1), some (lastD (rdy l t)), ?_⟩
  unfold b_law_1
  exact seq_nx h1 (seq_nx h2 (seq_nx h3 (seq_nx h4 (seq_nx h5 (seq_nx h6 (seq_nx h7 (seq_nx h8 (seq_nx h9 (seq_nx h10 (seq_nx h11 (seq_nx h12 (seq_nx h13 (seq_nx h14 (seq_nx h15 (seq_nx h16 (seq_nx h17 (seq_nx h18 (seq_nx h19 (seq_nx h20 (seq_nx h21 (seq_nx h22 (seq_nx h23 (seq_nx h24 h25)))))))))))))))))))))))
theorem plain (ns : List Int) (h : ns.length ≤ 63) : F_law [.val (.rol (ns.map D.int))] = .ok (.bl true) [] := by
  obtain ⟨ρ', h1, n', q2, q3, q4, q5, q6, q7, q8, q9, q10, q11, q12, q13, q14, q15, q16, q17, q18, q19, q20, q21, rfl⟩ := for_keep (g := mTN 2) (b := b_law_1) (fun ρ => ∃ (n : Int) (q2 q3 q4 q5 q6 q7 q8 q9 q10 q11 q12 q13 q14 q15 q16 q17 q18 q19 q20 q21 : Option D), ρ = EV ns n [q2.map .val, q3.map .val, q4.map .val, q5.map .val, q6.map .val, q7.map .val, q8.map .val, q9.map .val, q10.map .val, q11.map .val, q12.map .val, q13.map .val, q14.map .val, q15.map .val, q16.map .val, q17.map .val, q18.map .val, q19.map .val, q20.map .val, q21.map .val, none, none, none, none]) (rngD 0 6) (fun d hd ρ ⟨n, q2, q3, q4, q5, q6, q7, q8, q9, q10, q11, q12, q13, q14, q15, q16, q17, q18, q19, q20, q21, hr⟩ => by
    subst hr
    obtain ⟨n', r2, r3, r4, r5, r6, r7, r8, r9, r10, r11, r12, r13, r14, r15, r16, r17, r18, r19, r20, r21, h⟩ := turn ns h n (o2 := some d) (o3 := q3) (o4 := q4) (o5 := q5) (o6 := q6) (o7 := q7) (o8 := q8) (o9 := q9) (o10 := q10) (o11 := q11) (o12 := q12) (o13 := q13) (o14 := q14) (o15 := q15) (o16 := q16) (o17 := q17) (o18 := q18) (o19 := q19) (o20 := q20) (o21 := q21)
    exact ⟨_, _, rfl, h, n', r2, r3, r4, r5, r6, r7, r8, r9, r10, r11, r12, r13, r14, r15, r16, r17, r18, r19, r20, r21, rfl⟩) (EV ns 0 [none, none, none, none, none, none, none, none, none, none, none, none, none, none, none, none, none, none, none, none, none, none, none, none]) ⟨0, none, none, none, none, none, none, none, none, none, none, none, none, none, none, none, none, none, none, none, none, rfl⟩
  have t2 : (2 : Nat) ≤ sizeLine := by decide
  have t6 : lim62 6 = true := by decide
  have f1 : mFor (mRng1 (mC (.int 6))) (mTN 2) b_law_1 (EV ns 0 [none, none, none, none, none, none, none, none, none, none, none, none, none, none, none, none, none, none, none, none, none, none, none, none]) = .ok .nx (EV ns n' [q2.map .val, q3.map .val, q4.map .val, q5.map .val, q6.map .val, q7.map .val, q8.map .val, q9.map .val, q10.map .val, q11.map .val, q12.map .val, q13.map .val, q14.map .val, q15.map .val, q16.map .val, q17.map .val, q18.map .val, q19.map .val, q20.map .val, q21.map .val, none, none, none, none]) := by
    generalize hR : rngD 0 6 = R at h1
    simp [t6, hR, h1]
  unfold F_law m_law
  rw [ev_runF]
  rw [seq_nx (ρ1 := (EV ns 0 [none, none, none, none, none, none, none, none, none, none, none, none, none, none, none, none, none, none, none, none, none, none, none, none])) (by simp [startE, t2]) (seq_nx f1 rfl)]
  simp [finE, outsE]
end T38
set_option Elab.async false
set_option linter.all false
set_option maxRecDepth 100000
set_option maxHeartbeats 0
namespace T38
open PySem PySem.Spec PyProof.Rows L2 DL
abbrev R : PySem.W.OpenRow := PySem.W.OpenLaw.row PySem.Challenge.rw_goodsbypapers_k38_across_checks_and_days
def gd (x : Str) (i : Nat) : He.DefD := ⟨(x, none), x, x, defArgs (top i), defBody (top i), defScope (top i), [], []⟩
def ga2 (x y : Str) (i : Nat) : He.DefD := ⟨(x, none), y, y, defArgs (top i), defBody (top i), defScope (top i), [], []⟩
def md (C m q : Str) (i j : Nat) : He.DefD := ⟨(C, some m), m, q, defArgs (inClass (top i) j), defBody (inClass (top i) j), defScope (inClass (top i) j), [], []⟩
def fn : List He.DefD := [md "Tells" "__bool__" "Tells.__bool__" 17 0, md "Hides" "__bool__" "Hides.__bool__" 18 1, md "Sure" "__bool__" "Sure.__bool__" 40 1, md "Perhaps" "__bool__" "Perhaps.__bool__" 41 1, md "Never" "__bool__" "Never.__bool__" 42 1, gd "_law_number" 56, gd "_law_take" 57, gd "is_integer" 8, gd "is_number" 9, gd "check_number" 10, gd "check_looked" 19, md "Hides" "__init__" "Hides.__init__" 18 0, gd "judge_check" 20, gd "greatest_hidden" 26, gd "ways_to_pick" 22, gd "lowest" 14, gd "odds_to_pass" 23, gd "_law_is_less" 61, gd "least_looked" 21, gd "check_fraction" 24, gd "least_for" 25, gd "_law_pick" 58, gd "_law_letter" 59, gd "is_row" 13, gd "is_name" 11, gd "check_name" 12, ga2 "check_days_letters" "check_days" 32, gd "known_row" 34, md "Letter" "__init__" "Letter.__init__" 30 0, gd "_law_letter_built" 60, gd "check_letter" 35, gd "check_spans" 44, gd "check_times" 43, gd "earliest" 49, gd "latest" 50, ga2 "check_days_days" "check_days" 45, gd "fault_of" 47, md "Never" "__init__" "Never.__init__" 42 0, md "Sure" "__init__" "Sure.__init__" 40 0, md "Perhaps" "__init__" "Perhaps.__init__" 41 0, gd "judge_days" 51, gd "all_days" 48, gd "count_good" 52, gd "with_days" 36, gd "spare_days" 54, gd "last_day" 37, gd "latest_ready" 53, gd "law" 62]
def fa : List He.Fa := [.glo "_law_number", .glo "_law_take", .glo "is_integer", .glo "is_number", .glo "check_number", .glo "check_looked", .glo "judge_check", .glo "greatest_hidden", .glo "ways_to_pick", .glo "lowest", .glo "odds_to_pass", .glo "_law_is_less", .glo "least_looked", .glo "check_fraction", .glo "least_for", .glo "_law_pick", .glo "_law_letter", .glo "is_row", .glo "is_name", .glo "check_name", .glo "check_days_letters", .glo "known_row", .glo "_law_letter_built", .glo "check_letter", .glo "check_spans", .glo "check_times", .glo "earliest", .glo "latest", .glo "check_days_days", .glo "fault_of", .glo "judge_days", .glo "all_days", .glo "count_good", .glo "with_days", .glo "spare_days", .glo "last_day", .glo "latest_ready", .glo "law", .glo "Hides", .glo "Letter", .glo "Never", .glo "Perhaps", .glo "Sure", .glo "Tells", .free "all", .free "bool", .free "enumerate", .free "int", .free "isinstance", .free "len", .free "list", .free "max", .free "min", .free "range", .free "str", .free "sum", .free "tuple", .str "FIGURES" "0123456789", .str "SMALL" "abcdefghijklmnopqrstuvwxyz", .mkr "Hides", .mkr "Letter", .mkr "Never", .mkr "Perhaps", .mkr "Sure", .meth "Tells" "__bool__", .meth "Hides" "__bool__", .meth "Sure" "__bool__", .meth "Perhaps" "__bool__", .meth "Never" "__bool__"]
def ex (K : PySem.W.Frag) : Bool := DL.cfactsB K 6 && DL.constB K "KINDS" c_KINDS && DL.constB K "MOST_BOXES" c_MOST_BOXES && DL.constB K "MOST_DAYS" c_MOST_DAYS && DL.constB K "RULES" c_RULES && DL.plainB K "Tells"
abbrev hk : PySem.W.Hook := He.hookX 5 fa fn [] [] ex
def ob (s : PySem.W.SharedT) : He.AlX := He.obsX 5 fa fn [] [] ex (HandSHeadRun.getT s)
theorem ob_eq (s : PySem.W.SharedT) : ob s = hk.obs s.abs := He.obsX_eq (HandSHeadRun.getT_eq s)
def loose : List Str := [("_wall" : Str), ("GoodsError" : Str), ("BadPart" : Str), ("TooLarge" : Str), ("is_integer" : Str), ("is_number" : Str), ("check_number" : Str), ("is_name" : Str), ("check_name" : Str), ("is_row" : Str), ("lowest" : Str), ("Tells" : Str), ("Hides" : Str), ("check_looked" : Str), ("judge_check" : Str), ("least_looked" : Str), ("ways_to_pick" : Str), ("odds_to_pass" : Str), ("check_fraction" : Str), ("least_for" : Str), ("greatest_hidden" : Str), ("Letter" : Str), ("made_of" : Str), ("check_days" : Str), ("known_row" : Str), ("check_letter" : Str), ("with_days" : Str), ("last_day" : Str), ("Sure" : Str), ("Perhaps" : Str), ("Never" : Str), ("check_times" : Str), ("check_spans" : Str), ("check_days" : Str), ("fault_of" : Str), ("all_days" : Str), ("earliest" : Str), ("latest" : Str), ("judge_days" : Str), ("count_good" : Str), ("latest_ready" : Str), ("spare_days" : Str), ("_law_number" : Str), ("_law_take" : Str), ("_law_pick" : Str), ("_law_letter" : Str), ("_law_letter_built" : Str), ("_law_is_less" : Str), ("FIGURES" : Str), ("KINDS" : Str), ("MOST_BOXES" : Str), ("MOST_DAYS" : Str), ("RULES" : Str), ("SMALL" : Str), ("check_days_days" : Str), ("check_days_letters" : Str)]
theorem run (w : World) : HandSHeadRun.RunEq R (PySem.W.view R.prog [62]) hk ob 6000 loose w := by
  intro os
  kernel_rfl
theorem facts {P : Program} {w : World} {K : PySem.W.Frag} {h : Heap} {mg : Str → Option Value} {f : Addr} (X : K.In h) (G : h.Ns mainGlobals mg) (hfa : mg ("law" : Str) = some (.ref f)) (c : He.SaysX fa fn [] [] ex w h K) :
    ∃ fd : FuncData, (∀ (s : Shared) (v : Value), BindsTo s fd ⟨[v], []⟩ [("script", v)]) ∧ ∀ base : Heap, K.In base → base.Ns mainGlobals mg → FnOk P w K mg base CX0 8 f fd ["script"] (spF K 1 F_law) := by
  have d := c.t.d
  have hm := c.more
  simp only [ex, Bool.and_eq_true] at hm
  have cf := cfacts_ok hm.1.1.1.1.1
  obtain ⟨_, D0⟩ := d.def_ 0 (d := md "Tells" "__bool__" "Tells.__bool__" 17 0) rfl
  obtain ⟨_, D1⟩ := d.def_ 1 (d := md "Hides" "__bool__" "Hides.__bool__" 18 1) rfl
  obtain ⟨_, D2⟩ := d.def_ 2 (d := md "Sure" "__bool__" "Sure.__bool__" 40 1) rfl
  obtain ⟨_, D3⟩ := d.def_ 3 (d := md "Perhaps" "__bool__" "Perhaps.__bool__" 41 1) rfl
  obtain ⟨_, D4⟩ := d.def_ 4 (d := md "Never" "__bool__" "Never.__bool__" 42 1) rfl
  obtain ⟨_, D5⟩ := d.def_ 5 (d := gd "_law_number" 56) rfl
  obtain ⟨_, D6⟩ := d.def_ 6 (d := gd "_law_take" 57) rfl
  obtain ⟨_, D7⟩ := d.def_ 7 (d := gd "is_integer" 8) rfl
  obtain ⟨_, D8⟩ := d.def_ 8 (d := gd "is_number" 9) rfl
  obtain ⟨_, D9⟩ := d.def_ 9 (d := gd "check_number" 10) rfl
  obtain ⟨_, D10⟩ := d.def_ 10 (d := gd "check_looked" 19) rfl
  obtain ⟨_, D11⟩ := d.def_ 11 (d := md "Hides" "__init__" "Hides.__init__" 18 0) rfl
  obtain ⟨_, D12⟩ := d.def_ 12 (d := gd "judge_check" 20) rfl
  obtain ⟨_, D13⟩ := d.def_ 13 (d := gd "greatest_hidden" 26) rfl
  obtain ⟨_, D14⟩ := d.def_ 14 (d := gd "ways_to_pick" 22) rfl
  obtain ⟨_, D15⟩ := d.def_ 15 (d := gd "lowest" 14) rfl
  obtain ⟨_, D16⟩ := d.def_ 16 (d := gd "odds_to_pass" 23) rfl
  obtain ⟨_, D17⟩ := d.def_ 17 (d := gd "_law_is_less" 61) rfl
  obtain ⟨_, D18⟩ := d.def_ 18 (d := gd "least_looked" 21) rfl
  obtain ⟨_, D19⟩ := d.def_ 19 (d := gd "check_fraction" 24) rfl
  obtain ⟨_, D20⟩ := d.def_ 20 (d := gd "least_for" 25) rfl
  obtain ⟨_, D21⟩ := d.def_ 21 (d := gd "_law_pick" 58) rfl
  obtain ⟨_, D22⟩ := d.def_ 22 (d := gd "_law_letter" 59) rfl
  obtain ⟨_, D23⟩ := d.def_ 23 (d := gd "is_row" 13) rfl
  obtain ⟨_, D24⟩ := d.def_ 24 (d := gd "is_name" 11) rfl
  obtain ⟨_, D25⟩ := d.def_ 25 (d := gd "check_name" 12) rfl
  obtain ⟨_, D26⟩ := d.def_ 26 (d := ga2 "check_days_letters" "check_days" 32) rfl
  obtain ⟨_, D27⟩ := d.def_ 27 (d := gd "known_row" 34) rfl
  obtain ⟨_, D28⟩ := d.def_ 28 (d := md "Letter" "__init__" "Letter.__init__" 30 0) rfl
  obtain ⟨_, D29⟩ := d.def_ 29 (d := gd "_law_letter_built" 60) rfl
  obtain ⟨_, D30⟩ := d.def_ 30 (d := gd "check_letter" 35) rfl
  obtain ⟨_, D31⟩ := d.def_ 31 (d := gd "check_spans" 44) rfl
  obtain ⟨_, D32⟩ := d.def_ 32 (d := gd "check_times" 43) rfl
  obtain ⟨_, D33⟩ := d.def_ 33 (d := gd "earliest" 49) rfl
  obtain ⟨_, D34⟩ := d.def_ 34 (d := gd "latest" 50) rfl
  obtain ⟨_, D35⟩ := d.def_ 35 (d := ga2 "check_days_days" "check_days" 45) rfl
  obtain ⟨_, D36⟩ := d.def_ 36 (d := gd "fault_of" 47) rfl
  obtain ⟨_, D37⟩ := d.def_ 37 (d := md "Never" "__init__" "Never.__init__" 42 0) rfl
  obtain ⟨_, D38⟩ := d.def_ 38 (d := md "Sure" "__init__" "Sure.__init__" 40 0) rfl
  obtain ⟨_, D39⟩ := d.def_ 39 (d := md "Perhaps" "__init__" "Perhaps.__init__" 41 0) rfl
  obtain ⟨_, D40⟩ := d.def_ 40 (d := gd "judge_days" 51) rfl
  obtain ⟨_, D41⟩ := d.def_ 41 (d := gd "all_days" 48) rfl
  obtain ⟨_, D42⟩ := d.def_ 42 (d := gd "count_good" 52) rfl
  obtain ⟨_, D43⟩ := d.def_ 43 (d := gd "with_days" 36) rfl
  obtain ⟨_, D44⟩ := d.def_ 44 (d := gd "spare_days" 54) rfl
  obtain ⟨_, D45⟩ := d.def_ 45 (d := gd "last_day" 37) rfl
  obtain ⟨_, D46⟩ := d.def_ 46 (d := gd "latest_ready" 53) rfl
  obtain ⟨_, D47⟩ := d.def_ 47 (d := gd "law" 62) rfl
  have e := hfa.symm.trans (He.glo_ok X G (d.fact 37 (f := .glo "law") rfl))
  cases e
  have b : B K mg := ⟨He.free_ok X G (d.fact 44 (f := .free "all") rfl),
    He.free_ok X G (d.fact 45 (f := .free "bool") rfl),
    He.free_ok X G (d.fact 46 (f := .free "enumerate") rfl),
    He.free_ok X G (d.fact 47 (f := .free "int") rfl),
    He.free_ok X G (d.fact 48 (f := .free "isinstance") rfl),
    He.free_ok X G (d.fact 49 (f := .free "len") rfl),
    He.free_ok X G (d.fact 50 (f := .free "list") rfl),
    He.free_ok X G (d.fact 51 (f := .free "max") rfl),
    He.free_ok X G (d.fact 52 (f := .free "min") rfl),
    He.free_ok X G (d.fact 53 (f := .free "range") rfl),
    He.free_ok X G (d.fact 54 (f := .free "str") rfl),
    He.free_ok X G (d.fact 55 (f := .free "sum") rfl),
    He.free_ok X G (d.fact 56 (f := .free "tuple") rfl),
    He.glo_ok X G (d.fact 38 (f := .glo "Hides") rfl),
    He.glo_ok X G (d.fact 39 (f := .glo "Letter") rfl),
    He.glo_ok X G (d.fact 40 (f := .glo "Never") rfl),
    He.glo_ok X G (d.fact 41 (f := .glo "Perhaps") rfl),
    He.glo_ok X G (d.fact 42 (f := .glo "Sure") rfl),
    He.glo_ok X G (d.fact 43 (f := .glo "Tells") rfl),
    (let ⟨t, e⟩ := He.str_ok X G (d.fact 57 (f := .str "FIGURES" "0123456789") rfl); ⟨(.str "0123456789", .str "0123456789" t), e, ⟨t, rfl⟩, fun _ _ => rfl⟩),
    DL.const_ok X G hm.1.1.1.1.2,
    DL.const_ok X G hm.1.1.1.2,
    DL.const_ok X G hm.1.1.2,
    DL.const_ok X G hm.1.2,
    (let ⟨t, e⟩ := He.str_ok X G (d.fact 58 (f := .str "SMALL" "abcdefghijklmnopqrstuvwxyz") rfl); ⟨(.str "abcdefghijklmnopqrstuvwxyz", .str "abcdefghijklmnopqrstuvwxyz" t), e, ⟨t, rfl⟩, fun _ _ => rfl⟩),
    DL.plain_ok hm.2⟩
  refine ⟨_, fun s v => FunD.bindsA (ps := ["script"]) D47 (fun _ _ _ _ _ _ us hl => match us, hl with | [_], _ => rfl) s [v] rfl, fun base _ _ => ?_⟩
  have hbs : ∀ q ∈ bs, Booler P w K mg base CX0 1 q.1 q.2 := List.forall_mem_cons.mpr ⟨⟨_, _, _, (He.meth_ok (d.fact 64 (f := .meth "Tells" "__bool__") rfl)).at_, (He.meth_ok (d.fact 64 (f := .meth "Tells" "__bool__") rfl)).fn, k_Tells_bool b cf D0, n_Tells_bool D0⟩, List.forall_mem_cons.mpr ⟨⟨_, _, _, (He.meth_ok (d.fact 65 (f := .meth "Hides" "__bool__") rfl)).at_, (He.meth_ok (d.fact 65 (f := .meth "Hides" "__bool__") rfl)).fn, k_Hides_bool b cf D1, n_Hides_bool D1⟩, List.forall_mem_cons.mpr ⟨⟨_, _, _, (He.meth_ok (d.fact 66 (f := .meth "Sure" "__bool__") rfl)).at_, (He.meth_ok (d.fact 66 (f := .meth "Sure" "__bool__") rfl)).fn, k_Sure_bool b cf D2, n_Sure_bool D2⟩, List.forall_mem_cons.mpr ⟨⟨_, _, _, (He.meth_ok (d.fact 67 (f := .meth "Perhaps" "__bool__") rfl)).at_, (He.meth_ok (d.fact 67 (f := .meth "Perhaps" "__bool__") rfl)).fn, k_Perhaps_bool b cf D3, n_Perhaps_bool D3⟩, List.forall_mem_cons.mpr ⟨⟨_, _, _, (He.meth_ok (d.fact 68 (f := .meth "Never" "__bool__") rfl)).at_, (He.meth_ok (d.fact 68 (f := .meth "Never" "__bool__") rfl)).fn, k_Never_bool b cf D4, n_Never_bool D4⟩, fun _ z => by cases z⟩⟩⟩⟩⟩
  have h_law_number : Callee P w K mg base CX0 1 "_law_number" 2 F_law_number := ⟨_, _, _, k_law_number b cf D5, He.glo_ok X G (d.fact 0 (f := .glo "_law_number") rfl), D5.kp, n_law_number D5, rfl⟩
  have h_law_take : Callee P w K mg base CX0 2 "_law_take" 2 F_law_take := ⟨_, _, _, k_law_take b cf h_law_number D6, He.glo_ok X G (d.fact 1 (f := .glo "_law_take") rfl), D6.kp, n_law_take D6, rfl⟩
  have h_is_integer : Callee P w K mg base CX0 1 "is_integer" 1 F_is_integer := ⟨_, _, _, k_is_integer b cf D7, He.glo_ok X G (d.fact 2 (f := .glo "is_integer") rfl), D7.kp, n_is_integer D7, rfl⟩
  have h_is_number : Callee P w K mg base CX0 2 "is_number" 3 F_is_number := ⟨_, _, _, k_is_number b cf h_is_integer D8, He.glo_ok X G (d.fact 3 (f := .glo "is_number") rfl), D8.kp, n_is_number D8, rfl⟩
  have h_check_number : Callee P w K mg base CX0 3 "check_number" 4 F_check_number := ⟨_, _, _, k_check_number b cf h_is_number D9, He.glo_ok X G (d.fact 4 (f := .glo "check_number") rfl), D9.kp, n_check_number D9, rfl⟩
  have h_check_looked : Callee P w K mg base CX0 4 "check_looked" 4 F_check_looked := ⟨_, _, _, k_check_looked b cf h_check_number D10, He.glo_ok X G (d.fact 5 (f := .glo "check_looked") rfl), D10.kp, n_check_looked D10, rfl⟩
  have h_Hides_init : Maker P w K mg base CX0 1 "Hides" 2 1 F_Hides_init := ⟨rfl, He.glo_ok X G (d.fact 38 (f := .glo "Hides") rfl), _, _, _, He.mkr_ok (d.fact 59 (f := .mkr "Hides") rfl), k_Hides_init b cf D11, n_Hides_init D11, rfl⟩
  have h_judge_check : Callee P w K mg base CX0 5 "judge_check" 4 F_judge_check := ⟨_, _, _, k_judge_check b cf h_check_looked h_Hides_init D12, He.glo_ok X G (d.fact 6 (f := .glo "judge_check") rfl), D12.kp, n_judge_check D12, rfl⟩
  have h_greatest_hidden : Callee P w K mg base CX0 5 "greatest_hidden" 3 F_greatest_hidden := ⟨_, _, _, k_greatest_hidden b cf h_check_looked D13, He.glo_ok X G (d.fact 7 (f := .glo "greatest_hidden") rfl), D13.kp, n_greatest_hidden D13, rfl⟩
  have h_ways_to_pick : Callee P w K mg base CX0 1 "ways_to_pick" 2 F_ways_to_pick := ⟨_, _, _, k_ways_to_pick b cf D14, He.glo_ok X G (d.fact 8 (f := .glo "ways_to_pick") rfl), D14.kp, n_ways_to_pick D14, rfl⟩
  have h_lowest : Callee P w K mg base CX0 1 "lowest" 2 F_lowest := ⟨_, _, _, k_lowest b cf D15, He.glo_ok X G (d.fact 9 (f := .glo "lowest") rfl), D15.kp, n_lowest D15, rfl⟩
  have h_odds_to_pass : Callee P w K mg base CX0 5 "odds_to_pass" 4 F_odds_to_pass := ⟨_, _, _, k_odds_to_pass b cf h_check_looked h_check_number h_lowest h_ways_to_pick D16, He.glo_ok X G (d.fact 10 (f := .glo "odds_to_pass") rfl), D16.kp, n_odds_to_pass D16, rfl⟩
  have h_law_is_less : Callee P w K mg base CX0 1 "_law_is_less" 2 F_law_is_less := ⟨_, _, _, k_law_is_less b cf D17, He.glo_ok X G (d.fact 11 (f := .glo "_law_is_less") rfl), D17.kp, n_law_is_less D17, rfl⟩
  have h_least_looked : Callee P w K mg base CX0 6 "least_looked" 3 F_least_looked := ⟨_, _, _, k_least_looked b cf hbs h_check_number h_judge_check D18, He.glo_ok X G (d.fact 12 (f := .glo "least_looked") rfl), D18.kp, n_least_looked D18, rfl⟩
  have h_check_fraction : Callee P w K mg base CX0 2 "check_fraction" 1 F_check_fraction := ⟨_, _, _, k_check_fraction b cf h_is_integer D19, He.glo_ok X G (d.fact 13 (f := .glo "check_fraction") rfl), D19.kp, n_check_fraction D19, rfl⟩
  have h_least_for : Callee P w K mg base CX0 6 "least_for" 4 F_least_for := ⟨_, _, _, k_least_for b cf h_check_fraction h_check_number h_odds_to_pass D20, He.glo_ok X G (d.fact 14 (f := .glo "least_for") rfl), D20.kp, n_least_for D20, rfl⟩
  have h_law_pick : Callee P w K mg base CX0 3 "_law_pick" 2 F_law_pick := ⟨_, _, _, k_law_pick b cf h_law_take D21, He.glo_ok X G (d.fact 15 (f := .glo "_law_pick") rfl), D21.kp, n_law_pick D21, rfl⟩
  have h_law_letter : Callee P w K mg base CX0 4 "_law_letter" 1 F_law_letter := ⟨_, _, _, k_law_letter b cf h_law_pick h_law_take D22, He.glo_ok X G (d.fact 16 (f := .glo "_law_letter") rfl), D22.kp, n_law_letter D22, rfl⟩
  have h_is_row : Callee P w K mg base CX0 1 "is_row" 1 F_is_row := ⟨_, _, _, k_is_row b cf D23, He.glo_ok X G (d.fact 17 (f := .glo "is_row") rfl), D23.kp, n_is_row D23, rfl⟩
  have h_is_name : Callee P w K mg base CX0 1 "is_name" 1 F_is_name := ⟨_, _, _, k_is_name b cf D24, He.glo_ok X G (d.fact 18 (f := .glo "is_name") rfl), D24.kp, n_is_name D24, rfl⟩
  have h_check_name : Callee P w K mg base CX0 2 "check_name" 2 F_check_name := ⟨_, _, _, k_check_name b cf h_is_name D25, He.glo_ok X G (d.fact 19 (f := .glo "check_name") rfl), D25.kp, n_check_name D25, rfl⟩
  have h_check_days_letters : Callee P w K mg base CX0 4 "check_days_letters" 1 F_check_days_letters := ⟨_, _, _, k_check_days_letters b cf h_check_number h_is_row D26, He.glo_ok X G (d.fact 20 (f := .glo "check_days_letters") rfl), D26.kp, n_check_days_letters D26, rfl⟩
  have h_known_row : Callee P w K mg base CX0 2 "known_row" 3 F_known_row := ⟨_, _, _, k_known_row b cf h_is_row D27, He.glo_ok X G (d.fact 21 (f := .glo "known_row") rfl), D27.kp, n_known_row D27, rfl⟩
  have h_Letter_init : Maker P w K mg base CX0 5 "Letter" 7 2 F_Letter_init := ⟨rfl, He.glo_ok X G (d.fact 39 (f := .glo "Letter") rfl), _, _, _, He.mkr_ok (d.fact 60 (f := .mkr "Letter") rfl), k_Letter_init b cf h_check_days_letters h_check_name h_check_number h_is_row h_known_row D28, n_Letter_init D28, rfl⟩
  have h_law_letter_built : Callee P w K mg base CX0 7 "_law_letter_built" 1 F_law_letter_built := ⟨_, _, _, k_law_letter_built b cf h_Letter_init D29, He.glo_ok X G (d.fact 22 (f := .glo "_law_letter_built") rfl), D29.kp, n_law_letter_built D29, rfl⟩
  have h_check_letter : Callee P w K mg base CX0 1 "check_letter" 1 F_check_letter := ⟨_, _, _, k_check_letter b cf D30, He.glo_ok X G (d.fact 23 (f := .glo "check_letter") rfl), D30.kp, n_check_letter D30, rfl⟩
  have h_check_spans : Callee P w K mg base CX0 3 "check_spans" 1 F_check_spans := ⟨_, _, _, k_check_spans b cf h_is_number h_is_row D31, He.glo_ok X G (d.fact 24 (f := .glo "check_spans") rfl), D31.kp, n_check_spans D31, rfl⟩
  have h_check_times : Callee P w K mg base CX0 4 "check_times" 2 F_check_times := ⟨_, _, _, k_check_times b cf h_check_letter h_check_spans D32, He.glo_ok X G (d.fact 25 (f := .glo "check_times") rfl), D32.kp, n_check_times D32, rfl⟩
  have h_earliest : Callee P w K mg base CX0 4 "earliest" 1 F_earliest := ⟨_, _, _, k_earliest b cf h_check_spans D33, He.glo_ok X G (d.fact 26 (f := .glo "earliest") rfl), D33.kp, n_earliest D33, rfl⟩
  have h_latest : Callee P w K mg base CX0 4 "latest" 1 F_latest := ⟨_, _, _, k_latest b cf h_check_spans D34, He.glo_ok X G (d.fact 27 (f := .glo "latest") rfl), D34.kp, n_latest D34, rfl⟩
  have h_check_days_days : Callee P w K mg base CX0 3 "check_days_days" 2 F_check_days_days := ⟨_, _, _, k_check_days_days b cf h_check_letter h_is_number h_is_row D35, He.glo_ok X G (d.fact 28 (f := .glo "check_days_days") rfl), D35.kp, n_check_days_days D35, rfl⟩
  have h_fault_of : Callee P w K mg base CX0 4 "fault_of" 2 F_fault_of := ⟨_, _, _, k_fault_of b cf h_check_days_days D36, He.glo_ok X G (d.fact 29 (f := .glo "fault_of") rfl), D36.kp, n_fault_of D36, rfl⟩
  have h_Never_init : Maker P w K mg base CX0 1 "Never" 1 5 F_Never_init := ⟨rfl, He.glo_ok X G (d.fact 40 (f := .glo "Never") rfl), _, _, _, He.mkr_ok (d.fact 61 (f := .mkr "Never") rfl), k_Never_init b cf D37, n_Never_init D37, rfl⟩
  have h_Sure_init : Maker P w K mg base CX0 1 "Sure" 1 3 F_Sure_init := ⟨rfl, He.glo_ok X G (d.fact 42 (f := .glo "Sure") rfl), _, _, _, He.mkr_ok (d.fact 63 (f := .mkr "Sure") rfl), k_Sure_init b cf D38, n_Sure_init D38, rfl⟩
  have h_Perhaps_init : Maker P w K mg base CX0 2 "Perhaps" 2 4 F_Perhaps_init := ⟨rfl, He.glo_ok X G (d.fact 41 (f := .glo "Perhaps") rfl), _, _, _, He.mkr_ok (d.fact 62 (f := .mkr "Perhaps") rfl), k_Perhaps_init b cf h_is_row D39, n_Perhaps_init D39, rfl⟩
  have h_judge_days : Callee P w K mg base CX0 5 "judge_days" 2 F_judge_days := ⟨_, _, _, k_judge_days b cf h_check_times h_earliest h_fault_of h_latest h_Never_init h_Perhaps_init h_Sure_init D40, He.glo_ok X G (d.fact 30 (f := .glo "judge_days") rfl), D40.kp, n_judge_days D40, rfl⟩
  have h_all_days : Callee P w K mg base CX0 4 "all_days" 1 F_all_days := ⟨_, _, _, k_all_days b cf h_check_spans D41, He.glo_ok X G (d.fact 31 (f := .glo "all_days") rfl), D41.kp, n_all_days D41, rfl⟩
  have h_count_good : Callee P w K mg base CX0 5 "count_good" 2 F_count_good := ⟨_, _, _, k_count_good b cf h_all_days h_check_times h_fault_of D42, He.glo_ok X G (d.fact 32 (f := .glo "count_good") rfl), D42.kp, n_count_good D42, rfl⟩
  have h_with_days : Callee P w K mg base CX0 7 "with_days" 2 F_with_days := ⟨_, _, _, k_with_days b cf h_check_letter h_Letter_init D43, He.glo_ok X G (d.fact 33 (f := .glo "with_days") rfl), D43.kp, n_with_days D43, rfl⟩
  have h_spare_days : Callee P w K mg base CX0 4 "spare_days" 2 F_spare_days := ⟨_, _, _, k_spare_days b cf h_check_days_days D44, He.glo_ok X G (d.fact 34 (f := .glo "spare_days") rfl), D44.kp, n_spare_days D44, rfl⟩
  have h_last_day : Callee P w K mg base CX0 4 "last_day" 2 F_last_day := ⟨_, _, _, k_last_day b cf h_check_letter h_check_number D45, He.glo_ok X G (d.fact 35 (f := .glo "last_day") rfl), D45.kp, n_last_day D45, rfl⟩
  have h_latest_ready : Callee P w K mg base CX0 6 "latest_ready" 2 F_latest_ready := ⟨_, _, _, k_latest_ready b cf hbs h_check_times h_judge_days D46, He.glo_ok X G (d.fact 36 (f := .glo "latest_ready") rfl), D46.kp, n_latest_ready D46, rfl⟩
  exact k_law b cf hbs h_law_is_less h_law_letter h_law_letter_built h_law_take h_count_good h_fault_of h_greatest_hidden h_judge_check h_judge_days h_last_day h_latest_ready h_least_for h_least_looked h_odds_to_pass h_spare_days h_with_days D47
theorem reps_ints {K : PySem.W.Frag} {H : Hp} {Z : Addr → Prop} : ∀ ns : List Int, Reps K H Z (ns.map D.int) (ns.map V.int)
  | [] => Reps.nil
  | n :: ns => Reps.cons (show V.int n = V.int n from rfl) (reps_ints ns)
theorem start_sp {K : PySem.W.Frag} {H : Hp} {a : Addr} {ns : List Int} (hl : ns.length ≤ 63) (hS : SqL K H a (ns.map V.int)) : spF K 1 F_law [.ref a] H (fun v _ => v = .bl true) fun _ _ _ => False := by
  have hi : inAd [W.val (.rol (ns.map D.int))] [V.ref a] = [] := by simp [inAd]
  refine ⟨fun _ => False, [.val (.rol (ns.map D.int))], rfl, fun _ z => z.elim, ⟨.ref a, [], rfl, ?_, rfl⟩, by rw [hi]; exact .nil, ?_⟩
  · show Rep K H _ (.rol _) (.ref a)
    simp only [Rep]
    exact ⟨a, _, rfl, hS.elim (fun z => .inl ⟨fun z => z, z⟩) .inr, reps_ints ns⟩
  · rw [plain ns hl]
    exact fun v H' _ _ hv => hv
end T38
open PySem PySem.W PySem.Calls PyProof.Rows
theorem PySem.Challenge.cw_goodsbypapers_k38_across_checks_and_days_holds : PySem.Challenge.rw_goodsbypapers_k38_across_checks_and_days.Holds := by
  w_on; o_law
  refine HandSHeadRun.head_any (r := OpenLaw.row PySem.Challenge.rw_goodsbypapers_k38_across_checks_and_days) (q := view (OpenLaw.row PySem.Challenge.rw_goodsbypapers_k38_across_checks_and_days).prog [62]) (H := T38.hk) (ob := T38.ob) (M := 6000) (loose := T38.loose) (d := HandSHeadRun.topDef (OpenLaw.row PySem.Challenge.rw_goodsbypapers_k38_across_checks_and_days).prog 62) (kwd := []) T38.ob_eq
    (by kernel_rfl) (fun s => by kernel_rfl) T38.run (by kernel_rfl) (by kernel_rfl) (by kernel_rfl) (by rfl) (by first | assumption | decide +kernel) (by decide +kernel) ⟨rfl, rfl, rfl, rfl, rfl, by decide +kernel⟩ ?hw ?hc
  case hw => w_witness2
  case hc =>
    refine L2.walk_ofE (l := PySem.Challenge.rw_goodsbypapers_k38_across_checks_and_days) (n := 63) (k := 8) (x := "script") (CX := L2.CX0) rfl (by decide) (by kernel_rfl) ⟨rfl, by decide, by decide⟩ ?F (fun _ _ _ _ z => z)
    intro w mg fa h Y G hmg0
    obtain ⟨K, KX, c⟩ := Y
    have hmg : mg ("law" : PySem.Str) = some (.ref fa) := by
      have e : (HandSHeadRun.topDef (OpenLaw.row PySem.Challenge.rw_goodsbypapers_k38_across_checks_and_days).prog 62).name = ("law" : PySem.Str) := by kernel_rfl
      rw [← e]
      exact hmg0
    obtain ⟨fd, hb, hF⟩ := T38.facts (P := (PySem.Challenge.rw_goodsbypapers_k38_across_checks_and_days).prog) (w := w) KX G hmg c
    exact ⟨K, fd, _, KX, hb, fun H a ns hl _ hS => T38.start_sp hl hS, hF⟩
